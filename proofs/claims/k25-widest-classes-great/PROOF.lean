import PyProof.Rows.All
import Wide.All
import OpenK.AllK
import Wide.FinOn
import HandS.ForMost
import HandS.Codes
import HandS.Style
import HandS.Flow
import HandS.Wide
import HandS.WideBits
import HandS.Defaults
import HandS.MakeKwOnly
import HandS.MakeKw
import HandS.Star
import HandS.IsInst
import HandS.Steps
import HandS.Walk
import HandS.Conv
import HandS.NoneIn
import HandS.Exc
import HandS.ExcOwn
import HandS.ExcInit
import HandS.ExcField
import HandS.CallSlots
import HandS.TryOnly
import HandS.TryMany
import HandS.WordsExc
import KE.GoesMore
import HandS.TupAny
import HandS.ExcIs
import HandS.Dict
import HandS.DictComp
import HandS.Iter
import HandS.Small
import HandS.SetKeys
import HandS.SortInts
import HandS.More
import KE.GoesZip
import HandS.Zip
import PySem.Challenge.RW_baseclash_k25_widest_classes_of_great_po
set_option Elab.async false
set_option maxRecDepth 100000
set_option linter.all false
/-! Steps of the readings, one lemma a head; heaps that keep what they hold but for one place; relations by name. -/
namespace Bc
open PySem PySem.Spec PyProof.Rows L2

/-! ### relations by name -/
section
variable {X : Cx}
def rLen (K : PySem.W.Frag) : List V → Hp → VK → Prop := fun xs H Q => ∃ p ys, xs = [.ref p] ∧ (SqL K H p ys ∨ SqT K H p ys) ∧ Q (.int ys.length) H
theorem cLen : CallR X (.builtin "len") (rLen X.K) := call_len_seq
def rLenS : List V → Hp → VK → Prop := fun xs H Q => ∃ x, xs = [.str x] ∧ x.length ≤ sizeLine ∧ Q (.int x.length) H
theorem cLenS : CallR X (.builtin "len") rLenS := call_len_str
def rAbs : List V → Hp → VK → Prop := fun xs H Q => ∃ i, xs = [.int i] ∧ Q (.int (if i < 0 then -i else i)) H
theorem cAbs : CallR X (.builtin "abs") rAbs := call_abs
def rMax2 : List V → Hp → VK → Prop := fun xs H Q => ∃ i j, xs = [.int i, .int j] ∧ Q (.int (if j > i then j else i)) H
theorem cMax2 (hc : X.calm = true) : CallR X (.builtin "max") rMax2 := call_max2 hc
def rMin2 : List V → Hp → VK → Prop := fun xs H Q => ∃ i j, xs = [.int i, .int j] ∧ Q (.int (if j < i then j else i)) H
theorem cMin2 (hc : X.calm = true) : CallR X (.builtin "min") rMin2 := call_min2 hc
def rInt1 : List V → Hp → VK → Prop := fun xs H Q => (∃ i, xs = [.int i] ∧ Q (.int i) H) ∨ ∃ k, xs = [.bl k] ∧ Q (.int (if k then 1 else 0)) H
theorem cInt1 : CallR X (.type "int") rInt1 := call_int1
def rOrd : List V → Hp → VK → Prop := fun xs H Q => ∃ x, xs = [.str x] ∧ x.length = 1 ∧ Q (.int (x.cps.getD 0 0 : Nat)) H
theorem cOrd : CallR X (.builtin "ord") rOrd := call_ord
def rListOf (K : PySem.W.Frag) : List V → Hp → VK → Prop := fun xs H Q => ∃ p ys, xs = [.ref p] ∧ (SqL K H p ys ∨ SqT K H p ys) ∧ ∀ l, H l = none → Q (.ref l) (upd H l (.lst ys))
theorem cListOf : CallR X (.type "list") (rListOf X.K) := call_list_of
def rTupOf (K : PySem.W.Frag) : List V → Hp → VK → Prop := fun xs H Q => ∃ p ys, xs = [.ref p] ∧ ((SqL K H p ys ∧ ∀ l, H l = none → Q (.ref l) (upd H l (.tup ys))) ∨ (SqT K H p ys ∧ Q (.ref p) H))
theorem cTupOf : CallR X (.type "tuple") (rTupOf X.K) := call_tuple_of
def rLeS : R2 := fun x y H Q => ∃ i j, x = .str i ∧ y = .str j ∧ Q (.bl (!decide (j.cps.toList < i.cps.toList))) H
theorem oLeS : OpR X (compareOp .LtE) rLeS := op_le_str
def CPowW (i j : Int) : Prop := 0 ≤ j ∧ (Builtin.Int.intBits i : Int) * j ≤ 2 ^ 27
theorem oPowW : OpR X (binaryOp .Pow) (rI CPowW fun i j => .int (i ^ j.toNat)) := opI fun _ _ _ _ _ _ _ hc q => PyProof.Rows.pow_int hc.1 hc.2 q
end

/-! ### steps -/
section
variable {σ : L2.St} {H : Hp} {D : Ends} {Q : VK} {QT : Bool → Hp → Prop} {QA : List V → Hp → Prop} {K : PySem.W.Frag} {te ta tb tc : TE} {t u : TS} {tt tu : TT} {as : TA} {i j : Nat} {v x y : V} {a b n m : Int}

/-- a continuation kept apart -/
def atV (Q : VK) (v : V) (H : Hp) : Prop := Q v H
theorem w_atV (q : Q v H) : atV Q v H := q
theorem w_var (h : σ[i]? = some (some v)) (q : Q v H) : tVar i σ H Q := ⟨v, h, q⟩
theorem w_c (q : Q v H) : tC v σ H Q := q
theorem w_op {r : R2} (q : ta σ H fun x H1 => tb σ H1 fun y H2 => r x y H2 Q) : tOp r ta tb σ H Q := q
theorem w_un {r : V → Hp → VK → Prop} (q : ta σ H fun x H1 => r x H1 Q) : tUn r ta σ H Q := q
theorem w_cb {r : List V → Hp → VK → Prop} (q : as σ H fun vs H1 => r vs H1 Q) : tCB r as σ H Q := q
theorem w_cons {tr : TA} (q : ta σ H fun x H1 => tr σ H1 fun xs H2 => QA (x :: xs) H2) : tCons ta tr σ H QA := q
theorem w_nil (q : QA [] H) : tNil σ H QA := q
theorem w_seq (q : t { D with nx := u D } σ H) : tSeq t u D σ H := q
theorem w_set (q : te σ H fun x H1 => D.nx (σ.set i (some x)) H1) : tAsg te (gName i) D σ H := q
theorem w_asg {g : TG} (q : te σ H fun x H1 => g x σ H1 D.nx) : tAsg te g D σ H := q
theorem w_name {Qs : L2.St → Hp → Prop} (q : Qs (σ.set i (some v)) H) : gName i v σ H Qs := q
theorem w_par (q : as σ H fun vs H1 => ∃ v w, vs = [v, w] ∧ D.nx ((σ.set i (some v)).set j (some w)) H1) : tPar i j as D σ H := q
theorem w_par2 {p q : V} {P : V → V → Prop} (h : P p q) : ∃ v w, [p, q] = [v, w] ∧ P v w := ⟨p, q, rfl, h⟩
theorem w_aug {ti : TIp} (h : σ[i]? = some (some v)) (q : te σ H fun y H1 => ti v y H1 fun z H2 => D.nx (σ.set i (some z)) H2) : tAug i te ti D σ H := ⟨v, h, q⟩
theorem w_ipI {f : Int → Int → Int} (q : Q (.int (f a b)) H) : ipI f (.int a) (.int b) H Q := ⟨a, b, rfl, rfl, q⟩
theorem w_drop (q : te σ H fun _ H1 => D.nx σ H1) : tDrop te D σ H := q
theorem w_ret (q : te σ H D.rt) : tRet te D σ H := q
theorem w_retN (q : D.rt .non H) : tRetN D σ H := q
theorem w_next (q : D.nx σ H) : tNext D σ H := q
theorem w_if {c : TT} (q : c σ H fun b H1 => if b = true then t D σ H1 else u D σ H1) : tIfS c t u D σ H := q
theorem w_test (q : te σ H fun x H' => ∃ k, x = .bl k ∧ QT k H') : tTest te σ H QT := q
theorem w_tB (q : te σ H fun x H' => ∃ k, x = .bl k ∧ QT k H') : tB te σ H QT := q
theorem w_bl {k : Bool} {P : Bool → Prop} (q : P k) : ∃ c, V.bl k = .bl c ∧ P c := ⟨k, rfl, q⟩
theorem w_and (q : tt σ H fun c H1 => if c = true then tu σ H1 QT else QT false H1) : tAnd tt tu σ H QT := q
theorem w_or (q : tt σ H fun c H1 => if c = true then QT true H1 else tu σ H1 QT) : tOr tt tu σ H QT := q
theorem w_not (q : tt σ H fun c H1 => QT (!c) H1) : tNot tt σ H QT := q
theorem w_andV (q : ta σ H fun x H1 => ∃ c, x = .bl c ∧ if c = true then tb σ H1 Q else Q (.bl false) H1) : tAndV ta tb σ H Q := q
theorem w_orV (q : ta σ H fun x H1 => ∃ c, x = .bl c ∧ if c = true then Q (.bl true) H1 else tb σ H1 Q) : tOrV ta tb σ H Q := q
theorem w_notV (q : ta σ H fun x H1 => ∃ c, x = .bl c ∧ Q (.bl (!c)) H1) : tNotV ta σ H Q := q
theorem w_ifE (q : tt σ H fun c H1 => if c = true then ta σ H1 Q else tb σ H1 Q) : tIf tt ta tb σ H Q := q
theorem w_tup (q : as σ H fun xs H1 => xs.length ≤ sizeLine ∧ ∀ p, H1 p = none → atV Q (.ref p) (upd H1 p (.tup xs))) : tTup as σ H Q := q
theorem w_lst (q : as σ H fun xs H1 => xs.length ≤ sizeLine ∧ ∀ p, H1 p = none → atV Q (.ref p) (upd H1 p (.lst xs))) : tLst as σ H Q := q
theorem w_call {sp : Sp} {dvs : List V} {E : XK} (q : as σ H fun vs H1 => sp (vs ++ dvs) H1 Q E) : tCall sp dvs E as σ H Q := q
theorem w_yes (q : QT true H) : tYes σ H QT := q
theorem w_chain {r r' : R2} (q : ta σ H fun x H1 => tb σ H1 fun y H2 => r x y H2 fun z H3 => ∃ k, z = .bl k ∧ (if k = true then tc σ H3 fun w' H4 => r' y w' H4 Q else Q (.bl false) H3)) : tChain r r' ta tb tc σ H Q := q
theorem w_I0 {g : Int → Int → V} (q : Q (g a b) H) : rI0 g (.int a) (.int b) H Q := ⟨a, b, rfl, rfl, q⟩
theorem w_I {C : Int → Int → Prop} {g : Int → Int → V} (c : C a b) (q : Q (g a b) H) : rI C g (.int a) (.int b) H Q := ⟨a, b, rfl, rfl, c, q⟩
theorem w_U {g : Int → V} (q : Q (g a) H) : rU g (.int a) H Q := ⟨a, rfl, q⟩
theorem w_eq (h : scal x y = true) (q : Q (.bl (decide (x = y))) H) : rEq x y H Q := ⟨h, q⟩
theorem w_ne (h : scal x y = true) (q : Q (.bl (!decide (x = y))) H) : rNe x y H Q := ⟨h, q⟩
theorem w_ixL {p : Addr} {xs : List V} (h : SqL K H p xs) (e : atI xs a = some v) (q : Q v H) : rIxL K (.ref p) (.int a) H Q := ⟨p, xs, a, v, rfl, rfl, h, e, q⟩
theorem w_ixT {p : Addr} {xs : List V} (h : SqT K H p xs) (e : atI xs a = some v) (q : Q v H) : rIxT K (.ref p) (.int a) H Q := ⟨p, xs, a, v, rfl, rfl, h, e, q⟩
theorem w_ixS {z : Str} {c : Nat} (h : z.length ≤ sizeLine) (e : atI z.cps.toList a = some c) (q : Q (.str ⟨#[c]⟩) H) : rIxS (.str z) (.int a) H Q := ⟨z, a, c, rfl, rfl, h, e, q⟩
theorem w_len {p : Addr} {xs : List V} (h : SqL K H p xs) (q : Q (.int xs.length) H) : rLen K [.ref p] H Q := ⟨p, xs, rfl, .inl h, q⟩
theorem w_lenT {p : Addr} {xs : List V} (h : SqT K H p xs) (q : Q (.int xs.length) H) : rLen K [.ref p] H Q := ⟨p, xs, rfl, .inr h, q⟩
theorem w_lenS {z : Str} (h : z.length ≤ sizeLine) (q : Q (.int z.length) H) : rLenS [.str z] H Q := ⟨z, rfl, h, q⟩
theorem w_abs (q : Q (.int (if a < 0 then -a else a)) H) : rAbs [.int a] H Q := ⟨a, rfl, q⟩
theorem w_max2 (q : Q (.int (if b > a then b else a)) H) : rMax2 [.int a, .int b] H Q := ⟨a, b, rfl, q⟩
theorem w_min2 (q : Q (.int (if b < a then b else a)) H) : rMin2 [.int a, .int b] H Q := ⟨a, b, rfl, q⟩
theorem w_int1 (q : Q (.int a) H) : rInt1 [.int a] H Q := .inl ⟨a, rfl, q⟩
theorem w_int1b {k : Bool} (q : Q (.int (if k then 1 else 0)) H) : rInt1 [.bl k] H Q := .inr ⟨k, rfl, q⟩
theorem w_listL {p : Addr} {xs : List V} (h : SqL K H p xs) (q : ∀ l, H l = none → atV Q (.ref l) (upd H l (.lst xs))) : rListOf K [.ref p] H Q := ⟨p, xs, rfl, .inl h, q⟩
theorem w_listT {p : Addr} {xs : List V} (h : SqT K H p xs) (q : ∀ l, H l = none → atV Q (.ref l) (upd H l (.lst xs))) : rListOf K [.ref p] H Q := ⟨p, xs, rfl, .inr h, q⟩
theorem w_tupL {p : Addr} {xs : List V} (h : SqL K H p xs) (q : ∀ l, H l = none → atV Q (.ref l) (upd H l (.tup xs))) : rTupOf K [.ref p] H Q := ⟨p, xs, rfl, .inl ⟨h, q⟩⟩
theorem w_tupT {p : Addr} {xs : List V} (h : SqT K H p xs) (q : Q (.ref p) H) : rTupOf K [.ref p] H Q := ⟨p, xs, rfl, .inr ⟨h, q⟩⟩
theorem w_setL {p : Addr} {xs : List V} {Qs : Hp → Prop} (h : H p = some (.lst xs)) (e : ixN xs.length a = some j) (q : Qs (upd H p (.lst (xs.set j v)))) : rSetL (.ref p) (.int a) v H Qs := ⟨p, xs, a, j, rfl, rfl, h, e, q⟩
theorem w_gsub {to ti : TE} {ts : TSet} {Qs : L2.St → Hp → Prop} (q : to σ H fun o H1 => ti σ H1 fun i H2 => ts o i v H2 fun H3 => Qs σ H3) : gSub to ti ts v σ H Qs := q
theorem w_bm {T : String} {r : V → List V → Hp → VK → Prop} (q : ta σ H fun x H1 => tyV K T x H1 ∧ as σ H1 fun xs H2 => r x xs H2 Q) : tBM K T r ta as σ H Q := q
theorem w_bm0 {T : String} {r : V → List V → Hp → VK → Prop} (q : ta σ H fun x H1 => tyV K T x H1 ∧ r x [] H1 Q) : tBM0 K T r ta σ H Q := q
theorem w_append {p : Addr} {xs : List V} (h : H p = some (.lst xs)) (l : xs.length < sizeLine) (q : Q .non (upd H p (.lst (xs ++ [v])))) : rAppend (.ref p) [v] H Q := ⟨p, xs, v, rfl, rfl, h, l, q⟩
theorem w_cat {p r : Addr} {xs ys : List V} (h : H p = some (.lst xs)) (h2 : H r = some (.lst ys)) (l : xs.length + ys.length ≤ sizeLine) (q : ∀ p, H p = none → atV Q (.ref p) (upd H p (.lst (xs ++ ys)))) : rCat (.ref p) (.ref r) H Q := ⟨p, r, xs, ys, rfl, rfl, h, h2, l, q⟩
theorem w_fld {f : Str} (q : ta σ H fun x H1 => ∃ a C dx fs v, x = .ref a ∧ H1 a = some (.ins C dx fs) ∧ Cls K C ∧ NoAttr K C f ∧ fs.lookup f = some v ∧ Q v H1) : tFld K ta f σ H Q := q
theorem w_sl {r : V → Option Int → Option Int → Hp → VK → Prop} {tl th : TO} (q : te σ H fun x H1 => tl σ H1 fun l H2 => th σ H2 fun u H3 => r x l u H3 Q) : tSl r te tl th σ H Q := q
theorem w_slL {p : Addr} {xs : List V} {lo hi : Option Int} (h : SqL K H p xs) (q : ∀ p, H p = none → atV Q (.ref p) (upd H p (.lst (cutV xs lo hi)))) : rSlL K (.ref p) lo hi H Q := ⟨p, xs, rfl, h, q⟩
theorem w_noPart {Qo : Option Int → Hp → Prop} (q : Qo none H) : tNoPart σ H Qo := q
theorem w_part {Qo : Option Int → Hp → Prop} (q : te σ H fun x H1 => ∃ i, x = .int i ∧ Qo (some i) H1) : tPart te σ H Qo := q
theorem w_isI {P : Int → Prop} (q : P a) : ∃ i, V.int a = .int i ∧ P i := ⟨a, rfl, q⟩
theorem w_revL {K : PySem.W.Frag} (q : te σ H fun x H1 => ∃ a xs, x = .ref a ∧ SqL K H1 a xs ∧ ∀ p, H1 p = none → atV Q (.ref p) (upd H1 p (.lst xs.reverse))) : tRevL K te σ H Q := q
theorem w_isN (q : Q (.bl (decide (x = .non))) H) : rIsN x .non H Q := ⟨rfl, q⟩
theorem w_notN (q : Q (.bl (!decide (x = .non))) H) : rNotN x .non H Q := ⟨rfl, q⟩
theorem w_bits (q : te σ H fun x H1 => ∃ i, x = .int i ∧ Q (.int (Builtin.Int.intBits i : Nat)) H1) : tBits te σ H Q := q
theorem w_gtup {K : PySem.W.Frag} {tg : TGs} {p : Addr} {xs : List V} {k : Nat} {Qs : L2.St → Hp → Prop} (h : SqT K H p xs) (l : xs.length = k) (q : tg xs σ H Qs) : gTup K k tg (.ref p) σ H Qs := ⟨p, xs, rfl, h, l, q⟩
theorem w_gcons {tg : TG} {tr : TGs} {xs : List V} {Qs : L2.St → Hp → Prop} (q : tg v σ H fun σ' H' => tr xs σ' H' Qs) : gCons tg tr (v :: xs) σ H Qs := ⟨v, xs, rfl, q⟩
theorem w_gnil {Qs : L2.St → Hp → Prop} (q : Qs σ H) : gNil [] σ H Qs := ⟨rfl, q⟩
theorem w_for {wi : TI} {g : TG} {tb : TS} (q : wi σ H fun J H1 => ∃ W : Nat → Nat → L2.St → Hp → Prop, (∃ m, W 0 m σ H1) ∧ ∀ i m σ H, W i m σ H →
      (J.stop i H ∧ D.nx σ H) ∨ (J.go i H ∧ ∃ N : L2.St → Hp → Prop, (∀ σ' H', N σ' H' → ∃ m', m' < m ∧ W (i + 1) m' σ' H') ∧ ∀ x H', J.yld i H x H' → g x σ H' fun σ2 H2 => tb { D with nx := N, ct := N, bk := D.nx } σ2 H2)) : tFor wi g tb D σ H := q
theorem w_rng1 {R : It → Hp → Prop} (q : as σ H fun vs H1 => ∃ j : Int, vs = [.int j] ∧ -(2 ^ 62) ≤ j ∧ j < 2 ^ 62 ∧ R (Itr 0 j.toNat) H1) : iRng1 as σ H R := q
theorem w_rng1i {P : Int → Prop} (h0 : -(2 ^ 62) ≤ n) (h1 : n < 2 ^ 62) (q : P n) : ∃ j : Int, [V.int n] = [.int j] ∧ -(2 ^ 62) ≤ j ∧ j < 2 ^ 62 ∧ P j := ⟨n, rfl, h0, h1, q⟩
theorem w_rng2 {R : It → Hp → Prop} (q : as σ H fun vs H1 => ∃ i j : Int, vs = [.int i, .int j] ∧ (-(2 ^ 62) ≤ i ∧ i < 2 ^ 62 ∧ -(2 ^ 62) ≤ j ∧ j < 2 ^ 62) ∧ R (Itr i (j - i).toNat) H1) : iRng2 as σ H R := q
theorem w_rng2i {P : Int → Int → Prop} (h0 : -(2 ^ 62) ≤ n ∧ n < 2 ^ 62 ∧ -(2 ^ 62) ≤ m ∧ m < 2 ^ 62) (q : P n m) : ∃ i j : Int, [V.int n, V.int m] = [.int i, .int j] ∧ (-(2 ^ 62) ≤ i ∧ i < 2 ^ 62 ∧ -(2 ^ 62) ≤ j ∧ j < 2 ^ 62) ∧ P i j := ⟨n, m, rfl, h0, q⟩
theorem w_andsz {xs : List V} {P : Prop} (h : Nat.ble xs.length 100000 = true) (q : P) : xs.length ≤ sizeLine ∧ P := ⟨Nat.le_trans (Nat.le_of_ble_eq_true h) (by decide), q⟩
theorem w_iList {R : It → Hp → Prop} (q : te σ H fun x H1 => ∃ a, x = .ref a ∧ (∃ xs, SqL K H1 a xs) ∧ R (Itl K a) H1) : iList K te σ H R := q
theorem w_iTup {R : It → Hp → Prop} (q : te σ H fun x H1 => ∃ a, x = .ref a ∧ (∃ xs, SqT K H1 a xs) ∧ R (Itt K a) H1) : iTup K te σ H R := q
theorem w_iAt {p : Addr} {P : Addr → Prop} (q : P p) : ∃ a, V.ref p = .ref a ∧ P a := ⟨p, rfl, q⟩
end
theorem w_lc {wi : TI} {g : TG} {tt : TT} {te : TE} {vs : List Nat} {σ : L2.St} {H : Hp} {Q : VK} (q : wi σ H fun J H1 => ∀ D, H1 D = none → ∃ W : Nat → Nat → Hp → Prop, (∃ m, W 0 m (upd H1 D (.lst []))) ∧ ∀ i m H, W i m H →
  (J.stop i H ∧ Q (.ref D) H) ∨ (J.go i H ∧ ∃ Nx : Hp → Prop, (∀ H', Nx H' → ∃ m', m' < m ∧ W (i + 1) m' H') ∧ ∀ x H', J.yld i H x H' → g x (wipe σ vs) H' fun σ2 H2 => wipe σ2 vs = wipe σ vs ∧ tt σ2 H2 fun b H3 =>
    if b = true then te σ2 H3 fun y H4 => ∃ acc, H4 D = some (.lst acc) ∧ acc.length < sizeLine ∧ Nx (upd H4 D (.lst (acc ++ [y]))) else Nx H3)) : tLc wi g tt te vs σ H Q := q
theorem w_iStr {te : TE} {σ : L2.St} {H : Hp} {R : It → Hp → Prop} (q : te σ H fun v H1 => ∃ x, v = .str x ∧ R (Its x) H1) : iStr te σ H R := q
theorem w_isS {z : Str} {P : Str → Prop} (q : P z) : ∃ x, V.str z = .str x ∧ P x := ⟨z, rfl, q⟩
theorem w_iL {K : PySem.W.Frag} {H : Hp} {a : Addr} {xs : List V} {P : Prop} (h : SqL K H a xs) (q : P) : (∃ xs, SqL K H a xs) ∧ P := ⟨⟨xs, h⟩, q⟩
theorem w_iT {K : PySem.W.Frag} {H : Hp} {a : Addr} {xs : List V} {P : Prop} (h : SqT K H a xs) (q : P) : (∃ xs, SqT K H a xs) ∧ P := ⟨⟨xs, h⟩, q⟩
theorem w_leS {x y : Str} {H : Hp} {Q : VK} (q : Q (.bl (!decide (y.cps.toList < x.cps.toList))) H) : rLeS (.str x) (.str y) H Q := ⟨x, y, rfl, rfl, q⟩
theorem w_all {K : PySem.W.Frag} {H : Hp} {Q : VK} {a : Addr} {bs : List Bool} (h : SqL K H a (bs.map V.bl)) (q : Q (.bl (bs.all id)) H) : rAll K [.ref a] H Q := ⟨a, bs, rfl, h, q⟩
theorem w_ord {H : Hp} {Q : VK} {c : Nat} (q : Q (.int (c : Int)) H) : rOrd [.str ⟨#[c]⟩] H Q := ⟨_, rfl, rfl, q⟩
theorem w_nx {N : L2.St → Hp → Prop} {rt : VK} {bk ct : L2.St → Hp → Prop} {σ : L2.St} {H : Hp} (q : N σ H) : Ends.nx ⟨N, rt, bk, ct⟩ σ H := q
theorem w_rt {N : L2.St → Hp → Prop} {rt : VK} {bk ct : L2.St → Hp → Prop} {v : V} {H : Hp} (q : rt v H) : Ends.rt ⟨N, rt, bk, ct⟩ v H := q
theorem w_ct {N : L2.St → Hp → Prop} {rt : VK} {bk ct : L2.St → Hp → Prop} {σ : L2.St} {H : Hp} (q : ct σ H) : Ends.ct ⟨N, rt, bk, ct⟩ σ H := q
theorem w_bk {N : L2.St → Hp → Prop} {rt : VK} {bk ct : L2.St → Hp → Prop} {σ : L2.St} {H : Hp} (q : bk σ H) : Ends.bk ⟨N, rt, bk, ct⟩ σ H := q
theorem atI0 {v : V} {xs : List V} : atI (v :: xs) 0 = some v := atI_nat (j := 0) rfl
theorem sq {K : PySem.W.Frag} {H : Hp} {a : Addr} {xs : List V} (h : H a = some (.lst xs)) : SqL K H a xs := .inl (.inl h)
theorem sqt {K : PySem.W.Frag} {H : Hp} {a : Addr} {xs : List V} (h : H a = some (.tup xs)) : SqT K H a xs := .inl (.inl h)
theorem upd_new {H : Hp} {p q : Addr} {o u : HO} (n : H p = none) (h : H q = some u) : upd H p o q = some u := (upd_ne (ne_of_none h n)).trans h
theorem ite_d {p : Prop} [Decidable p] {A B : Prop} (h1 : p → A) (h2 : ¬ p → B) : if decide p = true then A else B := by
  by_cases h : p
  · rw [if_pos (decide_eq_true h)]; exact h1 h
  · rw [if_neg (by rw [decide_eq_false h]; decide)]; exact h2 h
theorem ite_nd {p : Prop} [Decidable p] {A B : Prop} (h1 : ¬ p → A) (h2 : p → B) : if (!decide p) = true then A else B := by
  by_cases h : p
  · rw [if_neg (by rw [decide_eq_true h]; decide)]; exact h2 h
  · rw [if_pos (by rw [decide_eq_false h]; rfl)]; exact h1 h
theorem wmul {i j : Int} {a b : Nat} (ha : i.natAbs < 2 ^ a) (hb : j.natAbs < 2 ^ b) (h : a + b ≤ 900000) : CMulW i j :=
  wide_mul (a := a + 1) (b := b + 1) (Nat.lt_trans ha (Nat.pow_lt_pow_right (by decide) (Nat.lt_succ_self _))) (Nat.lt_trans hb (Nat.pow_lt_pow_right (by decide) (Nat.lt_succ_self _))) (Nat.succ_pos _) (Nat.succ_pos _) (by omega)
theorem wdiv {i j : Int} {b : Nat} (h : 0 < j) (hb : j.natAbs < 2 ^ b) (h9 : b ≤ 8000) : CDivW i j :=
  wide_div (b := b + 1) h (Nat.lt_trans hb (Nat.pow_lt_pow_right (by decide) (Nat.lt_succ_self _))) (Nat.succ_pos _) (by omega)

/-- products: one side small, or both of bounded bits -/
def CMx (i j : Int) : Prop := CMul i j ∨ CMulW i j
theorem oMul {X : Cx} : OpR X (binaryOp .Mult) (rI CMx fun i j => .int (i * j)) := opI fun _ _ _ _ _ _ _ hc q => hc.elim (fun h => mul_int q h.ok) (fun h => mul_int q h.ok)
theorem mx_l {i j : Int} (h : -(2 ^ 64) < i ∧ i < 2 ^ 64) : CMx i j := .inl (.inl h)
theorem mx_r {i j : Int} (h : -(2 ^ 64) < j ∧ j < 2 ^ 64) : CMx i j := .inl (.inr h)
theorem mx_w {i j : Int} {a b : Nat} (ha : i.natAbs < 2 ^ a) (hb : j.natAbs < 2 ^ b) (h : a + b ≤ 900000) : CMx i j := .inr (wmul ha hb h)
theorem wdiv60 {i j : Int} (h : 0 < j) (hb : j < 2 ^ 60) : CDivW i j := wdiv (b := 60) h (by omega) (by decide)

/-! ### names that are still the built-ins -/
structure Bt (mg : Str → Option Value) : Prop where
  len : mg "len" = none
  int : mg "int" = none
  abs : mg "abs" = none
  max : mg "max" = none
  min : mg "min" = none
  range : mg "range" = none
  isinstance : mg "isinstance" = none
  list : mg "list" = none
  tuple : mg "tuple" = none
  str : mg "str" = none
  bool : mg "bool" = none
  ord : mg "ord" = none
  all : mg "all" = none
  enumerate : mg "enumerate" = none
  zip : mg "zip" = none

/-! ### the purse -/
/-- a list of three ints at a: what is left of a great number, a seed, a count up to c -/
def Purse (H : Hp) (a : Addr) (c : Int) : Prop := ∃ x y z : Int, H a = some (.lst [.int x, .int y, .int z]) ∧ 0 ≤ x ∧ x < 2 ^ 1600 ∧ 0 ≤ y ∧ y < 2 ^ 31 ∧ 0 ≤ z ∧ z ≤ c
/-- all but what stands at a is kept -/
def Keep (a : Addr) (H H' : Hp) : Prop := ∀ b o, b ≠ a → H b = some o → H' b = some o
theorem Keep.refl {a : Addr} {H : Hp} : Keep a H H := fun _ _ _ h => h
theorem Keep.trans {a : Addr} {H H1 H2 : Hp} (k : Keep a H H1) (l : Keep a H1 H2) : Keep a H H2 := fun b o n h => l b o n (k b o n h)
theorem Keep.of {a : Addr} {H H' : Hp} (s : Same H H') : Keep a H H' := fun b o _ h => s b o h
theorem Keep.at_ {a b : Addr} {o : HO} {H H' : Hp} (k : Keep a H H') (n : b ≠ a) (h : H b = some o) : H' b = some o := k b o n h
theorem Same.new {H : Hp} {p : Addr} {o : HO} (n : H p = none) : Same H (upd H p o) := fun b u h => upd_new n h
theorem Purse.same {H H' : Hp} {a : Addr} {c : Int} (p : Purse H a c) (s : Same H H') : Purse H' a c := by
  obtain ⟨x, y, z, h, r⟩ := p
  exact ⟨x, y, z, s _ _ h, r⟩
theorem Purse.le {H : Hp} {a : Addr} {c d : Int} (p : Purse H a c) (h : c ≤ d) : Purse H a d := by
  obtain ⟨x, y, z, h0, h1, h2, h3, h4, h5, h6⟩ := p
  exact ⟨x, y, z, h0, h1, h2, h3, h4, h5, by omega⟩

/-! ### defs of the text by name -/
section
variable {P : Program} {w : World} {K : PySem.W.Frag} {mg : Str → Option Value} {base : Heap}
/-- a def of the module without defaults -/
structure Dn (K : PySem.W.Frag) (mg : Str → Option Value) (x : Str) (st : Stmt) (ps : List Str) : Prop where
  ex : ∃ (f : Addr) (fd : FuncData), L2.Fun K x x st f fd ∧ mg x = some (.ref f) ∧ Binds K fd ps []
theorem Dn.cal {x : Str} {st : Stmt} {N ps : List Str} {k : Nat} {sp : Sp} (F : Dn K mg x st ps) (S : FnScope N ps (defScope st)) (len : ∀ vs H Q E, sp vs H Q E → vs.length = ps.length)
    (hbody : ∀ (f : Addr) (cdv : Value) (A : Around) (outer : List Env) (s : Shared) (H : Hp) (vs : List V) (Q : VK) (E : XK), Room k (A.deeper (envOfC x (defScope st) s.heap.objs.size f cdv)) → sp vs H Q E →
      ∃ t, PSs (cxOf CX0 P w K mg base N x (defScope st) f cdv A outer s H E).nox (defBody st) t ∧ t { nx := fun _ H' => Q .non H', rt := Q } (start N vs) H) : C8.Cal P w K mg base (k + 1) x sp [] := by
  obtain ⟨f, fd, F1, m, b⟩ := F.ex
  exact ⟨f, fd, ps, [], F1.ok S len (fun cdv A outer s H vs Q E hr h => hbody f cdv A outer s H vs Q E hr h), m, F1.kp, b, .nil⟩
end

theorem atI_ints {ns : List Int} {i : Int} (h0 : 0 ≤ i) (h1 : i < (ns.map V.int).length) : atI (ns.map V.int) i = some (.int (ns.getD i.toNat 0)) := by
  obtain ⟨j, rfl⟩ := Int.eq_ofNat_of_zero_le h0
  rw [List.length_map] at h1
  have h2 : j < ns.length := by omega
  refine atI_nat ?_
  rw [List.getElem?_map, List.getElem?_eq_getElem h2]
  simp [List.getD, h2]
theorem atI_get {xs : List V} {i : Int} {v : V} (h0 : 0 ≤ i) (h : xs[i.toNat]? = some v) : atI xs i = some v := by
  obtain ⟨j, rfl⟩ := Int.eq_ofNat_of_zero_le h0
  exact atI_nat h
theorem Keep.upd {a : Addr} {H H' : Hp} {o : HO} (k : Keep a H H') : Keep a H (upd H' a o) := fun b u n h => by rw [upd_ne n]; exact k b u n h
/-! ### loops -/
section
variable {c : TT} {tb : TS} {D : Ends} {σ : L2.St} {H : Hp}
theorem while_go (Pv : L2.St → Hp → Prop) (μ : L2.St → Hp → Nat) (h0 : Pv σ H) (hs : ∀ σ H, Pv σ H → c σ H fun b H1 => if b = true then (∃ N : L2.St → Hp → Prop, (∀ σ' H', N σ' H' → ∃ m', m' < μ σ H ∧ (m' = μ σ' H' ∧ Pv σ' H')) ∧
      tb { D with nx := N, ct := N, bk := D.nx } σ H1) else D.nx σ H1) : tWhile c tb D σ H := ⟨fun m σ H => m = μ σ H ∧ Pv σ H, ⟨_, rfl, h0⟩, fun m σ H h => by
  obtain ⟨e, p⟩ := h
  subst e
  exact hs σ H p⟩
theorem while_n {Pv : L2.St → Hp → Prop} {μ : L2.St → Hp → Nat} {k : Nat} (q : tb { D with nx := fun σ' H' => μ σ' H' < k ∧ Pv σ' H', ct := fun σ' H' => μ σ' H' < k ∧ Pv σ' H', bk := D.nx } σ H) :
    ∃ N : L2.St → Hp → Prop, (∀ σ' H', N σ' H' → ∃ m', m' < k ∧ (m' = μ σ' H' ∧ Pv σ' H')) ∧ tb { D with nx := N, ct := N, bk := D.nx } σ H := ⟨_, fun _ _ h => ⟨_, h.1, rfl, h.2⟩, q⟩
end
/-! ### isinstance -/
theorem w_isi {K : PySem.W.Frag} {H : Hp} {Q : VK} {x : V} {t : Value} {n : String} {b : Bool} (ty : TyX K H x t) (k : PySem.W.kitOne K t (.type n) = some b) (q : Q (.bl b) H) : rIsi K [x, .ty n] H Q := ⟨x, .ty n, t, .type n, b, rfl, .ty n, ty, k, q⟩
theorem w_isiC {K : PySem.W.Frag} {H : Hp} {Q : VK} {x : V} {t : Value} {C : Addr} {b : Bool} (ty : TyX K H x t) (k : PySem.W.kitOne K t (.ref C) = some b) (q : Q (.bl b) H) : rIsi K [x, .ref C] H Q := ⟨x, .ref C, t, .ref C, b, rfl, .own C, ty, k, q⟩
theorem w_isi2 {K : PySem.W.Frag} {H : Hp} {Q : VK} {x : V} {t : Value} {m n : String} {p : Addr} {b : Bool} (h : H p = some (.tup [.ty m, .ty n])) (ty : TyX K H x t) (k : PySem.W.kitAny K t [.type m, .type n] = some b) (q : Q (.bl b) H) : rIsiT K [x, .ref p] H Q :=
  ⟨x, p, _, t, _, b, rfl, h, .cons (.ty m) (.cons (.ty n) .nil), ty, k, q⟩
theorem ty_int {K : PySem.W.Frag} {H : Hp} (i : Int) : TyX K H (.int i) (.type "int") := .base (.int i)
def spIsInt (K : PySem.W.Frag) : Sp := fun vs H Q _ => ∃ (v : V) (t : Value) (b1 b2 : Bool), vs = [v] ∧ TyX K H v t ∧ PySem.W.kitOne K t (.type "int") = some b1 ∧ PySem.W.kitOne K t (.type "bool") = some b2 ∧ Q (.bl (b1 && !b2)) H
theorem use_isInt {K : PySem.W.Frag} {H : Hp} {Q : VK} {E : XK} {i : Int} (q : Q (.bl true) H) : spIsInt K ([.int i] ++ []) H Q E := ⟨.int i, _, true, false, rfl, ty_int i, kit_ty (by decide +kernel), kit_ty (by decide +kernel), q⟩
/-! ### numbers -/
def spRaised : Sp := fun vs H Q _ => ∃ (f p : Int) (b : Nat), vs = [.int f, .int p] ∧ 0 ≤ p ∧ p < 2 ^ 40 ∧ f.natAbs < 2 ^ b ∧ b * p.toNat + b ≤ 100000 ∧ Q (.int (f ^ p.toNat)) H
def spGcd : Sp := fun vs H Q _ => ∃ a b : Int, vs = [.int a, .int b] ∧ Q (.int (Int.gcd a b)) H
def Pr (n : Int) : Prop := 1 < n ∧ ∀ d : Int, 2 ≤ d → d * d ≤ n → n % d ≠ 0
def spPrime : Sp := fun vs H Q _ => ∃ n : Int, vs = [.int n] ∧ n < 2 ^ 60 ∧ ∀ b : Bool, (b = true ↔ Pr n) → Q (.bl b) H
theorem natAbs_pow_lt {f : Int} {b : Nat} (h : f.natAbs < 2 ^ b) (n : Nat) : (f ^ n).natAbs < 2 ^ (b * n + 1) := by
  rw [Int.natAbs_pow]
  have h1 : f.natAbs ^ n ≤ (2 ^ b) ^ n := Nat.pow_le_pow_left (Nat.le_of_lt h) n
  rw [← Nat.pow_mul] at h1
  exact Nat.lt_of_le_of_lt h1 (Nat.pow_lt_pow_right (by decide) (Nat.lt_succ_self _))
/-! ### comprehensions that leave the heap as it was -/
section
variable {J : It} {G : Hp → Prop} {te : TE} {vs : List Nat} {σ : L2.St} {H : Hp} {D : Addr} {Qd : Hp → Prop} {j : Nat}
theorem lc_pure (xs ys : List V) (w : Walk J xs.length G (YAt xs)) (hD : H D = none) (hG : ∀ H', Same H H' → G H') (hl : ys.length = xs.length) (sz : ys.length ≤ 100000)
    (wp : ∀ v, wipe ((wipe σ vs).set j v) vs = wipe σ vs)
    (step : ∀ (i : Nat) (x y : V) (H' : Hp), xs[i]? = some x → ys[i]? = some y → Same H H' → ∀ Q' : VK, (∀ H'', Same H' H'' → Q' y H'') → te ((wipe σ vs).set j (some x)) H' Q')
    (q : ∀ H', Same H H' → H' D = some (.lst ys) → Qd H') :
    ∃ W : Nat → Nat → Hp → Prop, (∃ m, W 0 m (upd H D (.lst []))) ∧ ∀ i m H, W i m H →
      (J.stop i H ∧ Qd H) ∨ (J.go i H ∧ ∃ Nx : Hp → Prop, (∀ H', Nx H' → ∃ m', m' < m ∧ W (i + 1) m' H') ∧ ∀ x H', J.yld i H x H' → gName j x (wipe σ vs) H' fun σ2 H2 => wipe σ2 vs = wipe σ vs ∧ tYes σ2 H2 fun b H3 =>
        if b = true then te σ2 H3 fun y H4 => ∃ acc, H4 D = some (.lst acc) ∧ acc.length < sizeLine ∧ Nx (upd H4 D (.lst (acc ++ [y]))) else Nx H3) := by
  refine lc_it w (fun i H' => H' D = some (.lst (ys.take i)) ∧ Same H H') ⟨upd_same, Same.new hD⟩ (fun i H' _ h => hG H' h.2) ?_ ?_
  · rintro i x H1 H' hi ⟨h1, h2⟩ ⟨rfl, hx⟩
    refine ⟨wp _, w_yes ?_⟩
    rw [if_pos rfl]
    have hi' : i < ys.length := by omega
    refine step i x ys[i] H' hx (by simp [hi']) h2 _ fun H'' h3 => ?_
    refine ⟨_, h3 _ _ h1, ?_, ?_, ?_⟩
    · rw [List.length_take]
      have : (100000 : Nat) < sizeLine := by decide
      omega
    · rw [upd_same, List.take_succ_eq_append_getElem hi']
    · exact fun b o e => by
        rw [upd_ne (ne_of_none e hD)]
        exact h3 _ _ (h2 _ _ e)
  · rintro H' ⟨h1, h2⟩
    refine q H' h2 ?_
    rw [h1, ← hl, List.take_length]
end
/-! ### a text walked -/
theorem walk_strY {z : Str} : Walk (Its z) (z.cps.toList.map fun c => V.str ⟨#[c]⟩).length (fun _ => True) (YAt (z.cps.toList.map fun c => V.str ⟨#[c]⟩)) := by
  have h := walk_str (z := z)
  have e : (z.cps.toList.map fun c => V.str ⟨#[c]⟩).length = z.cps.size := by simp
  rw [e]
  refine h.mono (fun _ h => h) (fun i H x H' hi _ y => ?_)
  obtain ⟨rfl, c, hc, rfl⟩ := y
  refine ⟨rfl, ?_⟩
  rw [List.getElem?_map, Array.getElem?_toList, hc]
  rfl
/-! ### texts -/
/-- a text's value and its letters -/
inductive TextAt (H : Hp) : V → List Int → Prop where
  | str (z : Str) (h : ∀ c ∈ z.cps.toList, 32 ≤ c ∧ c ≤ 126) (l : z.length ≤ 100000) : TextAt H (.str z) (z.cps.toList.map Int.ofNat)
  | lst (a : Addr) (ls : List Int) (h : H a = some (.lst (ls.map V.int))) (l : ls.length ≤ 100000) : TextAt H (.ref a) ls
  | tup (a : Addr) (ls : List Int) (h : H a = some (.tup (ls.map V.int))) (l : ls.length ≤ 100000) : TextAt H (.ref a) ls
theorem TextAt.same {H H' : Hp} {v : V} {ls : List Int} (t : TextAt H v ls) (s : Same H H') : TextAt H' v ls := by
  cases t with
  | str z h l => exact .str z h l
  | lst a _ h l => exact .lst a _ (s _ _ h) l
  | tup a _ h l => exact .tup a _ (s _ _ h) l
theorem TextAt.len {H : Hp} {v : V} {ls : List Int} (t : TextAt H v ls) : ls.length ≤ 100000 := by
  cases t with
  | str z h l => rw [List.length_map]; exact l
  | lst a _ h l => exact l
  | tup a _ h l => exact l
theorem lt1 {a b : Nat} : (([a] : List Nat) < [b]) ↔ a < b := by simp [List.cons_lt_cons_iff]
theorem sign_lo {c : Nat} (h : 32 ≤ c) : decide ((Str.mk #[c]).cps.toList < (Str.ofString " ").cps.toList) = false := decide_eq_false fun z => by
  have : c < 32 := lt1.mp z
  omega
theorem sign_hi {c : Nat} (h : c ≤ 126) : decide ((Str.ofString "~").cps.toList < (Str.mk #[c]).cps.toList) = false := decide_eq_false fun z => by
  have : 126 < c := lt1.mp z
  omega
theorem all_true {α : Type} (l : List α) : (l.map fun _ => true).all id = true := by
  induction l with
  | nil => rfl
  | cons a r ih => rw [List.map_cons, List.all_cons, ih]; rfl
theorem get_map {α β : Type} {f : α → β} {l : List α} {i : Nat} {y : β} (h : (l.map f)[i]? = some y) : ∃ x, l[i]? = some x ∧ f x = y := by
  rw [List.getElem?_map] at h
  cases e : l[i]? with
  | none => rw [e] at h; cases h
  | some x => rw [e] at h; exact ⟨x, rfl, Option.some.inj h⟩
def spIsText : Sp := fun vs H Q _ => ∃ (v : V) (ls : List Int), vs = [v] ∧ TextAt H v ls ∧ ∀ H', Same H H' → Q (.bl true) H'
def spRead : Sp := fun vs H Q _ => ∃ (v : V) (ls : List Int), vs = [v] ∧ TextAt H v ls ∧ ∀ H' t, Same H H' → H' t = some (.tup (ls.map V.int)) → Q (.ref t) H'
theorem kitA {K : PySem.W.Frag} {t m n : String} {b : Bool} (h : (match kitB t m with | some true => some true | some false => (match kitB t n with | some true => some true | some false => some false | none => none) | none => none) = some b) : PySem.W.kitAny K (.type t) [.type m, .type n] = some b := h
/-! ### moduli, markings, ways -/
def num (ps : List (Int × Int)) : Int := ps.foldl (fun n p => n * p.1 ^ p.2.toNat) 1
def Asc : Int → List (Int × Int) → Prop
  | _, [] => True
  | l, q :: r => l < q.1 ∧ 0 < q.2 ∧ Pr q.1 ∧ Asc q.1 r
def Small (ps : List (Int × Int)) : Prop := (∀ q ∈ ps, 0 < q.1 ∧ q.1 < 1024 ∧ 0 < q.2 ∧ q.2 ≤ 100) ∧ ps.length ≤ 64
theorem num_snoc (ps : List (Int × Int)) (q : Int × Int) : num (ps ++ [q]) = num ps * q.1 ^ q.2.toNat := by
  unfold num
  rw [List.foldl_append]
  rfl
theorem num_take {ps : List (Int × Int)} {i : Nat} {q : Int × Int} (h : ps[i]? = some q) : num (ps.take (i + 1)) = num (ps.take i) * q.1 ^ q.2.toNat := by
  obtain ⟨hi, e⟩ := List.getElem?_eq_some_iff.mp h
  rw [List.take_succ_eq_append_getElem hi, num_snoc, e]
theorem num_bound {ps : List (Int × Int)} (h : Small ps) : ∀ i, i ≤ ps.length → 0 < num (ps.take i) ∧ (num (ps.take i)).natAbs < 2 ^ (1010 * i + 1)
  | 0, _ => by
    rw [List.take_zero]
    exact ⟨by decide, by decide⟩
  | i + 1, hi => by
    have ih := num_bound h i (by omega)
    have hlt : i < ps.length := by omega
    have hq := h.1 ps[i] (List.getElem_mem hlt)
    rw [num_take (q := ps[i]) (by simp [hlt])]
    have h1 : ((ps[i].1) ^ (ps[i].2.toNat)).natAbs < 2 ^ (10 * ps[i].2.toNat + 1) := natAbs_pow_lt (b := 10) (by show ps[i].1.natAbs < 1024; omega) _
    refine ⟨Int.mul_pos ih.1 (Int.pow_pos hq.1), ?_⟩
    have h2 := wide_lt ih.2 h1
    refine Nat.lt_of_lt_of_le h2 (Nat.pow_le_pow_right (by decide) ?_)
    omega
theorem num_pos {ps : List (Int × Int)} (h : Small ps) : 0 < num ps := by
  have := (num_bound h ps.length (Nat.le_refl _)).1
  rwa [List.take_length] at this
theorem num_lt {ps : List (Int × Int)} (h : Small ps) : (num ps).natAbs < 2 ^ 70000 := by
  have := (num_bound h ps.length (Nat.le_refl _)).2
  rw [List.take_length] at this
  refine Nat.lt_of_lt_of_le this (Nat.pow_le_pow_right (by decide) ?_)
  have := h.2
  omega
theorem Asc.at_ : ∀ {l : Int} {ps : List (Int × Int)} {i : Nat} {q : Int × Int}, Asc l ps → ps[i]? = some q → ((ps.take i).getLast?.map (·.1)).getD l < q.1 ∧ 0 < q.2 ∧ Pr q.1
  | l, [], i, q, _, h => by simp at h
  | l, r :: ps, 0, q, a, h => by
    have e : r = q := by simpa using h
    subst e
    exact ⟨a.1, a.2.1, a.2.2.1⟩
  | l, r :: ps, i + 1, q, a, h => by
    have ih := Asc.at_ (i := i) a.2.2.2 (by simpa using h)
    refine ⟨?_, ih.2⟩
    have e := ih.1
    rw [List.take_succ_cons, List.getLast?_cons]
    cases hh : (ps.take i).getLast? with
    | none => rw [hh] at e; exact e
    | some z => rw [hh] at e; exact e
def Tp (H : Hp) (p : Int × Int) (t : Addr) : Prop := H t = some (.tup [.int p.1, .int p.2])
theorem paired_get {α β : Type} {R : α → β → Prop} : ∀ {xs : List α} {ys : List β} {i : Nat} {y : β}, Paired R xs ys → ys[i]? = some y → ∃ x, xs[i]? = some x ∧ R x y
  | _, _, _, _, .nil, h => by simp at h
  | _, _, 0, _, .cons r _, h => by
    have e := Option.some.inj (by simpa using h)
    subst e
    exact ⟨_, rfl, r⟩
  | _, _, i + 1, _, .cons _ t, h => by
    obtain ⟨x, h1, h2⟩ := paired_get (i := i) t (by simpa using h)
    exact ⟨x, by simpa using h1, h2⟩
theorem paired_imp {α β : Type} {R S : α → β → Prop} (h : ∀ x y, R x y → S x y) : ∀ {xs : List α} {ys : List β}, Paired R xs ys → Paired S xs ys
  | _, _, .nil => .nil
  | _, _, .cons r t => .cons (h _ _ r) (paired_imp h t)
theorem lk0 {f : Str} {v : V} {r : List (Str × V)} : List.lookup f ((f, v) :: r) = some v := by simp [List.lookup]
theorem lkS {f g : Str} {u : V} {r : List (Str × V)} (h : f ≠ g) : List.lookup f ((g, u) :: r) = List.lookup f r := by
  rw [List.lookup]
  have e : (f == g) = false := by simpa using h
  rw [e]
theorem putS {f g : Str} {u v : V} {r : List (Str × V)} (h : g ≠ f) : putF f v ((g, u) :: r) = (g, u) :: putF f v r := by
  unfold putF
  rw [if_neg h]
  cases r <;> rfl
theorem put0 {f : Str} {v : V} : putF f v [] = [(f, v)] := rfl
/-- a class whose instances are plain -/
structure ClsF (K : PySem.W.Frag) (C : Addr) : Prop where
  cl : Cls K C
  ha : PySem.W.findIn K (.ref C) "__class__" = some (some (.builtin "object.__class__"))
  hn : PySem.W.specialIn K (.builtin "object.__class__") "__get__" = some (some (.builtin "getset_descriptor.__get__"))
  htk : PySem.W.takesIn K (.builtin "object.__class__") = some true
  hm : PySem.W.mroIn K C (.type "object") = some true
theorem ClsF.ty {K : PySem.W.Frag} {C : Addr} (c : ClsF K C) {H : Hp} {a dx : Addr} {fs : List (Str × V)} (h : H a = some (.ins C dx fs)) : TyX K H (.ref a) (.ref C) := .base (.ins h c.cl c.ha c.hn c.htk c.hm)
theorem kit_own {K : PySem.W.Frag} {C : Addr} : PySem.W.kitOne K (.ref C) (.ref C) = some true := by
  unfold PySem.W.kitOne
  rw [if_pos (by simp)]
/-- the addresses of the three classes -/
structure CA where
  md : Addr
  kg : Addr
  wy : Addr
structure Kx (K : PySem.W.Frag) (mg : Str → Option Value) (c : CA) : Prop where
  md : ClsF K c.md
  kg : ClsF K c.kg
  wy : ClsF K c.wy
  mgMd : mg "Modulus" = some (.ref c.md)
  mgMk : mg "Marking" = some (.ref c.kg)
  mgWy : mg "Way" = some (.ref c.wy)
  number : NoAttr K c.md "number"
  factors : NoAttr K c.md "factors"
  low : NoAttr K c.kg "low"
  shift : NoAttr K c.kg "shift"
  lead : NoAttr K c.kg "lead"
  marking : NoAttr K c.wy "marking"
  modulus : NoAttr K c.wy "modulus"
  wnumber : NoAttr K c.wy "number"
  base : NoAttr K c.wy "base"
def mdF (n : Int) (t : Addr) : List (Str × V) := [("number", .int n), ("factors", .ref t)]
def mkF (low : Bool) (shift : Int) (lead : Bool) : List (Str × V) := [("low", .bl low), ("shift", .int shift), ("lead", .bl lead)]
def wyF (k m : Addr) (n b : Int) : List (Str × V) := [("marking", .ref k), ("modulus", .ref m), ("number", .int n), ("base", .int b)]
def ModAt (c : CA) (H : Hp) (m : Addr) (ps : List (Int × Int)) : Prop := ∃ (dx t : Addr) (ts : List Addr), H m = some (.ins c.md dx (mdF (num ps) t)) ∧ H t = some (.tup (ts.map V.ref)) ∧ Paired (Tp H) ps ts ∧ Asc 0 ps ∧ Small ps
def MkAt (c : CA) (H : Hp) (k : Addr) (low : Bool) (shift : Int) (lead : Bool) : Prop := ∃ dx : Addr, H k = some (.ins c.kg dx (mkF low shift lead))
/-- how letters are added up -/
structure Sty where
  low : Bool
  shift : Int
  lead : Bool
def WayAt (c : CA) (H : Hp) (a : Addr) (b : Int) (ps : List (Int × Int)) (y : Sty) : Prop := ∃ (dx m k : Addr), H a = some (.ins c.wy dx (wyF k m (num ps) b)) ∧ ModAt c H m ps ∧ MkAt c H k y.low y.shift y.lead ∧ 0 ≤ b ∧ b < num ps
theorem ModAt.same {c : CA} {H H' : Hp} {m : Addr} {ps : List (Int × Int)} (h : ModAt c H m ps) (s : Same H H') : ModAt c H' m ps := by
  obtain ⟨dx, t, ts, h1, h2, h3, h4⟩ := h
  exact ⟨dx, t, ts, s _ _ h1, s _ _ h2, paired_imp (fun _ _ z => s _ _ z) h3, h4⟩
theorem MkAt.same {c : CA} {H H' : Hp} {k : Addr} {l : Bool} {s : Int} {d : Bool} (h : MkAt c H k l s d) (e : Same H H') : MkAt c H' k l s d := by
  obtain ⟨dx, h1⟩ := h
  exact ⟨dx, e _ _ h1⟩
theorem WayAt.same {c : CA} {H H' : Hp} {a : Addr} {b : Int} {ps : List (Int × Int)} {y : Sty} (h : WayAt c H a b ps y) (s : Same H H') : WayAt c H' a b ps y := by
  obtain ⟨dx, m, k, h1, h2, h3, h4⟩ := h
  exact ⟨dx, m, k, s _ _ h1, h2.same s, h3.same s, h4⟩
/-- coefficients of the sum, that of the highest power first -/
def hf (y : Sty) (ls : List Int) : List Int := (if y.lead then 1 else 0) :: (if y.low then (ls.map (· + y.shift)).reverse else ls.map (· + y.shift))
def restAt (cs : List Int) (b n : Int) : Int := cs.foldl (fun f c => (f * b + c) % n) 0
def mark (y : Sty) (b n : Int) (ls : List Int) : Int := restAt (hf y ls) b n
section
variable {σ : L2.St} {H : Hp} {D : Ends} {Q : VK} {K : PySem.W.Frag} {ta tv : TE} {f : Str} {x C dx : Addr} {fs : List (Str × V)} {v y : V}
theorem w_fldi {P : V → Prop} (h : H x = some (.ins C dx fs)) (c : Cls K C) (n : NoAttr K C f) (l : fs.lookup f = some v) (q : P v) : ∃ a C dx fs v, V.ref x = .ref a ∧ H a = some (.ins C dx fs) ∧ Cls K C ∧ NoAttr K C f ∧ fs.lookup f = some v ∧ P v := ⟨x, C, dx, fs, v, rfl, h, c, n, l, q⟩
theorem w_sfld (q : tv σ H fun y H1 => ta σ H1 fun x H2 => ∃ a C dx fs, x = .ref a ∧ H2 a = some (.ins C dx fs) ∧ Cls K C ∧ NoAttr K C f ∧ fs.length < 1000 ∧ D.nx σ (upd H2 a (.ins C dx (putF f y fs)))) : sFld K ta tv f D σ H := q
theorem w_sfldi {P : Hp → Prop} (h : H x = some (.ins C dx fs)) (c : Cls K C) (n : NoAttr K C f) (l : fs.length < 1000) (q : P (upd H x (.ins C dx (putF f y fs)))) : ∃ a C dx fs, V.ref x = .ref a ∧ H a = some (.ins C dx fs) ∧ Cls K C ∧ NoAttr K C f ∧ fs.length < 1000 ∧ P (upd H a (.ins C dx (putF f y fs))) :=
  ⟨x, C, dx, fs, rfl, h, c, n, l, q⟩
theorem w_make {sp : Sp} {dvs : List V} {E : XK} {as : TA} (q : as σ H fun vs H1 => ∀ x dx, H1 x = none → H1 dx = none → dx ≠ x → sp (.ref x :: (vs ++ dvs)) (upd (upd H1 dx (.own x)) x (.ins C dx [])) (fun v H2 => v = .non ∧ Q (.ref x) H2) E) : tMake C sp dvs E as σ H Q := q
theorem w_meth {m : Str} {sp : Sp} {dvs : List V} {E : XK} {as : TA} (q : ta σ H fun x H1 => ∃ a dx fs, x = .ref a ∧ H1 a = some (.ins C dx fs) ∧ fs.lookup m = none ∧ as σ H1 fun vs H2 => sp (x :: (vs ++ dvs)) H2 Q E) : tMeth C m sp dvs E ta as σ H Q := q
theorem w_methi {m : Str} {P : Addr → Prop} (h : H x = some (.ins C dx fs)) (l : fs.lookup m = none) (q : P x) : ∃ a dx fs, V.ref x = .ref a ∧ H a = some (.ins C dx fs) ∧ fs.lookup m = none ∧ P a := ⟨x, dx, fs, rfl, h, l, q⟩
theorem w_iEnum {K : PySem.W.Frag} {as : TA} {R : It → Hp → Prop} (q : as σ H fun vs H1 => ∃ a xs, vs = [.ref a] ∧ SqL K H1 a xs ∧ R (Ite K a) H1) : iEnum K as σ H R := q
theorem w_enumi {K : PySem.W.Frag} {a : Addr} {xs : List V} {P : Addr → Prop} (h : SqL K H a xs) (q : P a) : ∃ a' xs', [V.ref a] = [.ref a'] ∧ SqL K H a' xs' ∧ P a' := ⟨a, xs, rfl, h, q⟩
end
theorem mk_same {H H' : Hp} {x dx C : Addr} (nx : H x = none) (nd : H dx = none) (k : ∀ b o, b ≠ x → (upd (upd H dx (.own x)) x (.ins C dx [])) b = some o → H' b = some o) : Same H H' := fun b o e =>
  k b o (ne_of_none e nx) (by rw [upd_ne (ne_of_none e nx), upd_ne (ne_of_none e nd)]; exact e)
/-- __init__ of an own class by its body -/
theorem fnD_ok {P : Program} {w : World} {K : PySem.W.Frag} {mg : Str → Option Value} {base : Heap} {x qual : Str} {st : Stmt} {dvs : List V} {kws : List (Str × V)} {f : Addr} {fd : FuncData} {N ps : List Str} {k : Nat} {sp : Sp}
    (F : FunD K x qual (defArgs st) (defBody st) (defScope st) dvs kws f fd) (S : FnScope N ps (defScope st)) (len : ∀ vs H Q E, sp vs H Q E → vs.length = ps.length)
    (hbody : ∀ (cdv : Value) (A : Around) (outer : List Env) (s : Shared) (H : Hp) (vs : List V) (Q : VK) (E : XK), Room k (A.deeper (envOfC qual (defScope st) s.heap.objs.size f cdv)) → sp vs H Q E →
      ∃ t, PSs (cxOf CX0 P w K mg base N qual (defScope st) f cdv A outer s H E).nox (defBody st) t ∧ t { nx := fun _ H' => Q .non H', rt := Q } (start N vs) H) : FnOk P w K mg base CX0 (k + 1) f fd ps sp := by
  refine F.ok S len fun cdv A outer s H vs Q E hr h => ?_
  obtain ⟨t, h1, h2⟩ := hbody cdv A outer s H vs Q E hr h
  exact ⟨t, h1.nox, h2⟩
def spIsFactor : Sp := fun vs H Q _ => ∃ (t : Addr) (l p k : Int), vs = [.ref t, .int l] ∧ H t = some (.tup [.int p, .int k]) ∧ p < 2 ^ 60 ∧ ∀ b : Bool, (b = true ↔ l < p ∧ 0 < k ∧ Pr p) → Q (.bl b) H
def spModInit (c : CA) : Sp := fun vs H Q _ => ∃ (x dx l : Addr) (ts : List Addr) (ps : List (Int × Int)), vs = [.ref x, .ref l] ∧ H x = some (.ins c.md dx []) ∧ H l = some (.lst (ts.map V.ref)) ∧ Paired (Tp H) ps ts ∧ Asc 0 ps ∧ Small ps ∧
  ∀ H' t, (∀ b o, b ≠ x → H b = some o → H' b = some o) → H' x = some (.ins c.md dx (mdF (num ps) t)) → H' t = some (.tup (ts.map V.ref)) → Q .non H'
theorem use_mod {c : CA} {H : Hp} {PP : Addr → Hp → Prop} {E : XK} {l : Addr} {ts : List Addr} {ps : List (Int × Int)} (hl : H l = some (.lst (ts.map V.ref))) (hp : Paired (Tp H) ps ts) (ha : Asc 0 ps) (hs : Small ps) (q : ∀ m H', H m = none → Same H H' → ModAt c H' m ps → PP m H') :
    ∀ x dx, H x = none → H dx = none → dx ≠ x → spModInit c (.ref x :: ([.ref l] ++ [])) (upd (upd H dx (.own x)) x (.ins c.md dx [])) (fun v H2 => v = .non ∧ PP x H2) E := fun x dx nx nd ne => by
  have up : Same H (upd (upd H dx (.own x)) x (.ins c.md dx [])) := fun b o e => by rw [upd_ne (ne_of_none e nx), upd_ne (ne_of_none e nd)]; exact e
  refine ⟨x, dx, l, ts, ps, rfl, upd_same, up _ _ hl, paired_imp (fun _ _ z => up _ _ z) hp, ha, hs, fun H' t k h1 h2 => ⟨rfl, ?_⟩⟩
  have sm : Same H H' := mk_same nx nd k
  exact q x H' nx sm ⟨dx, t, ts, h1, h2, paired_imp (fun _ _ z => sm _ _ z) hp, ha, hs⟩
def spMkInit (c : CA) : Sp := fun vs H Q _ => ∃ (x dx : Addr) (l : Bool) (s : Int) (d : Bool), vs = [.ref x, .bl l, .int s, .bl d] ∧ H x = some (.ins c.kg dx []) ∧
  ∀ H', (∀ b o, b ≠ x → H b = some o → H' b = some o) → H' x = some (.ins c.kg dx (mkF l s d)) → Q .non H'
theorem use_mk {c : CA} {H : Hp} {PP : Addr → Hp → Prop} {E : XK} {l : Bool} {s : Int} {d : Bool} (q : ∀ m H', H m = none → Same H H' → MkAt c H' m l s d → PP m H') :
    ∀ x dx, H x = none → H dx = none → dx ≠ x → spMkInit c [.ref x, .bl l, .int s, .bl d] (upd (upd H dx (.own x)) x (.ins c.kg dx [])) (fun v H2 => v = .non ∧ PP x H2) E := fun x dx nx nd ne =>
  ⟨x, dx, l, s, d, rfl, upd_same, fun H' k h1 => ⟨rfl, q x H' nx (mk_same nx nd k) ⟨dx, h1⟩⟩⟩
def spHf (c : CA) : Sp := fun vs H Q _ => ∃ (k a : Addr) (y : Sty) (ls : List Int), vs = [.ref k, .ref a] ∧ MkAt c H k y.low y.shift y.lead ∧ H a = some (.tup (ls.map V.int)) ∧ ls.length ≤ 100000 ∧ ∀ H' l, Same H H' → H' l = some (.lst ((hf y ls).map V.int)) → Q (.ref l) H'
def spRestAt : Sp := fun vs H Q _ => ∃ (a : Addr) (cs : List Int) (b n : Int) (B : Nat), vs = [.ref a, .int b, .int n] ∧ H a = some (.lst (cs.map V.int)) ∧ 0 ≤ b ∧ b < n ∧ n.natAbs < 2 ^ B ∧ B ≤ 100000 ∧ Q (.int (restAt cs b n)) H
def spMkOf (c : CA) : Sp := fun vs H Q _ => ∃ (v : V) (y : Sty), vs = [v] ∧ ((v = .non ∧ y = ⟨false, 0, false⟩) ∨ ∃ k, v = .ref k ∧ MkAt c H k y.low y.shift y.lead) ∧ ∀ H' k, Same H H' → MkAt c H' k y.low y.shift y.lead → Q (.ref k) H'
def spReqMod (c : CA) : Sp := fun vs H Q _ => ∃ (m dx : Addr) (fs : List (Str × V)), vs = [.ref m] ∧ H m = some (.ins c.md dx fs) ∧ Q .non H
def spReqWay (c : CA) : Sp := fun vs H Q _ => ∃ (m dx : Addr) (fs : List (Str × V)), vs = [.ref m] ∧ H m = some (.ins c.wy dx fs) ∧ Q .non H
def spReqStock : Sp := fun vs H Q _ => ∃ n : Int, vs = [.int n] ∧ 1 ≤ n ∧ Q .non H
def spWayInit (c : CA) : Sp := fun vs H Q _ => ∃ (x dx m : Addr) (b : Int) (mv : V) (ps : List (Int × Int)) (y : Sty), vs = [.ref x, .int b, .ref m, mv] ∧ H x = some (.ins c.wy dx []) ∧ ModAt c H m ps ∧ ((mv = .non ∧ y = ⟨false, 0, false⟩) ∨ ∃ k, mv = .ref k ∧ MkAt c H k y.low y.shift y.lead) ∧
  ∀ H' k, (∀ b o, b ≠ x → H b = some o → H' b = some o) → H' x = some (.ins c.wy dx (wyF k m (num ps) (b % num ps))) → MkAt c H' k y.low y.shift y.lead → Q .non H'
theorem use_way {c : CA} {H : Hp} {PP : Addr → Hp → Prop} {E : XK} {m : Addr} {b : Int} {mv : V} {ps : List (Int × Int)} {y : Sty} (hm : ModAt c H m ps) (hk : (mv = .non ∧ y = ⟨false, 0, false⟩) ∨ ∃ k, mv = .ref k ∧ MkAt c H k y.low y.shift y.lead)
    (q : ∀ m H', H m = none → Same H H' → WayAt c H' m (b % num ps) ps y → PP m H') :
    ∀ x dx, H x = none → H dx = none → dx ≠ x → spWayInit c [.ref x, .int b, .ref m, mv] (upd (upd H dx (.own x)) x (.ins c.wy dx [])) (fun v H2 => v = .non ∧ PP x H2) E := fun x dx nx nd ne => by
  have up : Same H (upd (upd H dx (.own x)) x (.ins c.wy dx [])) := fun b o e => by rw [upd_ne (ne_of_none e nx), upd_ne (ne_of_none e nd)]; exact e
  refine ⟨x, dx, m, b, mv, ps, y, rfl, upd_same, hm.same up, ?_, fun H' k kp h1 h2 => ⟨rfl, ?_⟩⟩
  · rcases hk with h | ⟨k, e, h⟩
    · exact .inl h
    · exact .inr ⟨k, e, h.same up⟩
  · have sm : Same H H' := mk_same nx nd kp
    have hn : 0 < num ps := by
      obtain ⟨_, _, _, _, _, _, _, h⟩ := hm
      exact num_pos h
    exact q x H' nx sm ⟨dx, m, k, h1, hm.same sm, h2, Int.emod_nonneg _ (by omega), Int.emod_lt_of_pos _ hn⟩
def spOfLetters (c : CA) : Sp := fun vs H Q _ => ∃ (x a : Addr) (b : Int) (ps : List (Int × Int)) (y : Sty) (ls : List Int), vs = [.ref x, .ref a] ∧ WayAt c H x b ps y ∧ H a = some (.tup (ls.map V.int)) ∧ ls.length ≤ 100000 ∧ ∀ H', Same H H' → Q (.int (mark y b (num ps) ls)) H'
def spMarkOf (c : CA) : Sp := fun vs H Q _ => ∃ (x : Addr) (v : V) (b : Int) (ps : List (Int × Int)) (y : Sty) (ls : List Int), vs = [.ref x, v] ∧ WayAt c H x b ps y ∧ TextAt H v ls ∧ ∀ H', Same H H' → Q (.int (mark y b (num ps) ls)) H'
def spTwo (c : CA) (r : Sty → Int → Int → List Int → List Int → Bool) : Sp := fun vs H Q _ => ∃ (x : Addr) (v u : V) (b : Int) (ps : List (Int × Int)) (y : Sty) (ls ms : List Int), vs = [.ref x, v, u] ∧ WayAt c H x b ps y ∧ TextAt H v ls ∧ TextAt H u ms ∧ ∀ H', Same H H' → Q (.bl (r y b (num ps) ls ms)) H'
def rAgree (y : Sty) (b n : Int) (ls ms : List Int) : Bool := decide (mark y b n ls = mark y b n ms)
def rClash (y : Sty) (b n : Int) (ls ms : List Int) : Bool := decide (ls ≠ ms) && decide (mark y b n ls = mark y b n ms)
/-! ### calls by keyword, calls without arguments -/
section
variable {X : Cx} {k j : Nat} {x : Str} {C : Addr} {sp : Sp} {dvs : List V} {p pos : Pos} {ks : List Str} {gV : List V → List V → List V} {kws : List Keyword} {tk : TA}
theorem pe_mk0 (c : C8.Mak X.prog X.w X.K X.mg X.base k x C sp dvs) (hr : Room j X.A) (hk : k + 1 ≤ j) (hg : Gl X x) (hdb : (x == ("__debug__" : Str)) = false := by decide) : PE X (.Call (.Name x p) [] [] pos) (tMake C sp dvs L2.E0 tNil) := by
  obtain ⟨f, fd, ps, ds, M, F, hm, b, d⟩ := c.ex
  exact pe_make0 M F (hr.mono hk) hg hm b d pass0 hdb
structure MakK (P : Program) (w : World) (K : PySem.W.Frag) (mg : Str → Option Value) (base : Heap) (k : Nat) (x : Str) (C : Addr) (ks : List Str) (sp : Sp) (gV : List V → List V → List V) : Prop where
  ex : ∃ (f : Addr) (fd : FuncData) (ps : List Str) (g : List Value → List Value → List Value), Mk K C f ∧ FnOk P w K mg base L2.CX0 k f fd ps sp ∧ mg x = some (.ref C) ∧ KBn K fd ps 1 ks g gV
theorem pe_mkK0 (c : MakK X.prog X.w X.K X.mg X.base k x C ks sp gV) (hr : Room j X.A) (hk : k + 1 ≤ j) (hg : Gl X x) (hkw : PK X kws tk)
    (hall : (backToKw pos (keywordEach kws X.env)).all (·.1.isSome) = true := by rfl) (hks : (backToKw pos (keywordEach kws X.env)).filterMap (·.1) = ks := by rfl) (hdb : (x == ("__debug__" : Str)) = false := by decide)
    (hpl : ((backTo pos (starEach [] X.env)).any (·.1) || (backToKw pos (keywordEach kws X.env)).any (·.1.isNone)) = false := by rfl) :
    PE X (.Call (.Name x p) [] kws pos) (tMakeK C 0 ks.length sp gV L2.E0 tNil tk) := by
  obtain ⟨f, fd, ps, g, M, F, hm, b⟩ := c.ex
  exact pe_makeK0 M F (hr.mono hk) hg hm b pass0 hkw hall hks hdb hpl
structure CalK (P : Program) (w : World) (K : PySem.W.Frag) (mg : Str → Option Value) (base : Heap) (k : Nat) (x : Str) (ks : List Str) (sp : Sp) (gV : List V → List V → List V) : Prop where
  ex : ∃ (f : Addr) (fd : FuncData) (ps : List Str) (g : List Value → List Value → List Value), FnOk P w K mg base L2.CX0 k f fd ps sp ∧ mg x = some (.ref f) ∧ PySem.W.keepIn K (.ref f) = true ∧ KBn K fd ps 0 ks g gV
theorem pe_cK0 (c : CalK X.prog X.w X.K X.mg X.base k x ks sp gV) (hr : Room j X.A) (hk : k ≤ j) (hg : Gl X x) (hkw : PK X kws tk)
    (hall : (backToKw pos (keywordEach kws X.env)).all (·.1.isSome) = true := by rfl) (hks : (backToKw pos (keywordEach kws X.env)).filterMap (·.1) = ks := by rfl) (hdb : (x == ("__debug__" : Str)) = false := by decide)
    (hpl : ((backTo pos (starEach [] X.env)).any (·.1) || (backToKw pos (keywordEach kws X.env)).any (·.1.isNone)) = false := by rfl) :
    PE X (.Call (.Name x p) [] kws pos) (tCallN 0 ks.length sp gV L2.E0 tNil tk) := by
  obtain ⟨f, fd, ps, g, F, hm, kp, b⟩ := c.ex
  refine ⟨fun pins s σ H Q I h => ?_⟩
  refine wpAny_Call_Name_kw (ld_glob I hg hm ?_ hdb)
  refine PySem.W.callWith_KW0 (h₀ := X.base) I.ok.mod.kin kp hall ?_ hpl
  refine thn (hkw.run pos pins s σ H _ I h) fun ws s2 ⟨zs, H2, I2, rz, l1, l2, q2⟩ => ⟨I2.kIn, ?_⟩
  rw [hks]
  exact run_fnN (us := []) (vs := []) F (hr.mono hk) b pass0 I2 .nil rz rfl l2 q2
theorem w_makeK {σ : L2.St} {H : Hp} {Q : VK} {n m : Nat} {E : XK} {t tk : TA} (q : t σ H fun vs H1 => tk σ H1 fun zs H2 => vs.length = n ∧ zs.length = m ∧ ∀ x dx, H2 x = none → H2 dx = none → dx ≠ x → sp (gV (.ref x :: vs) zs) (upd (upd H2 dx (.own x)) x (.ins C dx [])) (fun v H3 => v = .non ∧ Q (.ref x) H3) E) : tMakeK C n m sp gV E t tk σ H Q := q
theorem w_callN {σ : L2.St} {H : Hp} {Q : VK} {n m : Nat} {E : XK} {t tk : TA} (q : t σ H fun vs H1 => tk σ H1 fun zs H2 => vs.length = n ∧ zs.length = m ∧ sp (gV vs zs) H2 Q E) : tCallN n m sp gV E t tk σ H Q := q
end
/-! ### lists of ints as data -/
section
variable {K : PySem.W.Frag} {H : Hp}
theorem dp_ints : ∀ ls : List Int, DpAll K H (ls.map V.int) (ls.map PyData.int)
  | [] => .nil
  | i :: r => .cons (.int i) (dp_ints r)
theorem eqv_ints : ∀ ls ms : List Int, PyData.eqvAll (ls.map PyData.int) (ms.map PyData.int) = decide (ls = ms)
  | [], [] => by simp [PyData.eqvAll]
  | [], _ :: _ => by simp [PyData.eqvAll]
  | _ :: _, [] => by simp [PyData.eqvAll]
  | i :: r, j :: t => by
    rw [List.map_cons, List.map_cons, PyData.eqvAll, eqv_ints r t, PyData.eqv]
    simp only [List.cons.injEq, Bool.decide_and]
    congr 1
theorem lay_ints : ∀ ls : List Int, PyData.canLayAll0 (ls.map PyData.int) = true
  | [] => rfl
  | i :: r => by
    rw [List.map_cons, PyData.canLayAll0, lay_ints r]
    rfl
theorem depth_ints : ∀ ls : List Int, PyData.depthAll (ls.map PyData.int) = 0
  | [] => rfl
  | i :: r => by
    rw [List.map_cons, PyData.depthAll, depth_ints r]
    rfl
theorem shaped_tup (ls : List Int) : SeqAt.shaped (.tuple (ls.map PyData.int)) = true := by
  unfold SeqAt.shaped
  rw [PyData.canLay0, lay_ints, PyData.depth, depth_ints]
  rfl
theorem shaped_lst (ls : List Int) : SeqAt.shaped (.list (ls.map PyData.int)) = true := by
  unfold SeqAt.shaped
  rw [PyData.canLay0, lay_ints, PyData.depth, depth_ints]
  rfl
theorem w_neTT {a b : Addr} {ls ms : List Int} {Q : VK} (ha : SqT K H a (ls.map V.int)) (hb : SqT K H b (ms.map V.int)) (q : Q (.bl (!decide (ls = ms))) H) : rNeD K (.ref a) (.ref b) H Q :=
  ⟨_, _, .tup ha (dp_ints ls), .tup hb (dp_ints ms), shaped_tup _, shaped_tup _, by rw [PyData.eqv, eqv_ints]; exact q⟩
theorem w_eqTT {a b : Addr} {ls ms : List Int} {Q : VK} (ha : SqT K H a (ls.map V.int)) (hb : SqT K H b (ms.map V.int)) (q : Q (.bl (decide (ls = ms))) H) : rEqD K (.ref a) (.ref b) H Q :=
  ⟨_, _, .tup ha (dp_ints ls), .tup hb (dp_ints ms), shaped_tup _, shaped_tup _, by rw [PyData.eqv, eqv_ints]; exact q⟩
theorem w_neLL {a b : Addr} {ls ms : List Int} {Q : VK} (ha : SqL K H a (ls.map V.int)) (hb : SqL K H b (ms.map V.int)) (q : Q (.bl (!decide (ls = ms))) H) : rNeD K (.ref a) (.ref b) H Q :=
  ⟨_, _, .lst ha (dp_ints ls), .lst hb (dp_ints ms), shaped_lst _, shaped_lst _, by rw [PyData.eqv, eqv_ints]; exact q⟩
theorem w_eqLL {a b : Addr} {ls ms : List Int} {Q : VK} (ha : SqL K H a (ls.map V.int)) (hb : SqL K H b (ms.map V.int)) (q : Q (.bl (decide (ls = ms))) H) : rEqD K (.ref a) (.ref b) H Q :=
  ⟨_, _, .lst ha (dp_ints ls), .lst hb (dp_ints ms), shaped_lst _, shaped_lst _, by rw [PyData.eqv, eqv_ints]; exact q⟩
theorem w_revi {x : Addr} {xs : List V} {P : Addr → Hp → Prop} (h : SqL K H x xs) (q : ∀ p, H p = none → P p (upd H p (.lst xs.reverse))) : ∃ a xs, V.ref x = .ref a ∧ SqL K H a xs ∧ ∀ p, H p = none → P p (upd H p (.lst xs.reverse)) := ⟨x, xs, rfl, h, q⟩
end
theorem mk_low {l : Bool} {s : Int} {d : Bool} : (mkF l s d).lookup ("low" : Str) = some (.bl l) := lk0
theorem mk_shift {l : Bool} {s : Int} {d : Bool} : (mkF l s d).lookup ("shift" : Str) = some (.int s) := (lkS (by decide +kernel)).trans lk0
theorem mk_lead {l : Bool} {s : Int} {d : Bool} : (mkF l s d).lookup ("lead" : Str) = some (.bl d) := (lkS (by decide +kernel)).trans ((lkS (by decide +kernel)).trans lk0)
theorem mk_no {l : Bool} {s : Int} {d : Bool} {m : Str} (h1 : m ≠ ("low" : Str)) (h2 : m ≠ ("shift" : Str)) (h3 : m ≠ ("lead" : Str)) : (mkF l s d).lookup m = none := (lkS h1).trans ((lkS h2).trans ((lkS h3).trans rfl))
theorem md_number {n : Int} {t : Addr} : (mdF n t).lookup ("number" : Str) = some (.int n) := lk0
theorem md_factors {n : Int} {t : Addr} : (mdF n t).lookup ("factors" : Str) = some (.ref t) := (lkS (by decide +kernel)).trans lk0
theorem wy_marking {k m : Addr} {n b : Int} : (wyF k m n b).lookup ("marking" : Str) = some (.ref k) := lk0
theorem wy_modulus {k m : Addr} {n b : Int} : (wyF k m n b).lookup ("modulus" : Str) = some (.ref m) := (lkS (by decide +kernel)).trans lk0
theorem wy_number {k m : Addr} {n b : Int} : (wyF k m n b).lookup ("number" : Str) = some (.int n) := (lkS (by decide +kernel)).trans ((lkS (by decide +kernel)).trans lk0)
theorem wy_base {k m : Addr} {n b : Int} : (wyF k m n b).lookup ("base" : Str) = some (.int b) := (lkS (by decide +kernel)).trans ((lkS (by decide +kernel)).trans ((lkS (by decide +kernel)).trans lk0))
theorem wy_no {k m : Addr} {n b : Int} {f : Str} (h1 : f ≠ ("marking" : Str)) (h2 : f ≠ ("modulus" : Str)) (h3 : f ≠ ("number" : Str)) (h4 : f ≠ ("base" : Str)) : (wyF k m n b).lookup f = none := (lkS h1).trans ((lkS h2).trans ((lkS h3).trans ((lkS h4).trans rfl)))
theorem rest_take {cs : List Int} {i : Nat} {v b n : Int} (h : cs[i]? = some v) : restAt (cs.take (i + 1)) b n = (restAt (cs.take i) b n * b + v) % n := by
  obtain ⟨hi, e⟩ := List.getElem?_eq_some_iff.mp h
  unfold restAt
  rw [List.take_succ_eq_append_getElem hi, List.foldl_append, e]
  rfl
theorem rest_range {b n : Int} (hn : 0 < n) : ∀ (cs : List Int), 0 ≤ restAt cs b n ∧ restAt cs b n < n := fun cs => by
  unfold restAt
  have : ∀ (cs : List Int) (a : Int), 0 ≤ a → a < n → 0 ≤ cs.foldl (fun f c => (f * b + c) % n) a ∧ cs.foldl (fun f c => (f * b + c) % n) a < n := by
    intro cs
    induction cs with
    | nil => exact fun a h1 h2 => ⟨h1, h2⟩
    | cons c r ih => exact fun a h1 h2 => ih _ (Int.emod_nonneg _ (by omega)) (Int.emod_lt_of_pos _ hn)
  exact this cs 0 (Int.le_refl _) hn
theorem map_rev (f : Int → V) (l : List Int) : (l.map f).reverse = l.reverse.map f := by rw [List.map_reverse]
theorem w_tyL {K : PySem.W.Frag} {H : Hp} {a : Addr} {xs : List V} {P : Prop} (h : SqL K H a xs) (q : P) : tyV K "list" (.ref a) H ∧ P := ⟨Or.inl ⟨rfl, _, h⟩, q⟩
theorem decI {a b : Int} : decide (V.int a = V.int b) = decide (a = b) := by
  by_cases z : a = b
  · rw [decide_eq_true z, decide_eq_true (by rw [z])]
  · rw [decide_eq_false z, decide_eq_false (fun w => z (by injection w))]
theorem w_m1 {σ : L2.St} {H : Hp} {Q : VK} {r : V → List V → Hp → VK → Prop} {to te : TE} (q : to σ H fun x H1 => (∃ a, x = .str a) ∧ te σ H1 fun y H2 => r x [y] H2 Q) : tM1 r to te σ H Q := q
theorem w_isStr {z : Str} {P : Prop} (q : P) : (∃ a, V.str z = .str a) ∧ P := ⟨⟨z, rfl⟩, q⟩
/-! ### what the purse leaves alone -/
section
variable {a b : Addr} {c : Int} {H H' : Hp} {o : HO}
theorem Purse.ne (p : Purse H a c) (h : H b = some o) (d : ∀ x y z : Int, o ≠ .lst [.int x, .int y, .int z]) : b ≠ a := fun e => by
  obtain ⟨x, y, z, h1, _⟩ := p
  rw [e, h1] at h
  exact d x y z (Option.some.inj h).symm
theorem Purse.fresh (p : Purse H a c) (h : H b = none) : b ≠ a := fun e => by
  obtain ⟨x, y, z, h1, _⟩ := p
  rw [e, h1] at h
  cases h
theorem Keep.free (k : Keep a H H') (p : Purse H' a c) (h : H' b = none) : H b = none := by
  cases e : H b with
  | none => rfl
  | some o =>
    by_cases z : b = a
    · obtain ⟨_, _, _, e2, _⟩ := p
      rw [z, e2] at h
      cases h
    · rw [k _ _ z e] at h
      cases h
theorem Keep.tup {xs : List V} (k : Keep a H H') (p : Purse H a c) (h : H b = some (.tup xs)) : H' b = some (.tup xs) := k b _ (p.ne h fun _ _ _ z => by cases z) h
theorem Keep.ins {C dx : Addr} {fs : List (Str × V)} (k : Keep a H H') (p : Purse H a c) (h : H b = some (.ins C dx fs)) : H' b = some (.ins C dx fs) := k b _ (p.ne h fun _ _ _ z => by cases z) h
/-- a list of pairs -/
def PrL (H : Hp) (l : Addr) (ps : List (Int × Int)) : Prop := ∃ ts : List Addr, H l = some (.lst (ts.map V.ref)) ∧ Paired (Tp H) ps ts
theorem refs_ne {ts : List Addr} (x y z : Int) : HO.lst (ts.map V.ref) ≠ .lst [.int x, .int y, .int z] := fun e => by
  injection e with e
  cases ts with
  | nil => cases e
  | cons t r =>
    rw [List.map_cons] at e
    injection e with e1
    cases e1
theorem PrL.keep {l : Addr} {ps : List (Int × Int)} (h : PrL H l ps) (p : Purse H a c) (k : Keep a H H') : PrL H' l ps := by
  obtain ⟨ts, h1, h2⟩ := h
  exact ⟨ts, k l _ (p.ne h1 refs_ne) h1, paired_imp (fun _ _ z => k.tup p z) h2⟩
theorem PrL.same {l : Addr} {ps : List (Int × Int)} (h : PrL H l ps) (s : Same H H') : PrL H' l ps := by
  obtain ⟨ts, h1, h2⟩ := h
  exact ⟨ts, s _ _ h1, paired_imp (fun _ _ z => s _ _ z) h2⟩
theorem ModAt.keep {ca : CA} {m : Addr} {ps : List (Int × Int)} (h : ModAt ca H m ps) (p : Purse H a c) (k : Keep a H H') : ModAt ca H' m ps := by
  obtain ⟨dx, t, ts, h1, h2, h3, h4⟩ := h
  exact ⟨dx, t, ts, k.ins p h1, k.tup p h2, paired_imp (fun _ _ z => k.tup p z) h3, h4⟩
theorem MkAt.keep {ca : CA} {m : Addr} {l : Bool} {s : Int} {d : Bool} (h : MkAt ca H m l s d) (p : Purse H a c) (k : Keep a H H') : MkAt ca H' m l s d := by
  obtain ⟨dx, h1⟩ := h
  exact ⟨dx, k.ins p h1⟩
theorem WayAt.keep {ca : CA} {m : Addr} {b : Int} {ps : List (Int × Int)} {y : Sty} (h : WayAt ca H m b ps y) (p : Purse H a c) (k : Keep a H H') : WayAt ca H' m b ps y := by
  obtain ⟨dx, m1, k1, h1, h2, h3, h4⟩ := h
  exact ⟨dx, m1, k1, k.ins p h1, h2.keep p k, h3.keep p k, h4⟩
theorem Keep.new (p : Purse H a c) {q : Addr} (n : H q = none) : Keep a H (L2.upd H q o) := .of (Same.new n)
end
theorem Asc.snoc : ∀ {l : Int} {ps : List (Int × Int)} {q : Int × Int}, Asc l ps → (ps.getLast?.map (·.1)).getD l < q.1 → 0 < q.2 → Pr q.1 → Asc l (ps ++ [q])
  | l, [], q, _, h1, h2, h3 => ⟨h1, h2, h3, trivial⟩
  | l, r :: ps, q, a, h1, h2, h3 => by
    refine ⟨a.1, a.2.1, a.2.2.1, Asc.snoc a.2.2.2 ?_ h2 h3⟩
    rw [List.getLast?_cons] at h1
    cases hh : ps.getLast? with
    | none => rw [hh] at h1; exact h1
    | some z => rw [hh] at h1; exact h1
instance (n : Int) : Decidable (∀ d : Int, 2 ≤ d → d * d ≤ n → n % d ≠ 0) := 
  if h : ∀ k : Fin 64, (2 ≤ k.val ∧ (k.val : Int) * k.val ≤ n) → n % (k.val : Int) ≠ 0 then
    if h2 : n < 4096 then .isTrue (fun d h3 h4 => by
      have hd : d < 64 := by
        refine Int.not_le.mp fun z => ?_
        have := Int.mul_le_mul z z (by decide) (by omega)
        omega
      have e : ((d.toNat : Nat) : Int) = d := Int.toNat_of_nonneg (by omega)
      have := h ⟨d.toNat, by omega⟩ ⟨by show 2 ≤ d.toNat; omega, by show ((d.toNat : Nat) : Int) * ((d.toNat : Nat) : Int) ≤ n; rw [e]; exact h4⟩
      rwa [show (((⟨d.toNat, by omega⟩ : Fin 64).val : Nat) : Int) = d from e] at this)
    else if h5 : ∀ k : Fin n.toNat, (2 ≤ k.val ∧ (k.val : Int) * k.val ≤ n) → n % (k.val : Int) ≠ 0 then .isTrue (fun d h3 h4 => by
      have hd : d < n := by
        refine Int.not_le.mp fun z => ?_
        have : n * 2 ≤ d * d := Int.mul_le_mul z h3 (by decide) (by omega)
        omega
      have e : ((d.toNat : Nat) : Int) = d := Int.toNat_of_nonneg (by omega)
      have := h5 ⟨d.toNat, by omega⟩ ⟨by show 2 ≤ d.toNat; omega, by show ((d.toNat : Nat) : Int) * ((d.toNat : Nat) : Int) ≤ n; rw [e]; exact h4⟩
      rwa [show (((⟨d.toNat, by omega⟩ : Fin n.toNat).val : Nat) : Int) = d from e] at this)
    else .isFalse fun z => h5 fun k hk => z k.val (by omega) hk.2
  else .isFalse fun z => h fun k hk => z k.val (by omega) hk.2
instance (n : Int) : Decidable (Pr n) := inferInstanceAs (Decidable (_ ∧ _))
def PL : List Int := [2, 3, 5, 7, 11, 13, 97, 101, 499, 991, 997]
def KL : List Int := [12, 5, 3, 3, 2, 2, 2, 2, 2, 8, 12]
theorem PL_pr : ∀ i : Fin 11, Pr (PL.getD i.val 0) ∧ 0 < PL.getD i.val 0 ∧ PL.getD i.val 0 < 1024 ∧ PL.getD i.val 0 < PL.getD (i.val + 1) 10000 ∧ PL.getD i.val 0 = PL.getD i.val 10000 := by decide +kernel
theorem KL_pr : ∀ i : Fin 11, 0 < KL.getD i.val 0 ∧ KL.getD i.val 0 ≤ 12 := by decide +kernel
theorem prN {p : Int} (h : Pr p) (d : Nat) (hd : d ∣ p.natAbs) : d = 1 ∨ d = p.natAbs := by
  obtain ⟨e, he⟩ := hd
  have hp := h.1
  have h0 : p = ((d * e : Nat) : Int) := by omega
  by_cases d1 : d = 1
  · exact .inl d1
  by_cases e1 : e = 1
  · right; rw [he, e1, Nat.mul_one]
  exfalso
  have d0 : d ≠ 0 := fun z => by rw [z, Nat.zero_mul] at he; omega
  have e0 : e ≠ 0 := fun z => by rw [z, Nat.mul_zero] at he; omega
  by_cases c : d ≤ e
  · refine h.2 d (by omega) ?_ ?_
    · rw [h0]
      have : d * d ≤ d * e := Nat.mul_le_mul_left d c
      exact_mod_cast this
    · rw [h0, Int.natCast_mul]
      exact Int.mul_emod_right _ _
  · refine h.2 e (by omega) ?_ ?_
    · rw [h0]
      have : e * e ≤ d * e := Nat.mul_le_mul_right e (by omega)
      exact_mod_cast this
    · rw [h0, Int.natCast_mul]
      exact Int.mul_emod_left _ _
theorem cop_or {p : Int} (h : Pr p) (b : Nat) : p.natAbs ∣ b ∨ Nat.Coprime b p.natAbs := by
  rcases prN h _ (Nat.gcd_dvd_right b p.natAbs) with e | e
  · exact .inr e
  · left
    have := Nat.gcd_dvd_left b p.natAbs
    rwa [e] at this
def numN (ps : List (Int × Int)) : Nat := ps.foldl (fun n p => n * p.1.natAbs ^ p.2.toNat) 1
theorem numN_fold (ps : List (Int × Int)) : ∀ a : Nat, ps.foldl (fun n p => n * p.1.natAbs ^ p.2.toNat) a = a * numN ps := by
  unfold numN
  induction ps with
  | nil => intro a; simp
  | cons q r ih =>
    intro a
    rw [List.foldl_cons, List.foldl_cons, ih, ih (1 * _), Nat.one_mul, Nat.mul_assoc]
theorem numN_cons (q : Int × Int) (ps : List (Int × Int)) : numN (q :: ps) = q.1.natAbs ^ q.2.toNat * numN ps := by
  show List.foldl _ _ _ = _
  rw [List.foldl_cons, numN_fold, Nat.one_mul]
theorem num_fold (ps : List (Int × Int)) : ∀ a : Int, ps.foldl (fun n p => n * p.1 ^ p.2.toNat) a = a * num ps := by
  unfold num
  induction ps with
  | nil => intro a; simp
  | cons q r ih =>
    intro a
    rw [List.foldl_cons, List.foldl_cons, ih, ih (1 * _), Int.one_mul, Int.mul_assoc]
theorem num_cons (q : Int × Int) (ps : List (Int × Int)) : num (q :: ps) = q.1 ^ q.2.toNat * num ps := by
  show List.foldl _ _ _ = _
  rw [List.foldl_cons, num_fold, Int.one_mul]
theorem num_cast : ∀ {l : Int} {ps : List (Int × Int)}, 0 ≤ l → Asc l ps → num ps = (numN ps : Int)
  | _, [], _, _ => rfl
  | l, q :: r, h0, a => by
    have h1 := a.1
    rw [num_cons, numN_cons, num_cast (l := q.1) (by omega) a.2.2.2, Int.natCast_mul, Int.natCast_pow, Int.natAbs_of_nonneg (by omega)]
theorem Asc.lt : ∀ {l : Int} {ps : List (Int × Int)}, Asc l ps → ∀ q ∈ ps, l < q.1 ∧ 0 < q.2 ∧ Pr q.1
  | _, [], _, q, h => by cases h
  | l, r :: ps, a, q, h => by
    rcases List.mem_cons.mp h with e | e
    · rw [e]; exact ⟨a.1, a.2.1, a.2.2.1⟩
    · have := Asc.lt a.2.2.2 q e
      exact ⟨Int.lt_trans a.1 this.1, this.2⟩
theorem cop_num {p : Int} (hp : Pr p) (k : Nat) : ∀ {ps : List (Int × Int)}, (∀ q ∈ ps, p < q.1 ∧ 0 < q.2 ∧ Pr q.1) → Nat.Coprime (p.natAbs ^ k) (numN ps)
  | [], _ => Nat.coprime_one_right _
  | q :: r, h => by
    rw [numN_cons]
    refine Nat.Coprime.mul_right (Nat.Coprime.pow _ _ ?_) (cop_num hp k fun q hq => h q (List.mem_cons_of_mem _ hq))
    have hq := h q (List.mem_cons_self ..)
    have hp1 := hp.1
    rcases cop_or hq.2.2 p.natAbs with z | z
    · exfalso
      have := Nat.le_of_dvd (by omega) z
      omega
    · exact z
theorem gcd_stab {b S e : Nat} (he : S ≤ e) : ∀ {l : Int} {ps : List (Int × Int)}, Asc l ps → (∀ q ∈ ps, q.2.toNat ≤ S) → Nat.gcd (b ^ e) (numN ps) = Nat.gcd (b ^ S) (numN ps)
  | _, [], _, _ => by
    show Nat.gcd _ 1 = Nat.gcd _ 1
    rw [Nat.gcd_one_right, Nat.gcd_one_right]
  | l, q :: r, a, h => by
    have hk := h q (List.mem_cons_self ..)
    have hc : Nat.Coprime (q.1.natAbs ^ q.2.toNat) (numN r) := cop_num a.2.2.1 _ (Asc.lt a.2.2.2)
    rw [numN_cons, Nat.Coprime.gcd_mul _ hc, Nat.Coprime.gcd_mul _ hc, gcd_stab he a.2.2.2 fun q hq => h q (List.mem_cons_of_mem _ hq)]
    congr 1
    rcases cop_or a.2.2.1 b with z | z
    · have h1 : ∀ m, q.2.toNat ≤ m → q.1.natAbs ^ q.2.toNat ∣ b ^ m := fun m hm => Nat.dvd_trans (Nat.pow_dvd_pow _ hm) ((Nat.pow_dvd_pow_iff (by have := a.2.1; omega)).mpr z)
      rw [Nat.gcd_eq_right (h1 e (by omega)), Nat.gcd_eq_right (h1 S hk)]
    · rw [(Nat.Coprime.pow e q.2.toNat z), (Nat.Coprime.pow S q.2.toNat z)]
/-- a step that a number hides -/
theorem miss_iff {n x A : Nat} (hn : 0 < n) : (∃ s, 1 ≤ s ∧ s < A ∧ n ∣ s * x) ↔ n / Nat.gcd x n < A := by
  have hg : 0 < Nat.gcd x n := Nat.gcd_pos_of_pos_right _ hn
  have hgn := Nat.gcd_dvd_right x n
  have hgx := Nat.gcd_dvd_left x n
  constructor
  · rintro ⟨s, s1, s2, h⟩
    have h1 : n / Nat.gcd x n ∣ s := by
      have hc : Nat.Coprime (n / Nat.gcd x n) (x / Nat.gcd x n) := (Nat.coprime_div_gcd_div_gcd hg).symm
      refine hc.dvd_of_dvd_mul_right ?_
      obtain ⟨t, ht⟩ := h
      refine ⟨t, ?_⟩
      have e1 : n / Nat.gcd x n * Nat.gcd x n = n := Nat.div_mul_cancel hgn
      have e2 : x / Nat.gcd x n * Nat.gcd x n = x := Nat.div_mul_cancel hgx
      refine Nat.eq_of_mul_eq_mul_right hg ?_
      rw [Nat.mul_assoc, e2, ht, Nat.mul_right_comm, e1]
    exact Nat.lt_of_le_of_lt (Nat.le_of_dvd (by omega) h1) s2
  · intro h
    refine ⟨n / Nat.gcd x n, Nat.div_pos (Nat.le_of_dvd hn hgn) hg, h, ?_⟩
    obtain ⟨t, ht⟩ := hgx
    refine ⟨t, ?_⟩
    have e1 : n / Nat.gcd x n * Nat.gcd x n = n := Nat.div_mul_cancel hgn
    calc n / Nat.gcd x n * x = n / Nat.gcd x n * (Nat.gcd x n * t) := by rw [← ht]
      _ = n * t := by rw [← Nat.mul_assoc, e1]
/-- the first of the places below N at which P holds -/
def Fst (P : Nat → Prop) (N : Nat) : Option Nat → Prop
  | none => ∀ e, e < N → ¬ P e
  | some e => e < N ∧ P e ∧ ∀ j, j < e → ¬ P j
theorem Fst.same {P P' : Nat → Prop} {N M S : Nat} {r r' : Option Nat} (h : Fst P N r) (h' : Fst P' M r') (e : ∀ j, P j ↔ P' j) (st : ∀ j, S ≤ j → P j → P S) (hN : S < N) (hM : S < M) : r = r' := by
  have low : ∀ j, P j → ∃ i, i ≤ S ∧ i ≤ j ∧ P i := fun j hj => by
    by_cases c : S ≤ j
    · exact ⟨S, Nat.le_refl _, c, st j c hj⟩
    · exact ⟨j, by omega, Nat.le_refl _, hj⟩
  cases r with
  | none =>
    cases r' with
    | none => rfl
    | some e' =>
      obtain ⟨i, h1, h2, h3⟩ := low e' ((e e').mpr h'.2.1)
      exact absurd h3 (h i (by omega))
  | some e1 =>
    cases r' with
    | none =>
      obtain ⟨i, h1, h2, h3⟩ := low e1 h.2.1
      exact absurd ((e i).mp h3) (h' i (by omega))
    | some e2 =>
      have a1 : ¬ e1 < e2 := fun z => h'.2.2 e1 z ((e e1).mp h.2.1)
      have a2 : ¬ e2 < e1 := fun z => h.2.2 e2 z ((e e2).mpr h'.2.1)
      have : e1 = e2 := by omega
      rw [this]
theorem max_pow {S0 : Nat} : ∀ {l : Int} {ps : List (Int × Int)}, 0 ≤ l → Asc l ps → (∀ q ∈ ps, q.2.toNat ≤ S0) → ∃ S, S ≤ S0 ∧ (∀ q ∈ ps, q.2.toNat ≤ S) ∧ 2 ^ S ≤ numN ps ∧ 0 < numN ps
  | _, [], _, _, _ => ⟨0, Nat.zero_le _, (fun q h => by cases h), Nat.le_refl _, Nat.zero_lt_one⟩
  | l, q :: r, h0, a, h => by
    have h1 := a.1
    obtain ⟨S, b1, b2, b3, b4⟩ := max_pow (S0 := S0) (l := q.1) (ps := r) (by omega) a.2.2.2 fun z hz => h z (List.mem_cons_of_mem _ hz)
    have hp := a.2.2.1.1
    have hq : 2 ^ q.2.toNat ≤ q.1.natAbs ^ q.2.toNat := Nat.pow_le_pow_left (by omega) _
    have hq0 : 0 < q.1.natAbs ^ q.2.toNat := Nat.lt_of_lt_of_le (Nat.pow_pos (by decide)) hq
    refine ⟨max S q.2.toNat, Nat.max_le.mpr ⟨b1, h q (List.mem_cons_self ..)⟩, fun z hz => ?_, ?_, ?_⟩
    · rcases List.mem_cons.mp hz with e | e
      · rw [e]; exact Nat.le_max_right _ _
      · exact Nat.le_trans (b2 z e) (Nat.le_max_left _ _)
    · rw [numN_cons]
      by_cases c : S ≤ q.2.toNat
      · rw [Nat.max_eq_right c]
        exact Nat.le_trans hq (Nat.le_mul_of_pos_right _ b4)
      · rw [Nat.max_eq_left (by omega)]
        exact Nat.le_trans b3 (Nat.le_mul_of_pos_left _ hq0)
    · rw [numN_cons]
      exact Nat.mul_pos hq0 b4
/-! ### comprehensions with a test, and such as draw -/
section
variable {J : It} {G : Hp → Prop} {tt : TT} {te : TE} {vs : List Nat} {σ : L2.St} {H : Hp} {D : Addr} {Qd : Hp → Prop} {j : Nat}
theorem lc_filt (xs : List V) (p : V → Bool) (f : V → V) (w : Walk J xs.length G (YAt xs)) (hD : H D = none) (hG : ∀ H', Same H H' → G H') (sz : xs.length ≤ 100000)
    (wp : ∀ v, wipe ((wipe σ vs).set j v) vs = wipe σ vs)
    (tst : ∀ (i : Nat) (x : V) (H' : Hp), xs[i]? = some x → Same H H' → ∀ Q' : Bool → Hp → Prop, (∀ H'', Same H' H'' → Q' (p x) H'') → tt ((wipe σ vs).set j (some x)) H' Q')
    (step : ∀ (i : Nat) (x : V) (H' : Hp), xs[i]? = some x → p x = true → Same H H' → ∀ Q' : VK, (∀ H'', Same H' H'' → Q' (f x) H'') → te ((wipe σ vs).set j (some x)) H' Q')
    (q : ∀ H', Same H H' → H' D = some (.lst ((xs.filter p).map f)) → Qd H') :
    ∃ W : Nat → Nat → Hp → Prop, (∃ m, W 0 m (upd H D (.lst []))) ∧ ∀ i m H, W i m H →
      (J.stop i H ∧ Qd H) ∨ (J.go i H ∧ ∃ Nx : Hp → Prop, (∀ H', Nx H' → ∃ m', m' < m ∧ W (i + 1) m' H') ∧ ∀ x H', J.yld i H x H' → gName j x (wipe σ vs) H' fun σ2 H2 => wipe σ2 vs = wipe σ vs ∧ tt σ2 H2 fun b H3 =>
        if b = true then te σ2 H3 fun y H4 => ∃ acc, H4 D = some (.lst acc) ∧ acc.length < sizeLine ∧ Nx (upd H4 D (.lst (acc ++ [y]))) else Nx H3) := by
  refine lc_it w (fun i H' => H' D = some (.lst (((xs.take i).filter p).map f)) ∧ Same H H') ⟨upd_same, Same.new hD⟩ (fun i H' _ h => hG H' h.2) ?_ ?_
  · rintro i x H1 H' hi ⟨h1, h2⟩ ⟨rfl, hx⟩
    refine ⟨wp _, ?_⟩
    have e : xs[i] = x := by rw [List.getElem?_eq_getElem hi] at hx; exact Option.some.inj hx
    have tk : xs.take (i + 1) = xs.take i ++ [x] := by rw [List.take_succ_eq_append_getElem hi, e]
    refine tst i x H' hx h2 _ fun H2 s2 => ?_
    by_cases hp : p x = true
    · rw [hp]
      refine iteT ?_
      refine step i x H2 hx hp (h2.trans s2) _ fun H3 s3 => ?_
      refine ⟨_, s3 _ _ (s2 _ _ h1), ?_, ?_, ?_⟩
      · rw [List.length_map]
        have h5 := List.length_filter_le p (xs.take i)
        rw [List.length_take] at h5
        have : (100000 : Nat) < sizeLine := by decide
        omega
      · rw [upd_same, tk, List.filter_append, List.map_append, List.filter_cons, if_pos hp]
        rfl
      · exact fun b o e => by
          rw [upd_ne (ne_of_none e hD)]
          exact s3 _ _ (s2 _ _ (h2 _ _ e))
    · have hp' : p x = false := by simpa using hp
      rw [hp']
      refine iteF ?_
      refine ⟨?_, h2.trans s2⟩
      rw [s2 _ _ h1, tk, List.filter_append, List.map_append, List.filter_cons, if_neg hp]
      simp
  · rintro H' ⟨h1, h2⟩
    refine q H' h2 ?_
    rw [h1, List.take_length]
/-- each turn draws: ints that R speaks of, the purse counted up by n a turn -/
theorem lc_draws (xs : List V) (a : Addr) (c n : Int) (R : Int → Prop) (w : Walk J xs.length G (YAt xs)) (pu : Purse H a c) (hD : H D = none) (hG : ∀ H', Keep a H H' → G H') (sz : xs.length ≤ 100000)
    (wp : ∀ v, wipe ((wipe σ vs).set j v) vs = wipe σ vs)
    (step : ∀ (i : Nat) (x : V) (H' : Hp), xs[i]? = some x → Keep a H H' → Purse H' a (c + n * i) → ∀ Q' : VK, (∀ (y : Int) (H'' : Hp), R y → Keep a H' H'' → Purse H'' a (c + n * ((i + 1 : Nat) : Int)) → Q' (.int y) H'') → te ((wipe σ vs).set j (some x)) H' Q')
    (q : ∀ (H' : Hp) (ys : List Int), ys.length = xs.length → (∀ y ∈ ys, R y) → H' D = some (.lst (ys.map V.int)) → Keep a H H' → Purse H' a (c + n * xs.length) → Qd H') :
    ∃ W : Nat → Nat → Hp → Prop, (∃ m, W 0 m (upd H D (.lst []))) ∧ ∀ i m H, W i m H →
      (J.stop i H ∧ Qd H) ∨ (J.go i H ∧ ∃ Nx : Hp → Prop, (∀ H', Nx H' → ∃ m', m' < m ∧ W (i + 1) m' H') ∧ ∀ x H', J.yld i H x H' → gName j x (wipe σ vs) H' fun σ2 H2 => wipe σ2 vs = wipe σ vs ∧ tYes σ2 H2 fun b H3 =>
        if b = true then te σ2 H3 fun y H4 => ∃ acc, H4 D = some (.lst acc) ∧ acc.length < sizeLine ∧ Nx (upd H4 D (.lst (acc ++ [y]))) else Nx H3) := by
  have nD : D ≠ a := pu.fresh hD
  refine lc_it w (fun i H' => ∃ ys : List Int, ys.length = i ∧ (∀ y ∈ ys, R y) ∧ H' D = some (.lst (ys.map V.int)) ∧ Keep a H H' ∧ Purse H' a (c + n * i)) ⟨[], rfl, (fun y h => by cases h), upd_same, .of (Same.new hD), (pu.same (Same.new hD)).le (by simp)⟩ (fun i H' _ h => by obtain ⟨_, _, _, _, k, _⟩ := h; exact hG H' k) ?_ ?_
  · rintro i x H1 H' hi ⟨ys, h1, h2, h3, h4, h5⟩ ⟨rfl, hx⟩
    refine ⟨wp _, w_yes ?_⟩
    rw [if_pos rfl]
    refine step i x H' hx h4 h5 _ fun y H2 r k2 p2 => ?_
    refine ⟨_, k2.at_ nD h3, ?_, ys ++ [y], ?_, ?_, ?_, ?_, ?_⟩
    · rw [List.length_map]
      have : (100000 : Nat) < sizeLine := by decide
      omega
    · rw [List.length_append, h1]
      rfl
    · intro z hz
      rcases List.mem_append.mp hz with e | e
      · exact h2 z e
      · have : z = y := by simpa using e
        rw [this]; exact r
    · rw [upd_same, List.map_append]
      rfl
    · intro b o nb hb
      rw [upd_ne (ne_of_none hb hD)]
      exact k2 _ _ nb (h4 _ _ nb hb)
    · obtain ⟨x1, y1, z1, e, r1⟩ := p2
      exact ⟨x1, y1, z1, by rw [upd_ne nD.symm]; exact e, r1⟩
  · rintro H' ⟨ys, h1, h2, h3, h4, h5⟩
    exact q H' ys h1 h2 h3 h4 h5
end
theorem walk_rangeY {lo : Int} {n : Nat} : Walk (Itr lo n) ((List.range n).map fun i : Nat => V.int (lo + i)).length (fun _ => True) (YAt ((List.range n).map fun i : Nat => V.int (lo + i))) := by
  have h := walk_range (lo := lo) (n := n)
  have e : ((List.range n).map fun i : Nat => V.int (lo + i)).length = n := by simp
  rw [e]
  refine h.mono (fun _ h => h) (fun i H x H' hi _ y => ?_)
  obtain ⟨rfl, rfl⟩ := y
  refine ⟨rfl, ?_⟩
  rw [List.getElem?_map, List.getElem?_range hi]
  rfl
/-! ### sums, and a letter exchanged -/
def hv (cs : List Int) (b : Int) : Int := cs.foldl (fun f c => f * b + c) 0
theorem hv_fold (cs : List Int) (b : Int) : ∀ a : Int, cs.foldl (fun f c => f * b + c) a = a * b ^ cs.length + hv cs b := by
  unfold hv
  induction cs with
  | nil => intro a; simp
  | cons c r ih =>
    intro a
    rw [List.foldl_cons, List.foldl_cons, ih, ih (0 * b + c), List.length_cons, Int.pow_succ, Int.zero_mul, Int.zero_add, Int.add_mul, Int.mul_assoc, Int.mul_comm b]
    omega
theorem hv_cons (c : Int) (cs : List Int) (b : Int) : hv (c :: cs) b = c * b ^ cs.length + hv cs b := by
  show List.foldl _ _ _ = _
  rw [List.foldl_cons, hv_fold, Int.zero_mul, Int.zero_add]
theorem rest_hv (cs : List Int) (b n : Int) : restAt cs b n = hv cs b % n := by
  unfold restAt hv
  have : ∀ (cs : List Int) (a a' : Int), a % n = a' % n → (cs.foldl (fun f c => (f * b + c) % n) a) % n = (cs.foldl (fun f c => f * b + c) a') % n := by
    intro cs
    induction cs with
    | nil => exact fun a a' h => h
    | cons c r ih =>
      intro a a' h
      rw [List.foldl_cons, List.foldl_cons]
      refine ih _ _ ?_
      rw [Int.emod_emod_of_dvd _ (Int.dvd_refl n), Int.add_emod, Int.mul_emod, h, ← Int.mul_emod, ← Int.add_emod]
  cases cs with
  | nil => simp
  | cons c r =>
    have h := this (c :: r) 0 0 rfl
    rw [← h]
    have h2 : ∀ (cs : List Int) (a : Int), a % n = a → (cs.foldl (fun f c => (f * b + c) % n) a) % n = cs.foldl (fun f c => (f * b + c) % n) a := by
      intro cs
      induction cs with
      | nil => exact fun a h => h
      | cons c r ih => exact fun a h => ih _ (Int.emod_emod_of_dvd _ (Int.dvd_refl n))
    exact (h2 (c :: r) 0 (by simp)).symm
/-! ### promises of the law's own drawing -/
def spMixed : Sp := fun vs H Q _ => ∃ a b : Int, vs = [.int a, .int b] ∧ 0 ≤ a ∧ a < 2 ^ 31 ∧ 0 ≤ b ∧ b < 2 ^ 60 ∧ ∀ r : Int, 0 ≤ r → r < 2 ^ 31 → Q (.int r) H
def spPurse (K : PySem.W.Frag) : Sp := fun vs H Q _ => ∃ (a : Addr) (ns : List Int) (i : Int), vs = [.ref a, .int i] ∧ SqL K H a (ns.map V.int) ∧ 0 ≤ i ∧ i < 2 ^ 40 ∧
  ∀ p H', H p = none → Same H H' → Purse H' p (1000 * i) → Q (.ref p) H'
def spDraw : Sp := fun vs H Q _ => ∃ (a : Addr) (n c : Int), vs = [.ref a, .int n] ∧ 0 < n ∧ n < 2 ^ 60 ∧ c < 2 ^ 50 ∧ Purse H a c ∧
  ∀ r H', 0 ≤ r → r < n → Keep a H H' → Purse H' a (c + 1) → Q (.int r) H'
theorem use_draw {H : Hp} {Q : VK} {E : XK} {a : Addr} {n c : Int} (p : Purse H a c) (n0 : 0 < n) (n1 : n < 2 ^ 60) (hc : c < 2 ^ 50) (q : ∀ r H', 0 ≤ r → r < n → Keep a H H' → Purse H' a (c + 1) → Q (.int r) H') :
    spDraw ([.ref a, .int n] ++ []) H Q E := ⟨a, n, c, rfl, n0, n1, hc, p, q⟩
def spGreat : Sp := fun vs H Q _ => ∃ (a : Addr) (n c : Int), vs = [.ref a, .int n] ∧ 0 ≤ n ∧ n < 1000 ∧ c < 2 ^ 49 ∧ Purse H a c ∧
  ∀ r H', 0 ≤ r → r < 10 ^ n.toNat → Keep a H H' → Purse H' a (c + n) → Q (.int r) H'
theorem use_great {H : Hp} {Q : VK} {E : XK} {a : Addr} {n c : Int} (p : Purse H a c) (n0 : 0 ≤ n) (n1 : n < 1000) (hc : c < 2 ^ 49) (q : ∀ r H', 0 ≤ r → r < 10 ^ n.toNat → Keep a H H' → Purse H' a (c + n) → Q (.int r) H') :
    spGreat ([.ref a, .int n] ++ []) H Q E := ⟨a, n, c, rfl, n0, n1, hc, p, q⟩

def spPairs : Sp := fun vs H Q _ => ∃ (a : Addr) (n c : Int), vs = [.ref a, .int n] ∧ 0 ≤ n ∧ n ≤ 11 ∧ c < 2 ^ 48 ∧ Purse H a c ∧
  ∀ l H' ps, H l = none → Keep a H H' → Purse H' a (c + 22) → PrL H' l ps → Asc 0 ps → Small ps → (ps.length : Int) ≤ n → (∀ q ∈ ps, q.2 ≤ 12) → Q (.ref l) H'
theorem use_pairs {H : Hp} {Q : VK} {E : XK} {a : Addr} {n c : Int} (p : Purse H a c) (n0 : 0 ≤ n) (n1 : n ≤ 11) (hc : c < 2 ^ 48)
    (q : ∀ l H' ps, H l = none → Keep a H H' → Purse H' a (c + 22) → PrL H' l ps → Asc 0 ps → Small ps → (ps.length : Int) ≤ n → (∀ q ∈ ps, q.2 ≤ 12) → Q (.ref l) H') : spPairs ([.ref a, .int n] ++ []) H Q E := ⟨a, n, c, rfl, n0, n1, hc, p, q⟩
def spSize : Sp := fun vs H Q _ => ∃ (l : Addr) (ps : List (Int × Int)), vs = [.ref l] ∧ PrL H l ps ∧ Small ps ∧ Q (.int (num ps)) H
def spStyle : Sp := fun vs H Q _ => ∃ (a : Addr) (c : Int), vs = [.ref a] ∧ c < 2 ^ 48 ∧ Purse H a c ∧
  ∀ p H' (y : Sty), H p = none → Keep a H H' → Purse H' a (c + 34) → H' p = some (.lst [.bl y.low, .int y.shift, .bl y.lead]) → y.shift.natAbs < 10 ^ 31 → Q (.ref p) H'
def spMarking (ca : CA) : Sp := fun vs H Q _ => ∃ (g : Addr) (y : Sty), vs = [.ref g] ∧ H g = some (.lst [.bl y.low, .int y.shift, .bl y.lead]) ∧ ∀ k H', H k = none → Same H H' → MkAt ca H' k y.low y.shift y.lead → Q (.ref k) H'
def spRoot : Sp := fun vs H Q _ => ∃ (a : Addr) (n c : Int), vs = [.ref a, .int n] ∧ 0 < n ∧ c < 2 ^ 48 ∧ Purse H a c ∧
  ∀ (r : Int) H', r.natAbs ≤ n.natAbs + 10 ^ 40 → Keep a H H' → Purse H' a (c + 43) → Q (.int r) H'
/-! ### the slots kept as a plain list -/
theorem w_st {t : TS} {N : List Str} {vs : List V} {σ' : L2.St} {D : Ends} {H : Hp} (h : L2.start N vs = σ') (q : t D σ' H) : t D (L2.start N vs) H := by rw [h]; exact q
theorem w_setN {te : TE} {i : Nat} {σ : L2.St} {σ' : V → L2.St} {D : Ends} {H : Hp} (h : ∀ x, σ.set i (some x) = σ' x) (q : te σ H fun x H1 => D.nx (σ' x) H1) : tAsg te (gName i) D σ H := by
  have e : (fun x H1 => D.nx (σ' x) H1) = fun x H1 => gName i x σ H1 D.nx := by
    funext x H1
    rw [← h x]
    rfl
  show te σ H fun x H1 => gName i x σ H1 D.nx
  rw [← e]
  exact q
theorem w_nxD {D : Ends} {σ : L2.St} {H : Hp} (q : D.nx σ H) : D.nx σ H := q
theorem w_rtD {D : Ends} {v : V} {H : Hp} (q : D.rt v H) : D.rt v H := q
theorem w_ctD {D : Ends} {σ : L2.St} {H : Hp} (q : D.ct σ H) : D.ct σ H := q
theorem w_bkD {D : Ends} {σ : L2.St} {H : Hp} (q : D.bk σ H) : D.bk σ H := q
end Bc

namespace Bc
open PySem PySem.Spec PyProof.Rows L2
/-! ### slices of ints, the law's own promise -/
theorem take_min {α : Type} (xs : List α) (j : Nat) : xs.take (min j xs.length) = xs.take j := by
  by_cases h : j ≤ xs.length
  · rw [Nat.min_eq_left h]
  · rw [Nat.min_eq_right (by omega), List.take_length, List.take_of_length_le (by omega)]
theorem drop_min {α : Type} (xs : List α) (j : Nat) : xs.drop (min j xs.length) = xs.drop j := by
  by_cases h : j ≤ xs.length
  · rw [Nat.min_eq_left h]
  · rw [Nat.min_eq_right (by omega), List.drop_length, List.drop_of_length_le (by omega)]
theorem cut_to (ls : List Int) (j : Nat) : cutV (ls.map V.int) none (some (j : Int)) = (ls.take j).map V.int := by
  unfold cutV
  rw [HT.sIx_none, HT.sIx_nat, List.drop_zero, Nat.sub_zero, take_min, List.map_take]
theorem cut_from (ls : List Int) (j : Nat) : cutV (ls.map V.int) (some (j : Int)) none = (ls.drop j).map V.int := by
  unfold cutV
  rw [HT.sIx_none, HT.sIx_nat, drop_min, List.map_drop, List.take_of_length_le]
  rw [List.length_drop, List.length_map]
  by_cases h : j ≤ ls.length
  · rw [Nat.min_eq_left h]; exact Nat.le_refl _
  · omega
theorem sz {n : Nat} (h : n ≤ 100000) : n ≤ sizeLine := Nat.le_trans h (by decide)
theorem map3 (a b c : List Int) : a.map V.int ++ b.map V.int ++ c.map V.int = (a ++ b ++ c).map V.int := by rw [List.map_append, List.map_append]
theorem vals_rev : ∀ {zs : List V} {ws : List Value}, Vals zs ws → Vals zs.reverse ws.reverse
  | _, _, .nil => .nil
  | _, _, .cons r t => by
    rw [List.reverse_cons, List.reverse_cons]
    exact Vals.append (vals_rev t) (.cons r .nil)
theorem Keep.toSame {p : Addr} {H H' : Hp} (n : H p = none) (k : Keep p H H') : Same H H' := fun b o h => k b o (fun e => by rw [e, n] at h; cases h) h
theorem small1 {p k : Int} (h : 0 < p ∧ p < 1024 ∧ 0 < k ∧ k ≤ 100) : Small [(p, k)] := ⟨fun q hq => by
  have : q = (p, k) := by simpa using hq
  rw [this]; exact h, by show 1 ≤ 64; decide⟩
def spLaw (K : PySem.W.Frag) : Sp := fun vs H Q _ => ∃ (a : Addr) (ns : List Int), vs = [.ref a] ∧ SqL K H a (ns.map V.int) ∧ ns.length ≤ 63 ∧ ∀ H', Q (.bl true) H'

end Bc
namespace Bc
open PySem PySem.Spec PyProof.Rows L2
/-! ### texts that are drawn -/
section
variable {J : It} {G : Hp → Prop} {te : TE} {vs : List Nat} {σ : L2.St} {H : Hp} {D : Addr} {Qd : Hp → Prop} {j : Nat}
theorem lc_drawsV (xs : List V) (a : Addr) (c n : Int) (R : V → Prop) (w : Walk J xs.length G (YAt xs)) (pu : Purse H a c) (hD : H D = none) (hG : ∀ H', Keep a H H' → G H') (sz : xs.length ≤ 100000)
    (wp : ∀ v, wipe ((wipe σ vs).set j v) vs = wipe σ vs)
    (step : ∀ (i : Nat) (x : V) (H' : Hp), xs[i]? = some x → Keep a H H' → Purse H' a (c + n * i) → ∀ Q' : VK, (∀ (y : V) (H'' : Hp), R y → Keep a H' H'' → Purse H'' a (c + n * ((i + 1 : Nat) : Int)) → Q' y H'') → te ((wipe σ vs).set j (some x)) H' Q')
    (q : ∀ (H' : Hp) (ys : List V), ys.length = xs.length → (∀ y ∈ ys, R y) → H' D = some (.lst ys) → Keep a H H' → Purse H' a (c + n * xs.length) → Qd H') :
    ∃ W : Nat → Nat → Hp → Prop, (∃ m, W 0 m (upd H D (.lst []))) ∧ ∀ i m H, W i m H →
      (J.stop i H ∧ Qd H) ∨ (J.go i H ∧ ∃ Nx : Hp → Prop, (∀ H', Nx H' → ∃ m', m' < m ∧ W (i + 1) m' H') ∧ ∀ x H', J.yld i H x H' → gName j x (wipe σ vs) H' fun σ2 H2 => wipe σ2 vs = wipe σ vs ∧ tYes σ2 H2 fun b H3 =>
        if b = true then te σ2 H3 fun y H4 => ∃ acc, H4 D = some (.lst acc) ∧ acc.length < sizeLine ∧ Nx (upd H4 D (.lst (acc ++ [y]))) else Nx H3) := by
  have nD : D ≠ a := pu.fresh hD
  refine lc_it w (fun i H' => ∃ ys : List V, ys.length = i ∧ (∀ y ∈ ys, R y) ∧ H' D = some (.lst ys) ∧ Keep a H H' ∧ Purse H' a (c + n * i)) ⟨[], rfl, (fun y h => by cases h), upd_same, .of (Same.new hD), (pu.same (Same.new hD)).le (by simp)⟩ (fun i H' _ h => by obtain ⟨_, _, _, _, k, _⟩ := h; exact hG H' k) ?_ ?_
  · rintro i x H1 H' hi ⟨ys, h1, h2, h3, h4, h5⟩ ⟨rfl, hx⟩
    refine ⟨wp _, w_yes ?_⟩
    rw [if_pos rfl]
    refine step i x H' hx h4 h5 _ fun y H2 r k2 p2 => ?_
    refine ⟨_, k2.at_ nD h3, ?_, ys ++ [y], ?_, ?_, ?_, ?_, ?_⟩
    · have : (100000 : Nat) < sizeLine := by decide
      omega
    · rw [List.length_append, h1]
      rfl
    · intro z hz
      rcases List.mem_append.mp hz with e | e
      · exact h2 z e
      · have : z = y := by simpa using e
        rw [this]; exact r
    · rw [upd_same]
    · intro b o nb hb
      rw [upd_ne (ne_of_none hb hD)]
      exact k2 _ _ nb (h4 _ _ nb hb)
    · obtain ⟨x1, y1, z1, e, r1⟩ := p2
      exact ⟨x1, y1, z1, by rw [upd_ne nD.symm]; exact e, r1⟩
  · rintro H' ⟨ys, h1, h2, h3, h4, h5⟩
    exact q H' ys h1 h2 h3 h4 h5
end
/-- a written text of plain signs -/
def Plain (z : Str) : Prop := ∀ c ∈ z.cps.toList, 32 ≤ c ∧ c ≤ 126
instance (z : Str) : Decidable (Plain z) := inferInstanceAs (Decidable (∀ c ∈ z.cps.toList, _))
theorem signs_of : ∀ {ys : List V}, (∀ y ∈ ys, ∃ c : Nat, (32 ≤ c ∧ c ≤ 126) ∧ y = .str ⟨#[c]⟩) → ∃ cs : List Nat, (∀ c ∈ cs, 32 ≤ c ∧ c ≤ 126) ∧ ys = (cs.map fun c => (⟨#[c]⟩ : Str)).map V.str
  | [], _ => ⟨[], (fun c h => by cases h), rfl⟩
  | y :: r, h => by
    obtain ⟨c, hc, e⟩ := h y (List.mem_cons_self ..)
    obtain ⟨cs, h1, h2⟩ := signs_of (ys := r) fun z hz => h z (List.mem_cons_of_mem _ hz)
    refine ⟨c :: cs, fun d hd => ?_, by rw [e, h2]; rfl⟩
    rcases List.mem_cons.mp hd with z | z
    · rw [z]; exact hc
    · exact h1 d z
theorem joinL_nil : ∀ cs : List Nat, TL.joinL [] (cs.map fun c => [c]) = cs
  | [] => rfl
  | [c] => rfl
  | c :: d :: r => by
    show [c] ++ ([] ++ TL.joinL [] ((d :: r).map fun c => [c])) = _
    rw [joinL_nil (d :: r)]
    rfl
theorem join_signs (cs : List Nat) : (Txt.join (Str.ofString "") (cs.map fun c => (⟨#[c]⟩ : Str))).cps.toList = cs := by
  rw [TL.join_eq]
  have h := TL.tl_join (Str.ofString "") (cs.map fun c => (⟨#[c]⟩ : Str))
  rw [List.map_map] at h
  exact h.trans (joinL_nil cs)
def spSigns : Sp := fun vs H Q _ => ∃ (a : Addr) (n c : Int), vs = [.ref a, .int n] ∧ 0 ≤ n ∧ n ≤ 1000 ∧ c < 2 ^ 48 ∧ Purse H a c ∧
  ∀ (z : Str) H', Keep a H H' → Purse H' a (c + 1 + n) → Plain z → (z.length : Int) = n → Q (.str z) H'
def spLetter : Sp := fun vs H Q _ => ∃ (a : Addr) (c : Int), vs = [.ref a] ∧ c < 2 ^ 48 ∧ Purse H a c ∧ ∀ (x : Int) H', Keep a H H' → Purse H' a (c + 34) → x.natAbs < 10 ^ 31 → Q (.int x) H'
theorem use_letter {H : Hp} {Q : VK} {E : XK} {a : Addr} {c : Int} (p : Purse H a c) (hc : c < 2 ^ 48) (q : ∀ (x : Int) H', Keep a H H' → Purse H' a (c + 34) → x.natAbs < 10 ^ 31 → Q (.int x) H') : spLetter ([.ref a] ++ []) H Q E := ⟨a, c, rfl, hc, p, q⟩
def NotAt (a : Addr) : V → Prop
  | .ref p => p ≠ a
  | _ => True
theorem TextAt.keep {a : Addr} {H H' : Hp} {v : V} {ls : List Int} (t : TextAt H v ls) (n : NotAt a v) (k : Keep a H H') : TextAt H' v ls := by
  cases t with
  | str z h l => exact .str z h l
  | lst p _ h l => exact .lst p _ (k _ _ n h) l
  | tup p _ h l => exact .tup p _ (k _ _ n h) l
def spText : Sp := fun vs H Q _ => ∃ (a : Addr) (n c : Int), vs = [.ref a, .int n] ∧ 0 ≤ n ∧ n ≤ 1000 ∧ c < 2 ^ 47 ∧ Purse H a c ∧
  ∀ (v : V) (ls : List Int) H', Keep a H H' → Purse H' a (c + 2 + 34 * (n + 1)) → TextAt H' v ls → NotAt a v → (ls.length : Int) ≤ n → (∀ l ∈ ls, l.natAbs < 10 ^ 31) → Q v H'
theorem use_text {H : Hp} {Q : VK} {E : XK} {a : Addr} {n c : Int} (p : Purse H a c) (n0 : 0 ≤ n) (n1 : n ≤ 1000) (hc : c < 2 ^ 47) (q : ∀ (v : V) (ls : List Int) H', Keep a H H' → Purse H' a (c + 2 + 34 * (n + 1)) → TextAt H' v ls → NotAt a v → (ls.length : Int) ≤ n → (∀ l ∈ ls, l.natAbs < 10 ^ 31) → Q v H') :
    spText ([.ref a, .int n] ++ []) H Q E := ⟨a, n, c, rfl, n0, n1, hc, p, q⟩
def spLetters : Sp := fun vs H Q _ => ∃ (v : V) (ls : List Int), vs = [v] ∧ TextAt H v ls ∧ ∀ l H', H l = none → Same H H' → H' l = some (.lst (ls.map V.int)) → Q (.ref l) H'
theorem mem_ints {cs : List Nat} {l : Int} (hc : ∀ c ∈ cs, 32 ≤ c ∧ c ≤ 126) (h : l ∈ cs.map Int.ofNat) : l.natAbs < 10 ^ 31 := by
  obtain ⟨c, h1, rfl⟩ := List.mem_map.mp h
  have := hc c h1
  show c < 10 ^ 31
  omega

end Bc
namespace Bc
open PySem PySem.Spec PyProof.Rows L2
/-! ### instances that are called, ways compared -/
section
variable {X : Cx} {k j : Nat} {C : Addr} {sp : Sp} {tf : TE} {t : TA} {fe e : Expr} {es : List Expr} {pos : Pos}
structure CalO (P : Program) (w : World) (K : PySem.W.Frag) (mg : Str → Option Value) (base : Heap) (k : Nat) (C : Addr) (sp : Sp) : Prop where
  ex : ∃ g : Addr, StX.CallO K C g ∧ FnR P w K mg base L2.CX0 k g sp
def tCO (C : Addr) (sp : Sp) (E : XK) (tf : TE) (t : TA) : TE := fun σ H Q => tf σ H fun y H1 => ∃ a, y = V.ref a ∧ t σ H1 fun vs H2 => ((∃ dx vs, SlX.Slt H2 a C dx vs) ∨ ∃ dx fs, H2 a = some (.ins C dx fs)) ∧ sp (V.ref a :: vs) H2 Q E
theorem pe_cO (hf : PE X fe tf) (c : CalO X.prog X.w X.K X.mg X.base k C sp) (hr : Room j X.A) (hk : k ≤ j) (ha : PA X (e :: es) t)
    (ht : eval (.Call fe (e :: es) [] pos) X.env = (do callWith pos (← eval fe X.env) [] (backTo pos (starEach (e :: es) X.env)) (backToKw pos (keywordEach [] X.env))) := by rfl)
    (he : starEach (e :: es) X.env = (false, eval e X.env) :: starEach es X.env := by rfl) (hpl : (backTo pos (starEach es X.env)).any (·.1) = false := by rfl) : PE X (.Call fe (e :: es) [] pos) (tCO C sp L2.E0 tf t) := by
  obtain ⟨g, c1, F⟩ := c.ex
  exact StX.pe_callO hf c1 F (hr.mono hk) pass0 ha ht he hpl
theorem w_cO {σ : L2.St} {H : Hp} {Q : VK} {E : XK} (q : tf σ H fun y H1 => ∃ a, y = V.ref a ∧ t σ H1 fun vs H2 => ((∃ dx vs, SlX.Slt H2 a C dx vs) ∨ ∃ dx fs, H2 a = some (.ins C dx fs)) ∧ sp (V.ref a :: vs) H2 Q E) : tCO C sp E tf t σ H Q := q
theorem w_insC {H : Hp} {a dx : Addr} {fs : List (Str × V)} {P : Prop} (h : H a = some (.ins C dx fs)) (q : P) : ((∃ dx vs, SlX.Slt H a C dx vs) ∨ ∃ dx fs, H a = some (.ins C dx fs)) ∧ P := ⟨.inr ⟨dx, fs, h⟩, q⟩
end
def plainS (y : Sty) (b n : Int) : Int := (y.shift + (if y.lead then b - 1 else 0)) % n
def spShift (c : CA) : Sp := fun vs H Q _ => ∃ (x : Addr) (b : Int) (ps : List (Int × Int)) (y : Sty), vs = [.ref x] ∧ WayAt c H x b ps y ∧ Q (.int (plainS y b (num ps))) H
def spLike (c : CA) : Sp := fun vs H Q _ => ∃ (x x' : Addr) (b b' : Int) (ps ps' : List (Int × Int)) (y y' : Sty), vs = [.ref x, .ref x'] ∧ WayAt c H x b ps y ∧ WayAt c H x' b' ps' y' ∧ y.low = y'.low ∧ Q .non H
def rParts (b n s b' n' s' : Int) : Bool := decide (n % n' = 0) && decide ((b - b') % n' = 0) && decide ((s - s') % n' = 0)
def spParts (c : CA) : Sp := fun vs H Q _ => ∃ (x x' : Addr) (b b' : Int) (ps ps' : List (Int × Int)) (y y' : Sty), vs = [.ref x, .ref x'] ∧ WayAt c H x b ps y ∧ WayAt c H x' b' ps' y' ∧ y.low = y'.low ∧ Q (.bl (rParts b (num ps) (plainS y b (num ps)) b' (num ps') (plainS y' b' (num ps')))) H
def rPartsL (low low' : Bool) (b n b' n' : Int) : Bool := decide (n % n' = 0) && (if low = low' then decide ((b - b') % n' = 0) else decide ((b * b' - 1) % n' = 0))
def spPartsL (c : CA) : Sp := fun vs H Q _ => ∃ (x x' : Addr) (b b' : Int) (ps ps' : List (Int × Int)) (y y' : Sty), vs = [.ref x, .ref x'] ∧ WayAt c H x b ps y ∧ WayAt c H x' b' ps' y' ∧ Q (.bl (rPartsL y.low y'.low b (num ps) b' (num ps'))) H
theorem WayAt.pos {c : CA} {H : Hp} {x : Addr} {b : Int} {ps : List (Int × Int)} {y : Sty} (h : WayAt c H x b ps y) : 0 < num ps := by
  obtain ⟨_, _, _, _, _, _, h1, h2⟩ := h
  omega
theorem decB {a b : Bool} : decide (V.bl a = V.bl b) = decide (a = b) := by cases a <;> cases b <;> rfl

end Bc
namespace Bc
open PySem PySem.Spec PyProof.Rows L2
/-! ### k96: sums turned about -/
theorem hv_app (u v : List Int) (b : Int) : hv (u ++ v) b = hv u b * b ^ v.length + hv v b := by
  show List.foldl _ _ _ = _
  rw [List.foldl_append, hv_fold]
  rfl
/-- 1 + b + .. -/
def geo (b : Int) (n : Nat) : Int := hv (List.replicate n 1) b
theorem geo_succ (b : Int) (n : Nat) : geo b (n + 1) = b ^ n + geo b n := by
  unfold geo
  rw [List.replicate_succ, hv_cons, List.length_replicate, Int.one_mul]
theorem geo_mul (b : Int) : ∀ n : Nat, (b - 1) * geo b n = b ^ n - 1
  | 0 => by simp [geo, hv]
  | n + 1 => by
    rw [geo_succ, Int.pow_succ, Int.mul_add, geo_mul b n]
    grind
theorem hv_map (s b : Int) : ∀ ls : List Int, hv (ls.map (· + s)) b = hv ls b + s * geo b ls.length
  | [] => by simp [geo, hv]
  | l :: r => by
    rw [List.map_cons, hv_cons, hv_cons, hv_map s b r, List.length_map, List.length_cons, geo_succ]
    grind
/-- the mark, by the sum -/
theorem mark_hv (y : Sty) (b n : Int) (ls : List Int) : mark y b n ls = ((if y.lead then 1 else 0) * b ^ ls.length + hv (if y.low then ls.reverse else ls) b + y.shift * geo b ls.length) % n := by
  unfold mark hf
  rw [rest_hv, hv_cons]
  by_cases h : y.low = true
  · rw [if_pos h, if_pos h, ← List.map_reverse, hv_map, List.length_map, List.length_reverse, Int.add_assoc]
  · rw [if_neg h, if_neg h, hv_map, List.length_map, Int.add_assoc]
theorem emod_of {n x y : Int} (k : Int) (h : x = y + n * k) : x % n = y % n := by
  rw [h, Int.add_mul_emod_self_left]
theorem plain_mark (y : Sty) (b n : Int) (ls : List Int) : (mark ⟨y.low, plainS y b n, false⟩ b n ls + (if y.lead then 1 else 0)) % n = mark y b n ls := by
  rw [mark_hv, mark_hv, Int.emod_add_emod]
  unfold plainS
  have h := geo_mul b ls.length
  generalize b ^ ls.length = p at h ⊢
  generalize hv (if y.low = true then ls.reverse else ls) b = z
  generalize geo b ls.length = g at h ⊢
  by_cases hl : y.lead = true
  · simp only [hl, if_true, Bool.false_eq_true, if_false]
    refine emod_of (-((y.shift + (b - 1)) / n) * g) ?_
    rw [Int.emod_def]
    generalize (y.shift + (b - 1)) / n = q
    grind
  · have hl' : y.lead = false := by simpa using hl
    simp only [hl', if_true, Bool.false_eq_true, if_false]
    refine emod_of (-((y.shift + 0) / n) * g) ?_
    rw [Int.emod_def]
    generalize (y.shift + 0) / n = q
    grind
theorem hv_mod (b n : Int) : ∀ cs : List Int, hv cs (b % n) % n = hv cs b % n := fun cs => by
  have h : ∀ (cs : List Int) (a a' : Int), a % n = a' % n → (cs.foldl (fun f c => f * (b % n) + c) a) % n = (cs.foldl (fun f c => f * b + c) a') % n := by
    intro cs
    induction cs with
    | nil => exact fun a a' h => h
    | cons c r ih =>
      intro a a' h
      rw [List.foldl_cons, List.foldl_cons]
      refine ih _ _ ?_
      rw [Int.add_emod, Int.mul_emod, h, Int.emod_emod_of_dvd _ (Int.dvd_refl n), ← Int.mul_emod, ← Int.add_emod]
  exact h cs 0 0 rfl
/-- the difference of two lists of one length -/
def sub2 (ls ms : List Int) : List Int := List.zipWith (· - ·) ls ms
theorem hv_sub (b : Int) : ∀ {ls ms : List Int}, ls.length = ms.length → hv (sub2 ls ms) b = hv ls b - hv ms b
  | [], [], _ => by simp [sub2, hv]
  | [], _ :: _, h => by cases h
  | _ :: _, [], h => by cases h
  | l :: r, m :: t, h => by
    have h' : r.length = t.length := by simpa using h
    have e : sub2 (l :: r) (m :: t) = (l - m) :: sub2 r t := rfl
    have el : (sub2 r t).length = r.length := by unfold sub2; rw [List.length_zipWith]; omega
    rw [e, hv_cons, hv_cons, hv_cons, hv_sub b h', el, ← h']
    grind
theorem sub2_rev : ∀ {ls ms : List Int}, ls.length = ms.length → sub2 ls.reverse ms.reverse = (sub2 ls ms).reverse := fun {ls ms} h => by
  unfold sub2
  rw [List.reverse_zipWith h]
/-- two texts of one length agree just if the number divides the sum of their difference -/
theorem agree_iff {y : Sty} {b n : Int} {ls ms : List Int} (hl : ls.length = ms.length) : mark y b n ls = mark y b n ms ↔ n ∣ hv (if y.low then (sub2 ls ms).reverse else sub2 ls ms) b := by
  rw [mark_hv, mark_hv, Int.emod_eq_emod_iff_emod_sub_eq_zero, ← Int.dvd_iff_emod_eq_zero]
  have e : hv (if y.low then (sub2 ls ms).reverse else sub2 ls ms) b = hv (if y.low then ls.reverse else ls) b - hv (if y.low then ms.reverse else ms) b := by
    by_cases h : y.low = true
    · rw [if_pos h, if_pos h, if_pos h, ← sub2_rev hl, hv_sub b (by simpa using hl)]
    · rw [if_neg h, if_neg h, if_neg h, hv_sub b hl]
  rw [e, hl]
  have e2 : ∀ p q r s g : Int, p + q + s - (p + r + s) = q - r := fun p q r s g => by omega
  rw [e2 _ _ _ _ 0]
/-- read from the other end by an inverse -/
theorem hv_turn {b c n u : Int} (h : b * c = 1 + n * u) : ∀ ds : List Int, ∃ k, hv ds.reverse c * b ^ ds.length = hv ds b * b + n * k
  | [] => ⟨0, by simp [hv]⟩
  | d :: r => by
    obtain ⟨k, hk⟩ := hv_turn h r
    refine ⟨hv r.reverse c * b ^ r.length * u + k, ?_⟩
    have e : hv [d] c = d := by simp [hv]
    rw [List.reverse_cons, hv_app, e, hv_cons d r b]
    show (hv r.reverse c * c ^ 1 + d) * b ^ (r.length + 1) = _
    rw [Int.pow_succ b r.length]
    generalize hv r.reverse c = x at hk ⊢
    generalize b ^ r.length = p at hk ⊢
    generalize hv r b = z at hk ⊢
    grind
theorem turn_dvd {b c n u : Int} (h : b * c = 1 + n * u) (ds : List Int) : n ∣ hv ds.reverse c ↔ n ∣ hv ds b := by
  obtain ⟨k, hk⟩ := hv_turn h ds
  have hp : ∀ m : Nat, ∃ v, b ^ m * c ^ m = 1 + n * v := fun m => by
    induction m with
    | zero => exact ⟨0, by simp⟩
    | succ m ih =>
      obtain ⟨v, hv⟩ := ih
      refine ⟨v + u + n * u * v, ?_⟩
      rw [Int.pow_succ, Int.pow_succ]
      generalize b ^ m = p at hv ⊢
      generalize c ^ m = q at hv ⊢
      grind
  constructor
  · rintro ⟨t, ht⟩
    refine ⟨t * b ^ ds.length * c - k * c - hv ds b * u, ?_⟩
    rw [ht] at hk
    generalize hv ds b = z at hk ⊢
    generalize b ^ ds.length = p at hk ⊢
    grind
  · rintro ⟨t, ht⟩
    obtain ⟨v, hv'⟩ := hp ds.length
    refine ⟨(t * b + k) * c ^ ds.length - hv ds.reverse c * v, ?_⟩
    rw [ht] at hk
    generalize hv ds.reverse c = z at hk ⊢
    generalize b ^ ds.length = p at hk hv' ⊢
    generalize c ^ ds.length = q at hv' ⊢
    grind

def spInv : Sp := fun vs H Q _ => ∃ (r n : Int) (B : Nat), vs = [.int r, .int n] ∧ 0 < n ∧ n.natAbs < 2 ^ B ∧ B ≤ 8000 ∧ (∀ (i u : Int) H', Same H H' → 0 ≤ i → i < n → r * i = 1 + n * u → Q (.int i) H') ∧ (∀ H', Same H H' → (∀ i u : Int, r * i ≠ 1 + n * u) → Q .non H')
/-- the two rows of the search for an inverse -/
def InvRow (r n one two f l : Int) : Prop := (one ≤ n ∧ two ≤ n) ∧ 0 < one ∧ 0 ≤ two ∧ (∃ u, f * r = one + n * u) ∧ (∃ v, l * r = two + n * v) ∧ Int.gcd one two = Int.gcd r n ∧ ∃ s F L : Int, (s = 1 ∨ s = -1) ∧ f = -s * F ∧ l = s * L ∧ 0 ≤ F ∧ 0 ≤ L ∧ L * one + F * two = n
theorem InvRow.start {r n : Int} (hn : 0 < n) : InvRow r n n (r % n) 0 1 := by
  have hlt := Int.emod_lt_of_pos r hn
  refine ⟨⟨by omega, by omega⟩, hn, Int.emod_nonneg _ (by omega), ⟨-1, by omega⟩, ⟨r / n, ?_⟩, ?_, 1, 0, 1, .inl rfl, rfl, rfl, by decide, by decide, by omega⟩
  · have := Int.emod_add_mul_ediv r n
    omega
  · have h := Int.gcd_mul_left_add_left n (r % n) (r / n)
    rw [Int.mul_ediv_add_emod] at h
    rw [Int.gcd_comm, h]
theorem InvRow.step {r n one two f l : Int} (h : InvRow r n one two f l) (h2 : two ≠ 0) : InvRow r n two (one - one / two * two) l (f - one / two * l) := by
  obtain ⟨a0, a1, a2, ⟨u, a3⟩, ⟨v, a4⟩, a5, s, F, L, a6, a7, a8, a9, a10, a11⟩ := h
  have hlt := Int.emod_lt_of_pos one (show 0 < two by omega)
  have e : one - one / two * two = one % two := by rw [Int.emod_def, Int.mul_comm]
  have hm := Int.emod_nonneg one h2
  have hq : 0 ≤ one / two := Int.ediv_nonneg (by omega) a2
  refine ⟨⟨by omega, by omega⟩, by omega, by omega, ⟨v, a4⟩, ⟨u - one / two * v, ?_⟩, ?_, -s, L, F + one / two * L, ?_, ?_, ?_, a10, ?_, ?_⟩
  · generalize one / two = t
    grind
  · rw [e, ← a5]
    have h6 := Int.gcd_mul_left_add_right two (one % two) (one / two)
    rw [Int.mul_ediv_add_emod] at h6
    rw [← h6, Int.gcd_comm]
  · omega
  · rw [a8]; grind
  · rw [a7, a8]
    generalize one / two = t
    grind
  · have := Int.mul_nonneg hq a10
    omega
  · generalize one / two = t
    grind
theorem InvRow.small {r n one two f l : Int} (h : InvRow r n one two f l) : l.natAbs ≤ n.natAbs := by
  obtain ⟨_, a1, a2, _, _, _, s, F, L, a6, a7, a8, a9, a10, a11⟩ := h
  have h1 : L ≤ L * one := by
    have := Int.mul_le_mul_of_nonneg_left (show 1 ≤ one by omega) a10
    omega
  have h2 : 0 ≤ F * two := Int.mul_nonneg a9 a2
  rcases a6 with rfl | rfl <;> omega
theorem InvRow.ends {r n one f l : Int} (h : InvRow r n one 0 f l) : (one = 1 → ∃ u, r * (f % n) = 1 + n * u) ∧ (one ≠ 1 → ∀ i u : Int, r * i ≠ 1 + n * u) := by
  obtain ⟨_, a1, _, ⟨u, a3⟩, _, a5, _⟩ := h
  constructor
  · intro e
    refine ⟨u - r * (f / n), ?_⟩
    rw [Int.emod_def]
    generalize f / n = q
    grind
  · intro e i u z
    rw [Int.gcd_zero] at a5
    have h1 : (Int.gcd r n : Int) ∣ 1 := by
      have d1 : (Int.gcd r n : Int) ∣ r * i := Int.dvd_trans (Int.gcd_dvd_left r n) (Int.dvd_mul_right _ _)
      have d2 : (Int.gcd r n : Int) ∣ n * u := Int.dvd_trans (Int.gcd_dvd_right r n) (Int.dvd_mul_right _ _)
      have := Int.dvd_sub d1 d2
      rwa [z, show 1 + n * u - n * u = 1 by omega] at this
    have h2 := Int.le_of_dvd (by decide) h1
    omega
def spNear : Sp := fun vs H Q _ => ∃ (a l : Addr) (ls : List Int) (r n c : Int), vs = [.ref a, .ref l, .int r, .int n] ∧ l ≠ a ∧ H l = some (.lst (ls.map V.int)) ∧ ls.length ≤ 1000 ∧ c < 2 ^ 47 ∧ Purse H a c ∧
  ∀ (m : Addr) (ms : List Int) H', H m = none → Keep a H H' → Purse H' a (c + 5) → H' m = some (.lst (ms.map V.int)) → ms.length = ls.length → hv ms r = hv ls r → Q (.ref m) H'
theorem near_hv {ls : List Int} {j : Nat} (h : j + 1 < ls.length) (s r : Int) : hv (ls.take j ++ [ls.getD j 0 + s, ls.getD (j + 1) 0 - s * r] ++ ls.drop (j + 2)) r = hv ls r := by
  have e : ls = ls.take j ++ [ls.getD j 0, ls.getD (j + 1) 0] ++ ls.drop (j + 2) := by
    have h1 : ls.getD j 0 = ls[j] := by simp [List.getD, h, show j < ls.length by omega]
    have h2 : ls.getD (j + 1) 0 = ls[j + 1] := by simp [List.getD, h]
    rw [h1, h2, List.append_assoc]
    show ls = ls.take j ++ (ls[j] :: ls[j + 1] :: ls.drop (j + 2))
    rw [← List.drop_eq_getElem_cons h, ← List.drop_eq_getElem_cons (show j < ls.length by omega), List.take_append_drop]
  conv => rhs; rw [e]
  rw [hv_app, hv_app, hv_app, hv_app]
  have e3 : ∀ x y : Int, hv [x, y] r = x * r + y := fun x y => by simp [hv]
  rw [e3, e3]
  generalize hv (ls.take j) r = z
  generalize hv (ls.drop (j + 2)) r = w
  generalize r ^ (ls.drop (j + 2)).length = p
  show (z * r ^ 2 + _) * p + w = (z * r ^ 2 + _) * p + w
  generalize r ^ 2 = q
  grind
def spRight : Sp := fun vs H Q _ => ∃ (a : Addr) (c : Int), vs = [.ref a] ∧ c < 2 ^ 46 ∧ Purse H a c ∧ ∀ H', Keep a H H' → Purse H' a (c + 10000) → Q (.bl true) H'
theorem cut3 (x y z : V) : cutV [x, y, z] (some 1) none = [y, z] := by
  have h := HT.sIx_nat 3 0 1
  unfold cutV
  rw [HT.sIx_none, show HT.sIx [x, y, z].length 0 (some 1) = min 1 3 from h]
  rfl
theorem three_ne (l : Bool) (s : Int) (d : Bool) (x y z : Int) : HO.lst [.bl l, .int s, .bl d] ≠ .lst [.int x, .int y, .int z] := fun e => by cases e
theorem bound3 {ps : List (Int × Int)} (hs : Small ps) (hl : (ps.length : Int) ≤ 3) : (num ps).natAbs < 2 ^ 3031 := by
  have h := (num_bound hs ps.length (Nat.le_refl _)).2
  rw [List.take_length] at h
  exact Nat.lt_of_lt_of_le h (Nat.pow_le_pow_right (by decide) (by omega))
theorem mark_rev1 (s : Int) (d : Bool) (b n : Int) (ls : List Int) : mark ⟨true, s, d⟩ b n ls.reverse = mark ⟨false, s, d⟩ b n ls := by
  unfold mark hf
  simp only [if_true, Bool.false_eq_true, if_false]
  rw [← List.map_reverse, List.reverse_reverse]
theorem mark_rev2 (s : Int) (d : Bool) (b n : Int) (ls : List Int) : mark ⟨false, s, d⟩ b n ls.reverse = mark ⟨true, s, d⟩ b n ls := by
  unfold mark hf
  simp only [if_true, Bool.false_eq_true, if_false]
  rw [List.map_reverse]
theorem plainS_plain (y : Sty) (l : Bool) (b n : Int) : plainS ⟨l, plainS y b n, false⟩ b n = plainS y b n := by
  unfold plainS
  simp only [Bool.false_eq_true, if_false]
  rw [Int.add_zero, Int.emod_emod_of_dvd _ (Int.dvd_refl n)]
theorem parts_self (b n s : Int) : rParts b n s b n s = true := by
  unfold rParts
  simp
theorem partsL_no {r n : Int} (h : ∀ i u : Int, r * i ≠ 1 + n * u) : rPartsL false true (r % n) n (r % n) n = false := by
  unfold rPartsL
  rw [if_neg (by decide)]
  have : ¬ (r % n * (r % n) - 1) % n = 0 := fun z => by
    obtain ⟨k, hk⟩ := Int.dvd_of_emod_eq_zero z
    refine h (r % n) (k + r / n * (r % n)) ?_
    have e := Int.emod_add_mul_ediv r n
    generalize r / n = q at e ⊢
    generalize r % n = m at e hk ⊢
    grind
  rw [decide_eq_false this, Bool.and_false]
theorem prod_mod {r n i u : Int} (h : r * i = 1 + n * u) : ∃ v, r % n * (i % n) = 1 + n * v := by
  refine ⟨u - r / n * i - i / n * r + n * (r / n) * (i / n), ?_⟩
  rw [Int.emod_def, Int.emod_def]
  generalize r / n = q
  generalize i / n = t
  grind
theorem partsL_yes {r n i u : Int} (h : r * i = 1 + n * u) : rPartsL false true (r % n) n (i % n) n = true ∧ rPartsL true false (i % n) n (r % n) n = true := by
  obtain ⟨v, hv⟩ := prod_mod h
  unfold rPartsL
  rw [if_neg (by decide), if_neg (by decide), Int.mul_comm (i % n), hv, show 1 + n * v - 1 = n * v by omega]
  simp
theorem agree_turn {r n i u s : Int} {d d' : Bool} {ls ms : List Int} (h : r * i = 1 + n * u) (hl : ls.length = ms.length) : rAgree ⟨false, s, d⟩ (r % n) n ls ms = rAgree ⟨true, s, d'⟩ (i % n) n ls ms := by
  obtain ⟨v, hv⟩ := prod_mod h
  unfold rAgree
  have h1 := agree_iff (y := ⟨false, s, d⟩) (b := r % n) (n := n) hl
  have h2 := agree_iff (y := ⟨true, s, d'⟩) (b := i % n) (n := n) hl
  simp only [if_true, Bool.false_eq_true, if_false] at h1 h2
  rw [turn_dvd hv] at h2
  exact decide_eq_decide.mpr (h1.trans h2.symm)
theorem agree_near {r n s : Int} {d : Bool} {ls ms : List Int} (hl : ms.length = ls.length) (hv' : hv ms r = hv ls r) : rAgree ⟨false, s, d⟩ (r % n) n ls ms = true := by
  unfold rAgree
  refine decide_eq_true ?_
  rw [agree_iff hl.symm]
  simp only [Bool.false_eq_true, if_false]
  rw [hv_sub _ hl.symm, Int.dvd_iff_emod_eq_zero, Int.sub_emod, hv_mod, hv_mod, hv', ← Int.sub_emod, Int.sub_self]
  rfl
theorem w_revx {K : PySem.W.Frag} {H : Hp} {x : Addr} {xs : List V} {P : Addr → List V → Prop} (h : SqL K H x xs) (q : ∀ p, H p = none → P p xs) : ∃ a xs, V.ref x = .ref a ∧ SqL K H a xs ∧ ∀ p, H p = none → P p xs := ⟨x, xs, rfl, h, q⟩

end Bc
namespace Bc
open PySem PySem.Spec PyProof.Rows L2
/-! ### pieces of texts: sums that are not reduced -/
def ld (y : Sty) : Int := if y.lead then 1 else 0
def Sm (y : Sty) (b : Int) (ls : List Int) : Int := ld y * b ^ ls.length + hv (if y.low then ls.reverse else ls) b + y.shift * geo b ls.length
theorem mark_Sm (y : Sty) (b n : Int) (ls : List Int) : mark y b n ls = Sm y b ls % n := mark_hv y b n ls
theorem geo_add (b : Int) (m : Nat) : ∀ k : Nat, geo b (k + m) = geo b k * b ^ m + geo b m
  | 0 => by rw [Nat.zero_add]; simp [geo, hv]
  | k + 1 => by
    rw [Nat.add_right_comm, geo_succ, geo_succ, geo_add b m k, Int.pow_add]
    grind
theorem geo_add2 (b : Int) (k m : Nat) : geo b (k + m) = geo b k + b ^ k * geo b m := by
  rw [Nat.add_comm, geo_add]
  grind
theorem Sm_high {y : Sty} (h : y.low = false) (b : Int) (u v : List Int) : Sm y b (u ++ v) = (Sm y b u - ld y) * b ^ v.length + Sm y b v := by
  unfold Sm
  rw [h]
  simp only [Bool.false_eq_true, if_false]
  rw [List.length_append, hv_app, geo_add, Int.pow_add]
  generalize b ^ u.length = p
  generalize b ^ v.length = q
  grind
theorem Sm_low {y : Sty} (h : y.low = true) (b : Int) (u v : List Int) : Sm y b (u ++ v) = Sm y b u + b ^ u.length * (Sm y b v - ld y) := by
  unfold Sm
  rw [h]
  simp only [if_true]
  rw [List.length_append, List.reverse_append, hv_app, geo_add2, Int.pow_add, List.length_reverse]
  generalize b ^ u.length = p
  generalize b ^ v.length = q
  grind
theorem cg {n x y : Int} : x % n = y % n ↔ ∃ k, x = y + n * k := by
  rw [Int.emod_eq_emod_iff_emod_sub_eq_zero, ← Int.dvd_iff_emod_eq_zero]
  constructor
  · rintro ⟨k, hk⟩
    exact ⟨k, by omega⟩
  · rintro ⟨k, hk⟩
    exact ⟨k, by omega⟩
theorem self_mod (n x : Int) : ∃ k, x % n = x + n * k := ⟨-(x / n), by rw [Int.emod_def]; grind⟩
/-- what joined reckons -/
theorem join_high {y : Sty} (h : y.low = false) (b n : Int) (u v : List Int) : (b ^ v.length % n * (mark y b n u - ld y) + mark y b n v) % n = mark y b n (u ++ v) := by
  rw [mark_Sm, mark_Sm, mark_Sm, Sm_high h, cg]
  obtain ⟨k1, e1⟩ := self_mod n (b ^ v.length)
  obtain ⟨k2, e2⟩ := self_mod n (Sm y b u)
  obtain ⟨k3, e3⟩ := self_mod n (Sm y b v)
  rw [e1, e2, e3]
  generalize b ^ v.length = q
  generalize Sm y b u = su
  generalize Sm y b v = sv
  exact ⟨q * k2 + k1 * (su - ld y) + n * k1 * k2 + k3, by grind⟩
theorem join_low {y : Sty} (h : y.low = true) (b n : Int) (u v : List Int) : (mark y b n u + b ^ u.length % n * (mark y b n v - ld y)) % n = mark y b n (u ++ v) := by
  rw [mark_Sm, mark_Sm, mark_Sm, Sm_low h, cg]
  obtain ⟨k1, e1⟩ := self_mod n (b ^ u.length)
  obtain ⟨k2, e2⟩ := self_mod n (Sm y b v)
  obtain ⟨k3, e3⟩ := self_mod n (Sm y b u)
  rw [e1, e2, e3]
  generalize b ^ u.length = q
  generalize Sm y b u = su
  generalize Sm y b v = sv
  exact ⟨q * k2 + k1 * (sv - ld y) + n * k1 * k2 + k3, by grind⟩
/-- the right part of a high one, the left part of a low one -/
theorem right_high {y : Sty} (h : y.low = false) (b n : Int) (u v : List Int) : (mark y b n (u ++ v) - b ^ v.length % n * (mark y b n u - ld y)) % n = mark y b n v := by
  rw [mark_Sm, mark_Sm, mark_Sm, Sm_high h, cg]
  obtain ⟨k1, e1⟩ := self_mod n (b ^ v.length)
  obtain ⟨k2, e2⟩ := self_mod n (Sm y b u)
  obtain ⟨k3, e3⟩ := self_mod n ((Sm y b u - ld y) * b ^ v.length + Sm y b v)
  rw [e1, e2, e3]
  generalize b ^ v.length = q
  generalize Sm y b u = su
  generalize Sm y b v = sv
  exact ⟨k3 - q * k2 - k1 * (su - ld y) - n * k1 * k2, by grind⟩
theorem left_low {y : Sty} (h : y.low = true) (b n : Int) (u v : List Int) : (mark y b n (u ++ v) - b ^ u.length % n * (mark y b n v - ld y)) % n = mark y b n u := by
  rw [mark_Sm, mark_Sm, mark_Sm, Sm_low h, cg]
  obtain ⟨k1, e1⟩ := self_mod n (b ^ u.length)
  obtain ⟨k2, e2⟩ := self_mod n (Sm y b v)
  obtain ⟨k3, e3⟩ := self_mod n (Sm y b u + b ^ u.length * (Sm y b v - ld y))
  rw [e1, e2, e3]
  generalize b ^ u.length = q
  generalize Sm y b u = su
  generalize Sm y b v = sv
  exact ⟨k3 - q * k2 - k1 * (sv - ld y) - n * k1 * k2, by grind⟩
/-- powers by halves -/
def spPower : Sp := fun vs H Q _ => ∃ (b e n : Int) (B : Nat), vs = [.int b, .int e, .int n] ∧ 0 ≤ e ∧ e < 2 ^ 60 ∧ 0 < n ∧ n.natAbs < 2 ^ B ∧ B ≤ 100000 ∧ Q (.int (b ^ e.toNat % n)) H
theorem half_pow (f : Int) (x : Int) (h : 0 < x) : f ^ x.toNat = (if x % 2 = 1 then f else 1) * (f * f) ^ (x / 2).toNat := by
  have e : x.toNat = (x / 2).toNat + (x / 2).toNat + (x % 2).toNat := by omega
  have h2 : x % 2 = 0 ∨ x % 2 = 1 := by omega
  have hm : ∀ k : Nat, (f * f) ^ k = f ^ k * f ^ k := fun k => by
    induction k with
    | zero => simp
    | succ k ih => rw [Int.pow_succ, Int.pow_succ, ih]; grind
  rw [hm]
  rcases h2 with h2 | h2
  · rw [if_neg (by omega), e, h2, Int.pow_add, Int.pow_add]
    simp
  · rw [if_pos h2, e, h2, Int.pow_add, Int.pow_add]
    show f ^ _ * f ^ _ * f ^ 1 = _
    grind
def spReqMark (c : CA) : Sp := fun vs H Q _ => ∃ (x : Addr) (m b : Int) (ps : List (Int × Int)) (y : Sty), vs = [.ref x, .int m] ∧ WayAt c H x b ps y ∧ 0 ≤ m ∧ m < num ps ∧ Q .non H
def spReqLen : Sp := fun vs H Q _ => ∃ n : Int, vs = [.int n] ∧ 0 ≤ n ∧ Q .non H
def spReqPlace : Sp := fun vs H Q _ => ∃ n f l : Int, vs = [.int n, .int f, .int l] ∧ f ≤ n ∧ n ≤ l ∧ Q .non H
def spReqLetter : Sp := fun vs H Q _ => ∃ n : Int, vs = [.int n] ∧ Q .non H
def spReqPieces (c : CA) : Sp := fun vs H Q _ => ∃ (x : Addr) (m k i j b : Int) (ps : List (Int × Int)) (y : Sty), vs = [.ref x, .int m, .int k, .int i, .int j] ∧ WayAt c H x b ps y ∧ (0 ≤ m ∧ m < num ps) ∧ (0 ≤ k ∧ k < num ps) ∧ 0 ≤ i ∧ 0 ≤ j ∧ Q .non H
def spWeight (c : CA) : Sp := fun vs H Q _ => ∃ (x : Addr) (e b : Int) (ps : List (Int × Int)) (y : Sty), vs = [.ref x, .int e] ∧ WayAt c H x b ps y ∧ 0 ≤ e ∧ e < 2 ^ 60 ∧ Q (.int (b ^ e.toNat % num ps)) H
/-- joined, right_of, left_of, changed, rolled: two texts and what is told -/
def spJoined (c : CA) : Sp := fun vs H Q _ => ∃ (x : Addr) (b : Int) (ps : List (Int × Int)) (y : Sty) (u v : List Int), vs = [.ref x, .int (mark y b (num ps) u), .int (mark y b (num ps) v), .int u.length, .int v.length] ∧ WayAt c H x b ps y ∧ u.length < 2 ^ 40 ∧ v.length < 2 ^ 40 ∧ Q (.int (mark y b (num ps) (u ++ v))) H
theorem mark_range {y : Sty} {b n : Int} (hn : 0 < n) (ls : List Int) : 0 ≤ mark y b n ls ∧ mark y b n ls < n := rest_range hn _
theorem ld_int (y : Sty) : (if y.lead = true then (1 : Int) else 0) = ld y := rfl
theorem pow_mod_range {b n : Int} (hn : 0 < n) (e : Nat) : 0 ≤ b ^ e % n ∧ b ^ e % n < n := ⟨Int.emod_nonneg _ (by omega), Int.emod_lt_of_pos _ hn⟩
theorem ld_range (y : Sty) : 0 ≤ ld y ∧ ld y ≤ 1 := by unfold ld; split <;> omega
theorem WayAt.bits {c : CA} {H : Hp} {x : Addr} {b : Int} {ps : List (Int × Int)} {y : Sty} (h : WayAt c H x b ps y) : (num ps).natAbs < 2 ^ 70000 := by
  obtain ⟨_, _, _, _, ⟨_, _, _, _, _, _, _, hs⟩, _⟩ := h
  exact num_lt hs

end Bc
namespace Bc
open PySem PySem.Spec PyProof.Rows L2
/-! ### heaps by chains: what is known below the purse -/
def rm (a : Addr) (H : Hp) : Hp := fun b => if b = a then none else H b
section
variable {a b p : Addr} {c d : Int} {H H' X : Hp} {o : HO} {Q : VK} {ca : CA} {K : PySem.W.Frag}
theorem rm_le : Same (rm a H) H := fun b o h => by
  unfold rm at h
  by_cases e : b = a
  · rw [if_pos e] at h; cases h
  · rwa [if_neg e] at h
theorem rm_of (n : b ≠ a) (h : H b = some o) : rm a H b = some o := by
  unfold rm
  rw [if_neg n]; exact h
theorem rm_none (h : H b = none) : rm a H b = none := by
  unfold rm
  by_cases e : b = a
  · rw [if_pos e]
  · rw [if_neg e]; exact h
theorem rm_self : rm a H a = none := by
  unfold rm
  rw [if_pos rfl]
theorem Keep.rm (k : Keep a H H') : Same (rm a H) (rm a H') := fun b o h => by
  by_cases e : b = a
  · rw [e, rm_self] at h; cases h
  · exact rm_of e (k b o e (rm_le _ _ h))
theorem _root_.L2.Same.rm (s : Same H H') : Same (rm a H) (rm a H') := Keep.rm (.of s)
theorem Keep.ofR (s : Same (Bc.rm a H) (Bc.rm a H')) : Keep a H H' := fun b o n h => rm_le _ _ (s b o (rm_of n h))
theorem rm_new (n : H a = none) (s : Same (Bc.rm a H) X) : Same H X := fun b o h => s b o (rm_of (fun e => by rw [e, n] at h; cases h) h)
theorem rm_in (n : X a = none) (s : Same X H) : Same X (rm a H) := fun b o h => rm_of (fun e => by rw [e, n] at h; cases h) (s b o h)
theorem rm_upd (n : p ≠ a) : rm a (upd H p o) = upd (rm a H) p o := by
  funext b
  by_cases e : b = a
  · rw [e, rm_self, upd_ne n.symm, rm_self]
  · by_cases e2 : b = p
    · rw [e2, upd_same, rm_of n upd_same]
    · rw [upd_ne e2]
      unfold rm
      rw [if_neg e, if_neg e, upd_ne e2]
theorem rm_updS : rm a (upd H a o) = rm a H := by
  funext b
  by_cases e : b = a
  · rw [e, rm_self, rm_self]
  · unfold rm
    rw [if_neg e, if_neg e, upd_ne e]
theorem rm_free (n : H a = none) : rm a H = H := by
  funext b
  by_cases e : b = a
  · rw [e, rm_self, n]
  · unfold rm
    rw [if_neg e]
theorem rm_comm : rm a (rm b H) = rm b (rm a H) := by
  funext x
  unfold rm
  by_cases e : x = a
  · rw [if_pos e]
    by_cases e2 : x = b
    · rw [if_pos e2]
    · rw [if_neg e2, if_pos e]
  · rw [if_neg e]
    by_cases e2 : x = b
    · rw [if_pos e2, if_pos e2]
    · rw [if_neg e2, if_neg e2, if_neg e]
theorem same_rm (s : Same X (rm a H)) : Same X H := s.trans rm_le
theorem hpL (h : X b = some o) (s : Same X H) : H b = some o := s _ _ h
theorem al (q : ∀ p H', H p = none → Same H H' → H' p = some o → atV Q (.ref p) H') : ∀ p, H p = none → atV Q (.ref p) (upd H p o) := fun p n => q p _ n (Same.new n) upd_same
theorem alR (pu : Purse H a c) (q : ∀ p H', Same (rm a H) (rm a H') → Purse H' a c → rm a H' p = some o → rm a H p = none → atV Q (.ref p) H') : ∀ p, H p = none → atV Q (.ref p) (upd H p o) := fun p n =>
  q p _ (Same.new n).rm (pu.same (Same.new n)) (rm_of (pu.fresh n) upd_same) (rm_none n)
theorem PrL.rm {l : Addr} {ps : List (Int × Int)} (h : PrL H l ps) (pu : Purse H a c) : PrL (rm a H) l ps := by
  obtain ⟨ts, h1, h2⟩ := h
  exact ⟨ts, rm_of (pu.ne h1 refs_ne) h1, paired_imp (fun _ _ z => rm_of (pu.ne z fun _ _ _ w => by cases w) z) h2⟩
theorem ModAt.rm {m : Addr} {ps : List (Int × Int)} (h : ModAt ca H m ps) (pu : Purse H a c) : ModAt ca (rm a H) m ps := by
  obtain ⟨dx, t, ts, h1, h2, h3, h4⟩ := h
  exact ⟨dx, t, ts, rm_of (pu.ne h1 fun _ _ _ w => by cases w) h1, rm_of (pu.ne h2 fun _ _ _ w => by cases w) h2, paired_imp (fun _ _ z => rm_of (pu.ne z fun _ _ _ w => by cases w) z) h3, h4⟩
theorem MkAt.rm {m : Addr} {l : Bool} {s : Int} {e : Bool} (h : MkAt ca H m l s e) (pu : Purse H a c) : MkAt ca (rm a H) m l s e := by
  obtain ⟨dx, h1⟩ := h
  exact ⟨dx, rm_of (pu.ne h1 fun _ _ _ w => by cases w) h1⟩
theorem WayAt.rm {m : Addr} {b : Int} {ps : List (Int × Int)} {y : Sty} (h : WayAt ca H m b ps y) (pu : Purse H a c) : WayAt ca (rm a H) m b ps y := by
  obtain ⟨dx, m1, k1, h1, h2, h3, h4⟩ := h
  exact ⟨dx, m1, k1, rm_of (pu.ne h1 fun _ _ _ w => by cases w) h1, h2.rm pu, h3.rm pu, h4⟩
theorem TextAt.rm {v : V} {ls : List Int} (t : TextAt H v ls) (n : NotAt a v) : TextAt (rm a H) v ls := by
  cases t with
  | str z h l => exact .str z h l
  | lst p _ h l => exact .lst p _ (rm_of n h) l
  | tup p _ h l => exact .tup p _ (rm_of n h) l
/-! fields -/
variable {x m k : Addr} {bb : Int} {ps : List (Int × Int)} {y : Sty} {mg : Str → Option Value} {P : V → Prop}
theorem w_wbase (X : Kx K mg ca) (h : WayAt ca H x bb ps y) (q : P (.int bb)) : ∃ a C dx fs v, V.ref x = .ref a ∧ H a = some (.ins C dx fs) ∧ Cls K C ∧ NoAttr K C "base" ∧ fs.lookup ("base" : Str) = some v ∧ P v := by
  obtain ⟨dx, m, k, hx, _⟩ := h
  exact w_fldi hx X.wy.cl X.base wy_base q
theorem w_wnum (X : Kx K mg ca) (h : WayAt ca H x bb ps y) (q : P (.int (num ps))) : ∃ a C dx fs v, V.ref x = .ref a ∧ H a = some (.ins C dx fs) ∧ Cls K C ∧ NoAttr K C "number" ∧ fs.lookup ("number" : Str) = some v ∧ P v := by
  obtain ⟨dx, m, k, hx, _⟩ := h
  exact w_fldi hx X.wy.cl X.wnumber wy_number q
theorem w_wmark (X : Kx K mg ca) (h : WayAt ca H x bb ps y) (q : ∀ k, MkAt ca H k y.low y.shift y.lead → P (.ref k)) : ∃ a C dx fs v, V.ref x = .ref a ∧ H a = some (.ins C dx fs) ∧ Cls K C ∧ NoAttr K C "marking" ∧ fs.lookup ("marking" : Str) = some v ∧ P v := by
  obtain ⟨dx, m, k, hx, hm, hk, _⟩ := h
  exact w_fldi hx X.wy.cl X.marking wy_marking (q k hk)
theorem w_wmod (X : Kx K mg ca) (h : WayAt ca H x bb ps y) (q : ∀ m, ModAt ca H m ps → P (.ref m)) : ∃ a C dx fs v, V.ref x = .ref a ∧ H a = some (.ins C dx fs) ∧ Cls K C ∧ NoAttr K C "modulus" ∧ fs.lookup ("modulus" : Str) = some v ∧ P v := by
  obtain ⟨dx, m, k, hx, hm, hk, _⟩ := h
  exact w_fldi hx X.wy.cl X.modulus wy_modulus (q m hm)
theorem w_mnum (X : Kx K mg ca) (h : ModAt ca H m ps) (q : P (.int (num ps))) : ∃ a C dx fs v, V.ref m = .ref a ∧ H a = some (.ins C dx fs) ∧ Cls K C ∧ NoAttr K C "number" ∧ fs.lookup ("number" : Str) = some v ∧ P v := by
  obtain ⟨dx, t, ts, hx, _⟩ := h
  exact w_fldi hx X.md.cl X.number md_number q
theorem w_mfac (X : Kx K mg ca) (h : ModAt ca H m ps) (q : ∀ t ts, H t = some (.tup (ts.map V.ref)) → Paired (Tp H) ps ts → P (.ref t)) : ∃ a C dx fs v, V.ref m = .ref a ∧ H a = some (.ins C dx fs) ∧ Cls K C ∧ NoAttr K C "factors" ∧ fs.lookup ("factors" : Str) = some v ∧ P v := by
  obtain ⟨dx, t, ts, hx, h1, h2, _⟩ := h
  exact w_fldi hx X.md.cl X.factors md_factors (q t ts h1 h2)
theorem w_klow (X : Kx K mg ca) {l e : Bool} {s : Int} (h : MkAt ca H k l s e) (q : P (.bl l)) : ∃ a C dx fs v, V.ref k = .ref a ∧ H a = some (.ins C dx fs) ∧ Cls K C ∧ NoAttr K C "low" ∧ fs.lookup ("low" : Str) = some v ∧ P v := by
  obtain ⟨dx, hx⟩ := h
  exact w_fldi hx X.kg.cl X.low mk_low q
theorem w_kshift (X : Kx K mg ca) {l e : Bool} {s : Int} (h : MkAt ca H k l s e) (q : P (.int s)) : ∃ a C dx fs v, V.ref k = .ref a ∧ H a = some (.ins C dx fs) ∧ Cls K C ∧ NoAttr K C "shift" ∧ fs.lookup ("shift" : Str) = some v ∧ P v := by
  obtain ⟨dx, hx⟩ := h
  exact w_fldi hx X.kg.cl X.shift mk_shift q
theorem w_klead (X : Kx K mg ca) {l e : Bool} {s : Int} (h : MkAt ca H k l s e) (q : P (.bl e)) : ∃ a C dx fs v, V.ref k = .ref a ∧ H a = some (.ins C dx fs) ∧ Cls K C ∧ NoAttr K C "lead" ∧ fs.lookup ("lead" : Str) = some v ∧ P v := by
  obtain ⟨dx, hx⟩ := h
  exact w_fldi hx X.kg.cl X.lead mk_lead q
/-! calls, below the purse -/
variable {E : XK} {n : Int} {l g : Addr} {PP : Addr → Hp → Prop}
theorem use_drawR (pu : Purse H a c) (n0 : 0 < n) (n1 : n < 2 ^ 60) (hc : c < 2 ^ 50) (q : ∀ r H', 0 ≤ r → r < n → Same (rm a H) (rm a H') → Purse H' a (c + 1) → Q (.int r) H') : spDraw ([.ref a, .int n] ++ []) H Q E :=
  use_draw pu n0 n1 hc fun r H' h0 h1 k p => q r H' h0 h1 k.rm p
theorem use_greatR (pu : Purse H a c) (n0 : 0 ≤ n) (n1 : n < 1000) (hc : c < 2 ^ 49) (q : ∀ r H', 0 ≤ r → r < 10 ^ n.toNat → Same (rm a H) (rm a H') → Purse H' a (c + n) → Q (.int r) H') : spGreat ([.ref a, .int n] ++ []) H Q E :=
  use_great pu n0 n1 hc fun r H' h0 h1 k p => q r H' h0 h1 k.rm p
theorem use_pairsR (pu : Purse H a c) (n0 : 0 ≤ n) (n1 : n ≤ 11) (hc : c < 2 ^ 48)
    (q : ∀ l H' ps, Same (rm a H) (rm a H') → Purse H' a (c + 22) → PrL (rm a H') l ps → Asc 0 ps → Small ps → (ps.length : Int) ≤ n → (∀ q ∈ ps, q.2 ≤ 12) → Q (.ref l) H') : spPairs ([.ref a, .int n] ++ []) H Q E :=
  use_pairs pu n0 n1 hc fun l H' ps _ k p h => q l H' ps k.rm p (h.rm p)
theorem use_sizeR (h : PrL H l ps) (hs : Small ps) (q : Q (.int (num ps)) H) : spSize ([.ref l] ++ []) H Q E := ⟨l, ps, rfl, h, hs, q⟩
theorem use_styleR (pu : Purse H a c) (hc : c < 2 ^ 48) (q : ∀ p H' (y : Sty), Same (rm a H) (rm a H') → Purse H' a (c + 34) → rm a H' p = some (.lst [.bl y.low, .int y.shift, .bl y.lead]) → y.shift.natAbs < 10 ^ 31 → Q (.ref p) H') : spStyle ([.ref a] ++ []) H Q E :=
  ⟨a, c, rfl, hc, pu, fun p H' y _ k p2 h => q p H' y k.rm p2 (rm_of (p2.ne h (fun _ _ _ w => by cases w)) h)⟩
theorem use_markingR (pu : Purse H a c) (h : H g = some (.lst [.bl y.low, .int y.shift, .bl y.lead])) (q : ∀ k H', Same (rm a H) (rm a H') → Purse H' a c → MkAt ca (rm a H') k y.low y.shift y.lead → Q (.ref k) H') : spMarking ca ([.ref g] ++ []) H Q E :=
  ⟨g, y, rfl, h, fun k H' _ s hk => q k H' s.rm (pu.same s) (hk.rm (pu.same s))⟩
theorem use_rootR (pu : Purse H a c) (n0 : 0 < n) (hc : c < 2 ^ 48) (q : ∀ (r : Int) H', r.natAbs ≤ n.natAbs + 10 ^ 40 → Same (rm a H) (rm a H') → Purse H' a (c + 43) → Q (.int r) H') : spRoot ([.ref a, .int n] ++ []) H Q E :=
  ⟨a, n, c, rfl, n0, hc, pu, fun r H' h k p => q r H' h k.rm p⟩
theorem use_letterR (pu : Purse H a c) (hc : c < 2 ^ 48) (q : ∀ (x : Int) H', Same (rm a H) (rm a H') → Purse H' a (c + 34) → x.natAbs < 10 ^ 31 → Q (.int x) H') : spLetter ([.ref a] ++ []) H Q E :=
  use_letter pu hc fun x H' k p h => q x H' k.rm p h
theorem use_textR (pu : Purse H a c) (n0 : 0 ≤ n) (n1 : n ≤ 1000) (hc : c < 2 ^ 47) (q : ∀ (v : V) (ls : List Int) H', Same (rm a H) (rm a H') → Purse H' a (c + 2 + 34 * (n + 1)) → TextAt (rm a H') v ls → (ls.length : Int) ≤ n → (∀ l ∈ ls, l.natAbs < 10 ^ 31) → Q v H') :
    spText ([.ref a, .int n] ++ []) H Q E := use_text pu n0 n1 hc fun v ls H' k p t na h1 h2 => q v ls H' k.rm p (t.rm na) h1 h2
theorem use_lettersR {v : V} {ls : List Int} (pu : Purse H a c) (t : TextAt H v ls) (q : ∀ l H', Same (rm a H) (rm a H') → Purse H' a c → rm a H' l = some (.lst (ls.map V.int)) → Q (.ref l) H') : spLetters ([v] ++ []) H Q E :=
  ⟨v, ls, rfl, t, fun l H' nl s h => q l H' s.rm (pu.same s) (rm_of (pu.fresh nl) h)⟩
theorem use_modR (pu : Purse H a c) (hl : PrL H l ps) (ha : Asc 0 ps) (hs : Small ps) (q : ∀ m H', Same (rm a H) (rm a H') → Purse H' a c → ModAt ca (rm a H') m ps → PP m H') :
    ∀ x dx, H x = none → H dx = none → dx ≠ x → spModInit ca (.ref x :: ([.ref l] ++ [])) (upd (upd H dx (.own x)) x (.ins ca.md dx [])) (fun v H2 => v = .non ∧ PP x H2) E := by
  obtain ⟨ts, h1, h2⟩ := hl
  exact use_mod h1 h2 ha hs fun m H' _ s hm => q m H' s.rm (pu.same s) (hm.rm (pu.same s))
theorem use_modS (hl : PrL H l ps) (ha : Asc 0 ps) (hs : Small ps) (q : ∀ m H', Same H H' → ModAt ca H' m ps → PP m H') :
    ∀ x dx, H x = none → H dx = none → dx ≠ x → spModInit ca (.ref x :: ([.ref l] ++ [])) (upd (upd H dx (.own x)) x (.ins ca.md dx [])) (fun v H2 => v = .non ∧ PP x H2) E := by
  obtain ⟨ts, h1, h2⟩ := hl
  exact use_mod h1 h2 ha hs fun m H' _ s hm => q m H' s hm
theorem use_wayR (pu : Purse H a c) (hm : ModAt ca H m ps) (hk : MkAt ca H k y.low y.shift y.lead) (q : ∀ x H', Same (rm a H) (rm a H') → Purse H' a c → WayAt ca (rm a H') x (bb % num ps) ps y → PP x H') :
    ∀ x dx, H x = none → H dx = none → dx ≠ x → spWayInit ca [.ref x, .int bb, .ref m, .ref k] (upd (upd H dx (.own x)) x (.ins ca.wy dx [])) (fun v H2 => v = .non ∧ PP x H2) E :=
  use_way hm (.inr ⟨k, rfl, hk⟩) fun x H' _ s hw => q x H' s.rm (pu.same s) (hw.rm (pu.same s))
theorem use_wayN (hm : ModAt ca H m ps) (q : ∀ x H', Same H H' → WayAt ca H' x (bb % num ps) ps ⟨false, 0, false⟩ → PP x H') :
    ∀ x dx, H x = none → H dx = none → dx ≠ x → spWayInit ca [.ref x, .int bb, .ref m, .non] (upd (upd H dx (.own x)) x (.ins ca.wy dx [])) (fun v H2 => v = .non ∧ PP x H2) E :=
  use_way hm (.inl ⟨rfl, rfl⟩) fun x H' _ s hw => q x H' s hw
theorem w_insW {P : Prop} (h : WayAt ca H x bb ps y) (q : P) : ((∃ dx vs, SlX.Slt H x ca.wy dx vs) ∨ ∃ dx fs, H x = some (.ins ca.wy dx fs)) ∧ P := by
  obtain ⟨dx, m, k, hx, _⟩ := h
  exact w_insC hx q
theorem use_markR {v : V} {ls : List Int} (pu : Purse H a c) (h : WayAt ca H x bb ps y) (t : TextAt H v ls) (q : ∀ H', Same (rm a H) (rm a H') → Purse H' a c → Q (.int (mark y bb (num ps) ls)) H') : spMarkOf ca [.ref x, v] H Q E :=
  ⟨x, v, bb, ps, y, ls, rfl, h, t, fun H' s => q H' s.rm (pu.same s)⟩
theorem use_mark {v : V} {ls : List Int} (h : WayAt ca H x bb ps y) (t : TextAt H v ls) (q : ∀ H', Same H H' → Q (.int (mark y bb (num ps) ls)) H') : spMarkOf ca [.ref x, v] H Q E :=
  ⟨x, v, bb, ps, y, ls, rfl, h, t, q⟩
theorem use_reqway (h : WayAt ca H x bb ps y) (q : Q .non H) : spReqWay ca ([.ref x] ++ []) H Q E := by
  obtain ⟨dx, m, k, hx, _⟩ := h
  exact ⟨x, dx, _, rfl, hx, q⟩
end


end Bc
namespace Bc
open PySem PySem.Spec PyProof.Rows L2
/-! ### a letter exchanged, a text rolled -/
theorem hv_set (x b : Int) : ∀ {ls : List Int} {i : Nat} {o : Int}, ls[i]? = some o → hv (ls.set i x) b = hv ls b + (x - o) * b ^ (ls.length - 1 - i)
  | [], i, o, h => by simp at h
  | c :: r, 0, o, h => by
    have e : c = o := by simpa using h
    subst e
    rw [List.set_cons_zero, hv_cons, hv_cons, List.length_cons, Nat.add_sub_cancel, Nat.sub_zero]
    grind
  | c :: r, i + 1, o, h => by
    have h2 : r[i]? = some o := by simpa using h
    rw [List.set_cons_succ, hv_cons, hv_cons, hv_set x b h2, List.length_set, List.length_cons, show r.length + 1 - 1 - (i + 1) = r.length - 1 - i by omega]
    grind
theorem hv_setR (x b : Int) : ∀ {ls : List Int} {i : Nat} {o : Int}, ls[i]? = some o → hv (ls.set i x).reverse b = hv ls.reverse b + (x - o) * b ^ i
  | [], i, o, h => by simp at h
  | c :: r, 0, o, h => by
    have e : c = o := by simpa using h
    subst e
    rw [List.set_cons_zero, List.reverse_cons, List.reverse_cons, hv_app, hv_app]
    simp [hv]
    grind
  | c :: r, i + 1, o, h => by
    have h2 : r[i]? = some o := by simpa using h
    rw [List.set_cons_succ, List.reverse_cons, List.reverse_cons, hv_app, hv_app, hv_setR x b h2, Int.pow_succ]
    simp [hv]
    grind
def exN (y : Sty) (len i : Nat) : Nat := if y.low then i else len - 1 - i
theorem Sm_set {y : Sty} (b x : Int) {ls : List Int} {i : Nat} {o : Int} (h : ls[i]? = some o) : Sm y b (ls.set i x) = Sm y b ls + (x - o) * b ^ exN y ls.length i := by
  unfold Sm exN
  rw [List.length_set]
  cases hl : y.low with
  | true =>
    simp only [if_true]
    rw [hv_setR x b h]
    grind
  | false =>
    simp only [Bool.false_eq_true, if_false]
    rw [hv_set x b h]
    grind
theorem changed_eq {y : Sty} (b n x : Int) {ls : List Int} {i : Nat} {o : Int} (h : ls[i]? = some o) : (mark y b n ls + (x - o) * (b ^ exN y ls.length i % n)) % n = mark y b n (ls.set i x) := by
  rw [mark_Sm, mark_Sm, Sm_set b x h, cg]
  obtain ⟨k1, e1⟩ := self_mod n (b ^ exN y ls.length i)
  obtain ⟨k2, e2⟩ := self_mod n (Sm y b ls)
  rw [e1, e2]
  generalize b ^ exN y ls.length i = q
  generalize Sm y b ls = su
  exact ⟨k2 + (x - o) * k1, by grind⟩
theorem Sm_one (y : Sty) (b x : Int) : Sm y b [x] = ld y * b + x + y.shift := by
  unfold Sm
  have e : hv (if y.low = true then [x].reverse else [x]) b = x := by split <;> simp [hv]
  rw [e]
  simp [geo, hv, Int.pow_succ]
theorem roll_high {y : Sty} (h : y.low = false) (b n o x : Int) (t : List Int) : ((mark y b n (o :: t) - ld y * (b ^ (t.length + 1) % n) - (o + y.shift) * (b ^ t.length % n)) * b + (x + y.shift) + ld y * (b ^ (t.length + 1) % n)) % n = mark y b n (t ++ [x]) := by
  rw [mark_Sm, mark_Sm, Sm_high h, show o :: t = [o] ++ t from rfl, Sm_high h, Sm_one, Sm_one, cg]
  obtain ⟨k1, e1⟩ := self_mod n (b ^ (t.length + 1))
  obtain ⟨k2, e2⟩ := self_mod n (b ^ t.length)
  obtain ⟨k3, e3⟩ := self_mod n ((ld y * b + o + y.shift - ld y) * b ^ t.length + Sm y b t)
  rw [e1, e2, e3, Int.pow_succ, show ([x] : List Int).length = 1 from rfl, Int.pow_succ, Int.pow_zero]
  generalize b ^ t.length = q
  generalize Sm y b t = su
  exact ⟨(k3 - ld y * k1 - (o + y.shift) * k2) * b + ld y * k1, by grind⟩
/-! ### sums that the laws reckon -/
theorem hv_take {cs : List Int} {i : Nat} {v b : Int} (h : cs[i]? = some v) : hv (cs.take (i + 1)) b = hv (cs.take i) b * b + v := by
  obtain ⟨hi, e⟩ := List.getElem?_eq_some_iff.mp h
  unfold hv
  rw [List.take_succ_eq_append_getElem hi, List.foldl_append, e]
  rfl
theorem hv_bits {R : Nat} {r : Int} (hr : r.natAbs < 2 ^ R) : ∀ {cs : List Int}, (∀ c ∈ cs, c.natAbs < 2 ^ R) → ∀ i, (hv (cs.take i) r).natAbs < 2 ^ (R * i)
  | cs, h, 0 => by simp [hv]
  | cs, h, i + 1 => by
    have ih := hv_bits hr h i
    by_cases hi : i < cs.length
    · rw [hv_take (List.getElem?_eq_getElem hi)]
      have hc := h _ (List.getElem_mem hi)
      have h1 := Int.natAbs_add_le (hv (cs.take i) r * r) cs[i]
      rw [Int.natAbs_mul] at h1
      have h2 : (hv (cs.take i) r).natAbs * r.natAbs ≤ (2 ^ (R * i) - 1) * 2 ^ R := Nat.mul_le_mul (by omega) (by omega)
      have h3 : (2 ^ (R * i) - 1) * 2 ^ R = 2 ^ (R * i) * 2 ^ R - 2 ^ R := by rw [Nat.sub_mul, Nat.one_mul]
      have h4 : 2 ^ R ≤ 2 ^ (R * i) * 2 ^ R := Nat.le_mul_of_pos_left _ (Nat.pow_pos (by decide))
      rw [Nat.mul_succ, Nat.pow_add]
      omega
    · rw [List.take_of_length_le (by omega)] at ih ⊢
      exact Nat.lt_of_lt_of_le ih (Nat.pow_le_pow_right (by decide) (Nat.mul_le_mul_left _ (by omega)))
theorem mark_sum {y : Sty} {r n : Int} (ls : List Int) : hv (hf y ls) r % n = mark y (r % n) n ls := by
  unfold mark
  rw [rest_hv, hv_mod]
theorem ten31 {x : Int} (h : x.natAbs < 10 ^ 31) : x.natAbs < 2 ^ 103 := Nat.lt_trans h (by decide)
theorem hf_bits {y : Sty} {ls : List Int} {R : Nat} (hR : 105 ≤ R) (h : ∀ l ∈ ls, l.natAbs < 10 ^ 31) (hs : y.shift.natAbs < 10 ^ 31) : ∀ c ∈ hf y ls, c.natAbs < 2 ^ R := by
  have h1 : ∀ l ∈ ls.map (· + y.shift), l.natAbs < 2 ^ R := fun l hl => by
    obtain ⟨x, hx, rfl⟩ := List.mem_map.mp hl
    have a1 := h x hx
    have a2 := Int.natAbs_add_le x y.shift
    have a3 : (10 : Nat) ^ 31 + 10 ^ 31 < 2 ^ 105 := by decide
    have a4 : (2 : Nat) ^ 105 ≤ 2 ^ R := Nat.pow_le_pow_right (by decide) hR
    show (x + y.shift).natAbs < _
    omega
  intro c hc
  unfold hf at hc
  rcases List.mem_cons.mp hc with e | e
  · have a4 : (2 : Nat) ^ 105 ≤ 2 ^ R := Nat.pow_le_pow_right (by decide) hR
    have a5 : (1 : Nat) < 2 ^ 105 := by decide
    rw [e]
    split <;> omega
  · split at e
    · exact h1 c (List.mem_reverse.mp e)
    · exact h1 c e
def spSum : Sp := fun vs H Q _ => ∃ (l g : Addr) (r : Int) (ls : List Int) (y : Sty), vs = [.ref l, .int r, .ref g] ∧ H l = some (.lst (ls.map V.int)) ∧ H g = some (.lst [.bl y.low, .int y.shift, .bl y.lead]) ∧ ls.length ≤ 150 ∧ r.natAbs < 2 ^ 4000 ∧ (∀ x ∈ ls, x.natAbs < 10 ^ 31) ∧ y.shift.natAbs < 10 ^ 31 ∧ ∀ H', Same H H' → Q (.int (hv (hf y ls) r)) H'
def spRightOf (c : CA) : Sp := fun vs H Q _ => ∃ (x : Addr) (b : Int) (ps : List (Int × Int)) (y : Sty) (u v : List Int), vs = [.ref x, .int (mark y b (num ps) (u ++ v)), .int (mark y b (num ps) u), .int u.length, .int v.length] ∧ WayAt c H x b ps y ∧ y.low = false ∧ u.length < 2 ^ 40 ∧ v.length < 2 ^ 40 ∧ ∀ H', Same H H' → Q (.int (mark y b (num ps) v)) H'
def spLeftOf (c : CA) : Sp := fun vs H Q _ => ∃ (x : Addr) (b : Int) (ps : List (Int × Int)) (y : Sty) (u v : List Int), vs = [.ref x, .int (mark y b (num ps) (u ++ v)), .int (mark y b (num ps) v), .int u.length, .int v.length] ∧ WayAt c H x b ps y ∧ y.low = true ∧ u.length < 2 ^ 40 ∧ v.length < 2 ^ 40 ∧ ∀ H', Same H H' → Q (.int (mark y b (num ps) u)) H'
def spChanged (c : CA) : Sp := fun vs H Q _ => ∃ (x : Addr) (b o z : Int) (i : Nat) (ps : List (Int × Int)) (y : Sty) (ls : List Int), vs = [.ref x, .int (mark y b (num ps) ls), .int ls.length, .int i, .int o, .int z] ∧ WayAt c H x b ps y ∧ ls.length < 2 ^ 40 ∧ ls[i]? = some o ∧ o.natAbs < 2 ^ 1000 ∧ z.natAbs < 2 ^ 1000 ∧ Q (.int (mark y b (num ps) (ls.set i z))) H
def spRolledH (c : CA) : Sp := fun vs H Q _ => ∃ (x : Addr) (b o z : Int) (ps : List (Int × Int)) (y : Sty) (t : List Int), vs = [.ref x, .int (mark y b (num ps) (o :: t)), .int ((o :: t).length : Nat), .int o, .int z] ∧ WayAt c H x b ps y ∧ y.low = false ∧ t.length < 2 ^ 40 ∧ o.natAbs < 2 ^ 1000 ∧ z.natAbs < 2 ^ 1000 ∧ y.shift.natAbs < 2 ^ 1000 ∧ Q (.int (mark y b (num ps) (t ++ [z]))) H

end Bc
namespace Bc
open PySem PySem.Spec PyProof.Rows L2

/-! ### lists of a range, pop, comprehensions by a relation -/
section
variable {σ : L2.St} {H : Hp} {Q : VK} {ta tb : TE} {tr : L2.St → Hp → (Int → Int → Hp → Prop) → Prop} {R : Int → Int → Hp → Prop} {i j : Int} {P : Prop}
theorem w_lstRg (q : tr σ H fun a b H1 => RgOk a b ∧ ∀ q, H1 q = none → atV Q (.ref q) (upd H1 q (.lst (rgV a b)))) : tLstRg tr σ H Q := q
theorem w_rg1 (q : ta σ H fun x H1 => ∃ n, x = .int n ∧ R 0 n H1) : tRg1 ta σ H R := q
theorem w_rg2 (q : ta σ H fun x H1 => tb σ H1 fun y H2 => ∃ i j, x = .int i ∧ y = .int j ∧ R i j H2) : tRg2 ta tb σ H R := q
theorem w_rg2i {P : Int → Int → Prop} (q : P i j) : ∃ a b, V.int i = .int a ∧ V.int j = .int b ∧ P a b := ⟨i, j, rfl, rfl, q⟩
theorem w_rgok (h : -(2 ^ 62) ≤ i ∧ i < 2 ^ 62 ∧ -(2 ^ 62) ≤ j ∧ j < 2 ^ 62 ∧ (j - i).toNat ≤ 2 ^ 24) (q : P) : RgOk i j ∧ P := ⟨h, q⟩
theorem w_popAt {l : Addr} {xs : List V} {k : Nat} {y : V} (h : H l = some (.lst xs)) (h0 : 0 ≤ i) (hk : i.toNat = k) (e : xs[k]? = some y) (h1 : i < 2 ^ 60) (q : Q y (upd H l (.lst (xs.eraseIdx k)))) : rPopAt (.ref l) [.int i] H Q := by
  refine ⟨l, xs, i, k, y, rfl, rfl, h, by omega, by omega, ?_, e, q⟩
  have hk2 : k < xs.length := (List.getElem?_eq_some_iff.mp e).1
  have h3 := atI_get (xs := xs) (v := y) h0 (by rw [hk]; exact e)
  obtain ⟨n, rfl⟩ := Int.eq_ofNat_of_zero_le h0
  have : n = k := by omega
  subst this
  unfold seqIndex?
  simp
  omega
end
section
variable {J : It} {G : Hp → Prop} {te : TE} {vs : List Nat} {σ : L2.St} {H : Hp} {D a : Addr} {c : Int} {Qd : Hp → Prop} {j : Nat}
/-- what is made of each item, by a relation that new things leave alone; the turns may draw -/
theorem lc_relR (xs : List V) (n : Int) (R : V → V → Hp → Prop) (mono : ∀ x y G G', Same G G' → R x y G → R x y G') (w : Walk J xs.length G (YAt xs)) (pu : Purse H a c) (hD : H D = none) (hG : ∀ H', Same (rm a H) (rm a H') → G H') (sz : xs.length ≤ 100000)
    (wp : ∀ v, wipe ((wipe σ vs).set j v) vs = wipe σ vs)
    (step : ∀ (i : Nat) (x : V) (H' : Hp), xs[i]? = some x → Same (rm a H) (rm a H') → Purse H' a (c + n * i) → (∃ acc, rm a H' D = some (.lst acc)) → ∀ Q' : VK, (∀ (y : V) (H'' : Hp), Same (rm a H') (rm a H'') → Purse H'' a (c + n * ((i + 1 : Nat) : Int)) → R x y (rm D (rm a H'')) → Q' y H'') → te ((wipe σ vs).set j (some x)) H' Q')
    (q : ∀ (H' : Hp) (ys : List V), Same (rm a H) (rm a H') → Purse H' a (c + n * xs.length) → rm a H' D = some (.lst ys) → Paired (fun x y => R x y (rm a H')) xs ys → Qd H') :
    ∃ W : Nat → Nat → Hp → Prop, (∃ m, W 0 m (upd H D (.lst []))) ∧ ∀ i m H, W i m H →
      (J.stop i H ∧ Qd H) ∨ (J.go i H ∧ ∃ Nx : Hp → Prop, (∀ H', Nx H' → ∃ m', m' < m ∧ W (i + 1) m' H') ∧ ∀ x H', J.yld i H x H' → gName j x (wipe σ vs) H' fun σ2 H2 => wipe σ2 vs = wipe σ vs ∧ tYes σ2 H2 fun b H3 =>
        if b = true then te σ2 H3 fun y H4 => ∃ acc, H4 D = some (.lst acc) ∧ acc.length < sizeLine ∧ Nx (upd H4 D (.lst (acc ++ [y]))) else Nx H3) := by
  have nD : D ≠ a := pu.fresh hD
  refine lc_it w (fun i H' => ∃ ys : List V, Same (rm a H) (rm D (rm a H')) ∧ Purse H' a (c + n * i) ∧ rm a H' D = some (.lst ys) ∧ Paired (fun x y => R x y (rm D (rm a H'))) (xs.take i) ys) ⟨[], ?_, (pu.same (Same.new hD)).le (by simp), rm_of nD upd_same, .nil⟩ (fun i H' _ h => by obtain ⟨_, k, _⟩ := h; exact hG H' (k.trans rm_le)) ?_ ?_
  · rw [rm_upd nD, rm_updS]
    exact rm_in (rm_none hD) (Same.refl _)
  · rintro i x H1 H' hi ⟨ys, h1, h2, h3, h4⟩ ⟨rfl, hx⟩
    refine ⟨wp _, w_yes ?_⟩
    rw [if_pos rfl]
    have el := h4.length
    rw [List.length_take] at el
    refine step i x H' hx (h1.trans rm_le) h2 ⟨_, h3⟩ _ fun y H2 s2 p2 r => ?_
    have e : xs[i] = x := by rw [List.getElem?_eq_getElem hi] at hx; exact Option.some.inj hx
    refine ⟨ys, rm_le _ _ (s2 _ _ h3), ?_, ys ++ [y], ?_, ?_, ?_, ?_⟩
    · have : (100000 : Nat) < sizeLine := by decide
      omega
    · rw [rm_upd nD, rm_updS]
      exact h1.trans s2.rm
    · obtain ⟨x1, y1, z1, e1, r1⟩ := p2
      exact ⟨x1, y1, z1, by rw [upd_ne nD.symm]; exact e1, r1⟩
    · exact rm_of nD upd_same
    · rw [rm_upd nD, rm_updS, List.take_succ_eq_append_getElem hi, e]
      exact Paired.snoc (paired_imp (fun _ _ z => mono _ _ _ _ s2.rm z) h4) r
  · rintro H' ⟨ys, h1, h2, h3, h4⟩
    rw [List.take_length] at h4
    exact q H' ys (h1.trans rm_le) h2 h3 (paired_imp (fun _ _ z => mono _ _ _ _ rm_le z) h4)
end
theorem Paired.snoc' {α β : Type} {R : α → β → Prop} {xs : List α} {ys : List β} {x : α} {y : β} (h : Paired R xs ys) (r : R x y) : Paired R (xs ++ [x]) (ys ++ [y]) := Paired.snoc h r

theorem w_methW {ca : CA} {H : Hp} {x : Addr} {bb : Int} {ps : List (Int × Int)} {y : Sty} {m : Str} {P : Addr → Prop} (h : WayAt ca H x bb ps y) (l : m ≠ ("marking" : Str) ∧ m ≠ ("modulus" : Str) ∧ m ≠ ("number" : Str) ∧ m ≠ ("base" : Str)) (q : P x) : ∃ a dx fs, V.ref x = .ref a ∧ H a = some (.ins ca.wy dx fs) ∧ fs.lookup m = none ∧ P a := by
  obtain ⟨dx, mm, k, hx, _⟩ := h
  exact w_methi hx (wy_no l.1 l.2.1 l.2.2.1 l.2.2.2) q

section
variable {c : TT} {tb : TS} {D : Ends} {σ : L2.St} {H : Hp}
theorem while_m (Pv : Nat → L2.St → Hp → Prop) (m : Nat) (h0 : Pv m σ H) (hs : ∀ m σ H, Pv m σ H → c σ H fun b H1 => if b = true then (∃ N : L2.St → Hp → Prop, (∀ σ' H', N σ' H' → ∃ m', m' < m ∧ Pv m' σ' H') ∧
      tb { D with nx := N, ct := N, bk := D.nx } σ H1) else D.nx σ H1) : tWhile c tb D σ H := ⟨Pv, ⟨m, h0⟩, hs⟩
theorem while_nm {Pv : Nat → L2.St → Hp → Prop} {m : Nat} (q : tb { D with nx := fun σ' H' => ∃ m', m' < m ∧ Pv m' σ' H', ct := fun σ' H' => ∃ m', m' < m ∧ Pv m' σ' H', bk := D.nx } σ H) :
    ∃ N : L2.St → Hp → Prop, (∀ σ' H', N σ' H' → ∃ m', m' < m ∧ Pv m' σ' H') ∧ tb { D with nx := N, ct := N, bk := D.nx } σ H := ⟨_, fun _ _ h => h, q⟩
end

section
variable {J : It} {G : Hp → Prop} {te : TE} {vs : List Nat} {σ : L2.St} {H : Hp} {D a : Addr} {c : Int} {Qd : Hp → Prop} {j : Nat}
theorem lc_drawsR (xs : List V) (n : Int) (R : Int → Prop) (w : Walk J xs.length G (YAt xs)) (pu : Purse H a c) (hD : H D = none) (hG : ∀ H', Same (rm a H) (rm a H') → G H') (sz : xs.length ≤ 100000)
    (wp : ∀ v, wipe ((wipe σ vs).set j v) vs = wipe σ vs)
    (step : ∀ (i : Nat) (x : V) (H' : Hp), xs[i]? = some x → Same (rm a H) (rm a H') → Purse H' a (c + n * i) → ∀ Q' : VK, (∀ (y : Int) (H'' : Hp), R y → Same (rm a H') (rm a H'') → Purse H'' a (c + n * ((i + 1 : Nat) : Int)) → Q' (.int y) H'') → te ((wipe σ vs).set j (some x)) H' Q')
    (q : ∀ (H' : Hp) (ys : List Int), ys.length = xs.length → (∀ y ∈ ys, R y) → rm a H' D = some (.lst (ys.map V.int)) → Same (rm a H) (rm a H') → Purse H' a (c + n * xs.length) → Qd H') :
    ∃ W : Nat → Nat → Hp → Prop, (∃ m, W 0 m (upd H D (.lst []))) ∧ ∀ i m H, W i m H →
      (J.stop i H ∧ Qd H) ∨ (J.go i H ∧ ∃ Nx : Hp → Prop, (∀ H', Nx H' → ∃ m', m' < m ∧ W (i + 1) m' H') ∧ ∀ x H', J.yld i H x H' → gName j x (wipe σ vs) H' fun σ2 H2 => wipe σ2 vs = wipe σ vs ∧ tYes σ2 H2 fun b H3 =>
        if b = true then te σ2 H3 fun y H4 => ∃ acc, H4 D = some (.lst acc) ∧ acc.length < sizeLine ∧ Nx (upd H4 D (.lst (acc ++ [y]))) else Nx H3) :=
  lc_draws xs a c n R w pu hD (fun H' k => hG H' k.rm) sz wp (fun i x H' hx k p Q' q' => step i x H' hx k.rm p Q' fun y H'' r s p' => q' y H'' r (Keep.ofR s) p')
    fun H' ys h1 h2 h3 k p => q H' ys h1 h2 (rm_of (pu.fresh hD) h3) k.rm p
end

theorem w_unl {K : PySem.W.Frag} {H : Hp} {σ : L2.St} {tg : TGs} {p : Addr} {xs : List V} {k : Nat} {Qs : L2.St → Hp → Prop} (h : SqL K H p xs) (l : xs.length = k) (q : tg xs σ H Qs) : gUnl K k tg (.ref p) σ H Qs := ⟨p, xs, rfl, h, l, q⟩

end Bc
namespace Bc
open PySem PySem.Spec PyProof.Rows L2
/-! ### pieces: lists of lists -/
def LL (H : Hp) (r : Addr) (cuts : List (List Int)) : Prop := ∃ as : List Addr, H r = some (.lst (as.map V.ref)) ∧ Paired (fun c p => H p = some (.lst (c.map V.int))) cuts as
def PM (y : Sty) (b n : Int) (H : Hp) (r : Addr) (us : List (List Int)) : Prop := ∃ qs : List Addr, H r = some (.lst (qs.map V.ref)) ∧ Paired (fun c q => H q = some (.lst [.int (mark y b n c), .int c.length])) us qs
theorem LL.same {H H' : Hp} {r : Addr} {cuts : List (List Int)} (h : LL H r cuts) (s : Same H H') : LL H' r cuts := by
  obtain ⟨as, h1, h2⟩ := h
  exact ⟨as, s _ _ h1, paired_imp (fun _ _ z => s _ _ z) h2⟩
theorem PM.same {y : Sty} {b n : Int} {H H' : Hp} {r : Addr} {us : List (List Int)} (h : PM y b n H r us) (s : Same H H') : PM y b n H' r us := by
  obtain ⟨as, h1, h2⟩ := h
  exact ⟨as, s _ _ h1, paired_imp (fun _ _ z => s _ _ z) h2⟩
section
variable {a p : Addr} {c : Int} {H : Hp} {Q : VK} {v : V} {xs : List V}
theorem w_appendR (pu : Purse H a c) (h : rm a H p = some (.lst xs)) (l : xs.length < sizeLine) (q : ∀ H', Same (rm p (rm a H)) (rm p (rm a H')) → Purse H' a c → rm a H' p = some (.lst (xs ++ [v])) → Q .non H') : rAppend (.ref p) [v] H Q := by
  have np : p ≠ a := fun e => by rw [e, rm_self] at h; cases h
  refine w_append (rm_le _ _ h) l (q _ ?_ ?_ ?_)
  · rw [rm_upd np, rm_updS]
    exact Same.refl _
  · obtain ⟨x1, y1, z1, e1, r1⟩ := pu
    exact ⟨x1, y1, z1, by rw [upd_ne np.symm]; exact e1, r1⟩
  · exact rm_of np upd_same
end
theorem ints_inj {a b : List Int} (h : a.map V.int = b.map V.int) : a = b := by
  induction a generalizing b with
  | nil => cases b with | nil => rfl | cons => cases h
  | cons x r ih => cases b with
    | nil => cases h
    | cons z t =>
      injection h with h1 h2
      injection h1 with h1
      rw [h1, ih h2]
theorem paired_take {α β : Type} {R : α → β → Prop} : ∀ {xs : List α} {ys : List β} (k : Nat), Paired R xs ys → Paired R (xs.take k) (ys.take k)
  | _, _, 0, _ => .nil
  | _, _, _ + 1, .nil => .nil
  | _, _, k + 1, .cons r t => .cons r (paired_take k t)
theorem paired_drop {α β : Type} {R : α → β → Prop} : ∀ {xs : List α} {ys : List β} (k : Nat), Paired R xs ys → Paired R (xs.drop k) (ys.drop k)
  | _, _, 0, h => h
  | _, _, _ + 1, .nil => .nil
  | _, _, k + 1, .cons _ t => paired_drop k t
theorem paired_app {α β : Type} {R : α → β → Prop} : ∀ {xs xs' : List α} {ys ys' : List β}, Paired R xs ys → Paired R xs' ys' → Paired R (xs ++ xs') (ys ++ ys')
  | _, _, _, _, .nil, h => h
  | _, _, _, _, .cons r t, h => .cons r (paired_app t h)
theorem paired_get2 {α β : Type} {R : α → β → Prop} : ∀ {xs : List α} {ys : List β} {i : Nat} {x : α}, Paired R xs ys → xs[i]? = some x → ∃ y, ys[i]? = some y ∧ R x y
  | _, _, _, _, .nil, h => by simp at h
  | _, _, 0, _, .cons r _, h => by
    have e := Option.some.inj (by simpa using h)
    subst e
    exact ⟨_, rfl, r⟩
  | _, _, i + 1, _, .cons _ t, h => by
    obtain ⟨x, h1, h2⟩ := paired_get2 (i := i) t (by simpa using h)
    exact ⟨x, by simpa using h1, h2⟩
theorem flat3 {us : List (List Int)} {k : Nat} {x z : List Int} (h1 : us[k]? = some x) (h2 : us[k + 1]? = some z) : (us.take k ++ [x ++ z] ++ us.drop (k + 2)).flatten = us.flatten := by
  obtain ⟨l1, e1⟩ := List.getElem?_eq_some_iff.mp h1
  obtain ⟨l2, e2⟩ := List.getElem?_eq_some_iff.mp h2
  have : us = us.take k ++ (x :: z :: us.drop (k + 2)) := by
    rw [← e1, ← e2, List.getElem_cons_drop l2, List.getElem_cons_drop l1, List.take_append_drop]
  conv => rhs; rw [this]
  simp [List.flatten_append]
theorem cut_to' {α : Type} (f : α → V) (ls : List α) (j : Nat) : cutV (ls.map f) none (some (j : Int)) = (ls.take j).map f := by
  unfold cutV
  rw [HT.sIx_none, HT.sIx_nat, List.drop_zero, Nat.sub_zero, take_min, List.map_take]
theorem cut_from' {α : Type} (f : α → V) (ls : List α) (j : Nat) : cutV (ls.map f) (some (j : Int)) none = (ls.drop j).map f := by
  unfold cutV
  rw [HT.sIx_none, HT.sIx_nat, drop_min, List.map_drop, List.take_of_length_le]
  rw [List.length_drop, List.length_map]
  by_cases h : j ≤ ls.length
  · rw [Nat.min_eq_left h]; exact Nat.le_refl _
  · omega
theorem atI_map {α : Type} {f : α → V} {ls : List α} {i : Int} {x : α} (h0 : 0 ≤ i) (h : ls[i.toNat]? = some x) : atI (ls.map f) i = some (f x) := atI_get h0 (by rw [List.getElem?_map, h]; rfl)
/-- the marks of pieces made by a comprehension -/
theorem marks_of {y : Sty} {b n : Int} {H0 G : Hp} : ∀ {cuts : List (List Int)} {as : List Addr} {ys : List V}, Paired (fun c p => H0 p = some (.lst (c.map V.int))) cuts as →
    Paired (fun x z => ∃ p cut q, x = V.ref p ∧ H0 p = some (.lst (cut.map V.int)) ∧ z = V.ref q ∧ G q = some (.lst [.int (mark y b n cut), .int (cut.length : Nat)])) (as.map V.ref) ys →
    ∃ qs : List Addr, ys = qs.map V.ref ∧ Paired (fun c q => G q = some (.lst [.int (mark y b n c), .int c.length])) cuts qs
  | _, _, _, .nil, h => by cases h; exact ⟨[], rfl, .nil⟩
  | _, _, _, .cons r t, h => by
    cases h with
    | cons r2 t2 =>
      obtain ⟨p, cut, q, e1, h1, rfl, h2⟩ := r2
      injection e1 with e1
      subst e1
      rw [r] at h1
      injection h1 with h1
      injection h1 with h1
      have := ints_inj h1
      subst this
      obtain ⟨qs, rfl, hq⟩ := marks_of t t2
      exact ⟨q :: qs, rfl, .cons h2 hq⟩
def spCut : Sp := fun vs H Q _ => ∃ (a l : Addr) (c : Int) (ls : List Int), vs = [.ref a, .ref l] ∧ c < 2 ^ 47 ∧ Purse H a c ∧ rm a H l = some (.lst (ls.map V.int)) ∧ ls.length ≤ 1000 ∧
  ∀ r H' cuts, Same (rm a H) (rm a H') → Purse H' a (c + 9) → LL (rm a H') r cuts → cuts.flatten = ls → 0 < cuts.length → cuts.length ≤ 8 → Q (.ref r) H'
def spOne (ca : CA) : Sp := fun vs H Q _ => ∃ (a x r : Addr) (b c : Int) (ps : List (Int × Int)) (y : Sty) (cuts : List (List Int)), vs = [.ref a, .ref x, .ref r] ∧ c < 2 ^ 47 ∧ Purse H a c ∧ WayAt ca (rm a H) x b ps y ∧ LL (rm a H) r cuts ∧ 0 < cuts.length ∧ cuts.length ≤ 8 ∧ cuts.flatten.length ≤ 1000 ∧
  ∀ p H', Same (rm a H) (rm a H') → Purse H' a (c + 8) → rm a H' p = some (.lst [.int (mark y b (num ps) cuts.flatten), .int cuts.flatten.length]) → Q (.ref p) H'
def spBack (ca : CA) : Sp := fun vs H Q _ => ∃ (a x l g : Addr) (b c : Int) (ps : List (Int × Int)) (y : Sty) (ls : List Int), vs = [.ref a, .ref x, .ref l, .ref g] ∧ c < 2 ^ 47 ∧ Purse H a c ∧ WayAt ca (rm a H) x b ps y ∧ rm a H l = some (.lst (ls.map V.int)) ∧ rm a H g = some (.lst [.bl y.low, .int y.shift, .bl y.lead]) ∧ ls.length ≤ 1000 ∧
  ∀ H', Same (rm a H) (rm a H') → Purse H' a (c + 1) → Q (.bl true) H'
def spRepl (ca : CA) : Sp := fun vs H Q _ => ∃ (a x l m : Addr) (b c : Int) (ps : List (Int × Int)) (y : Sty) (ls ms : List Int), vs = [.ref a, .ref x, .ref l, .ref m] ∧ c < 2 ^ 47 ∧ Purse H a c ∧ WayAt ca (rm a H) x b ps y ∧ rm a H l = some (.lst (ls.map V.int)) ∧ rm a H m = some (.lst (ms.map V.int)) ∧ ls.length ≤ 1000 ∧ ms.length = ls.length ∧
  (∀ z ∈ ls, z.natAbs < 2 ^ 1000) ∧ (∀ z ∈ ms, z.natAbs < 2 ^ 1000) ∧ ∀ H', Same (rm a H) (rm a H') → Purse H' a (c + ls.length) → Q (.int (mark y b (num ps) ms)) H'
/-- letters exchanged one by one, those of ord still to come -/
def Mix (ls ms cur : List Int) (ord : List Nat) : Prop := cur.length = ls.length ∧ ord.Nodup ∧ ∀ i, i < ls.length → cur[i]? = if i ∈ ord then ls[i]? else ms[i]?
theorem Mix.step {ls ms cur : List Int} {ord : List Nat} {k i : Nat} {z : Int} (h : Mix ls ms cur ord) (hk : ord[k]? = some i) (hz : ms[i]? = some z) : Mix ls ms (cur.set i z) (ord.eraseIdx k) := by
  obtain ⟨h1, h2, h3⟩ := h
  refine ⟨by rw [List.length_set]; exact h1, h2.eraseIdx k, fun j hj => ?_⟩
  obtain ⟨hk1, hk2⟩ := List.getElem?_eq_some_iff.mp hk
  by_cases e : i = j
  · subst e
    have hn : i ∉ ord.eraseIdx k := by
      intro hm
      rw [List.mem_eraseIdx_iff_getElem] at hm
      obtain ⟨m, hm1, hm2, hm3⟩ := hm
      have := (List.getElem_inj h2).mp (hm3.trans hk2.symm)
      omega
    rw [if_neg hn, List.getElem?_set_self (by omega), hz]
  · rw [List.getElem?_set_ne e, h3 j hj]
    have : j ∈ ord.eraseIdx k ↔ j ∈ ord := by
      constructor
      · exact fun z => List.mem_of_mem_eraseIdx z
      · intro z
        rw [List.mem_eraseIdx_iff_getElem]
        obtain ⟨m, hm, em⟩ := List.getElem_of_mem z
        exact ⟨m, hm, fun q => e (by rw [← em, ← hk2]; congr 1; exact q.symm), em⟩
    by_cases q : j ∈ ord
    · rw [if_pos q, if_pos (this.mpr q)]
    · rw [if_neg q, if_neg (fun w => q (this.mp w))]
theorem Mix.done {ls ms cur : List Int} (h : Mix ls ms cur []) (e : ms.length = ls.length) : cur = ms := by
  refine List.ext_getElem? fun i => ?_
  by_cases hi : i < ls.length
  · rw [h.2.2 i hi]; simp
  · rw [List.getElem?_eq_none (by have := h.1; omega), List.getElem?_eq_none (by omega)]

theorem w_popAtR {a p : Addr} {c i : Int} {H : Hp} {Q : VK} {xs : List V} {k : Nat} {y : V} (pu : Purse H a c) (h : rm a H p = some (.lst xs)) (h0 : 0 ≤ i) (hk : i.toNat = k) (e : xs[k]? = some y) (h1 : i < 2 ^ 60) (q : ∀ H', Same (rm p (rm a H)) (rm p (rm a H')) → Purse H' a c → rm a H' p = some (.lst (xs.eraseIdx k)) → Q y H') : rPopAt (.ref p) [.int i] H Q := by
  have np : p ≠ a := fun e => by rw [e, rm_self] at h; cases h
  refine w_popAt (rm_le _ _ h) h0 hk e h1 (q _ ?_ ?_ ?_)
  · rw [rm_upd np, rm_updS]
    exact Same.refl _
  · obtain ⟨x1, y1, z1, e1, r1⟩ := pu
    exact ⟨x1, y1, z1, by rw [upd_ne np.symm]; exact e1, r1⟩
  · exact rm_of np upd_same

theorem map_eraseIdx {α β : Type} (f : α → β) : ∀ (l : List α) (k : Nat), (l.map f).eraseIdx k = (l.eraseIdx k).map f
  | [], k => by simp
  | a :: r, 0 => rfl
  | a :: r, k + 1 => by simp [List.eraseIdx, map_eraseIdx f r k]

end Bc
namespace Bc
open PySem PySem.Spec PyProof.Rows L2
/-! ### errors: made, raised, caught -/
/-- __init__ of an error with one field -/
def spErr (C : Addr) (f : Str) : Sp := fun vs H Q _ => ∃ (a : Addr) (v : V), vs = [.ref a, v] ∧ H a = some (exo a C none) ∧ ∀ dx, H dx = none → dx ≠ a → Q .non (upd (upd H dx (exd dx [(f, v)])) a (exo a C (some dx)))
structure Err (P : Program) (w : World) (K : PySem.W.Frag) (mg : Str → Option Value) (base : Heap) (k : Nat) (x : Str) (C : Addr) (f : Str) : Prop where
  ex : ∃ (fI : Addr) (fd : FuncData) (ps : List Str), OexC K C ∧ PySem.W.findIn K (.ref C) "__init__" = some (some (.ref fI)) ∧ PySem.W.typeIn K (.ref fI) = some (.type "function") ∧ FnOk P w K mg base L2.CX0 k fI fd ps (spErr C f) ∧ Binds K fd ps [] ∧ mg x = some (.ref C)
/-- what is known of an error that is caught -/
structure ErrC (K : PySem.W.Frag) (mg : Str → Option Value) (x : Str) (C : Addr) (f : Str) : Prop where
  gC : mg x = some (.ref C)
  xf : XfC K C
  no : PySem.W.findIn K (.ref C) f = some none
  te : PySem.W.exmOne K (.ref C) (.ref C) = some true
section
variable {X : Cx} {k j : Nat} {x f : Str} {C : Addr} {sp : Sp} {dvs : List V} {p pos pos2 : Pos} {e : Expr} {es : List Expr} {ta t : TA} {W : WX}
theorem ps_rse (c : Err X.prog X.w X.K X.mg X.base k x C f) (hc : X.calm = true) (hr : Room j X.A) (hk : k + 1 ≤ j) (tk : Takes X W) (hg : Gl X x) (ha : PA X (e :: es) ta)
    (hdb : (x == ("__debug__" : Str)) = false := by decide) (he : starEach (e :: es) X.env = (false, eval e X.env) :: starEach es X.env := by rfl) (hpl : (backTo pos (starEach es X.env)).any (·.1) = false := by rfl) :
    PS X (.Raise (some (.Call (.Name x p) (e :: es) [] pos)) none pos2) (fun _ σ H => tMkO C (spErr C f) [] ta σ H fun cls d H' => W cls d σ H') := by
  obtain ⟨fI, fd, ps, T, iC, tI, F, b, hm⟩ := c.ex
  exact ps_raise hc tk (pmk_oex T iC tI F (hr.mono hk) b .nil (fun _ _ _ _ _ _ _ h => h.elim) hg hm ha hdb he hpl)
theorem w_mkO {σ : L2.St} {H : Hp} {Q : XK} {dvs : List V} (q : ta σ H fun vs H1 => vs.length ≤ 1000 ∧ ∀ a, H1 a = none → sp (.ref a :: (vs ++ dvs)) (upd H1 a (exo a C none))
  (fun v H2 => v = .non ∧ ∃ (d : Addr) (fs : List (Str × V)), H2 a = some (exo a C (some d)) ∧ H2 d = some (exd d fs) ∧ H1 d = none ∧ Q (.ref C) (some d) (upd (del H2 a) d (.xd fs))) (fun _ _ _ => False)) : tMkO C sp dvs ta σ H Q := q
/-- the error flies: its dict is new, what stood stands -/
theorem w_fly {H : Hp} {E : XK} {E' : XK} {v : V} (q : ∀ d H2, H d = none → Same H H2 → H2 d = some (.xd [(f, v)]) → E (.ref C) (some d) H2) : [v].length ≤ 1000 ∧ ∀ a, H a = none → spErr C f (.ref a :: ([v] ++ [])) (upd H a (exo a C none))
    (fun u H2 => u = .non ∧ ∃ (d : Addr) (fs : List (Str × V)), H2 a = some (exo a C (some d)) ∧ H2 d = some (exd d fs) ∧ H d = none ∧ E (.ref C) (some d) (upd (del H2 a) d (.xd fs))) E' :=
  ⟨by show 1 ≤ 1000; decide, fun a na => ⟨a, v, rfl, upd_same, fun dx nd ne => ⟨rfl, dx, _, upd_same, by rw [upd_ne ne, upd_same], by rw [upd_ne ne] at nd; exact nd, q dx _ (by rw [upd_ne ne] at nd; exact nd) (fun b o h => by
    have nb : b ≠ a := ne_of_none h na
    have nb2 : b ≠ dx := ne_of_none h (by rw [upd_ne ne] at nd; exact nd)
    rw [upd_ne nb2, del_ne nb, upd_ne nb, upd_ne nb2, upd_ne nb]
    exact h) upd_same⟩⟩⟩
/-- a def that may raise -/
structure CalX (P : Program) (w : World) (K : PySem.W.Frag) (mg : Str → Option Value) (base : Heap) (k : Nat) (x : Str) (sp : Sp) (dvs : List V) : Prop where
  ex : ∃ (f : Addr) (fd : FuncData) (ps : List Str) (ds : List Value), FnOk P w K mg base (L2.CX P w) k f fd ps sp ∧ mg x = some (.ref f) ∧ PySem.W.keepIn K (.ref f) = true ∧ Binds K fd ps ds ∧ Vals dvs ds
theorem pe_cX (c : CalX X.prog X.w X.K X.mg X.base k x sp dvs) (hr : Room j X.A) (hk : k ≤ j) (hg : Gl X x) (tk : Takes X W) (ha : PA X (e :: es) t)
    (hdb : (x == ("__debug__" : Str)) = false := by decide) (he : starEach (e :: es) X.env = (false, eval e X.env) :: starEach es X.env := by rfl) (hpl : (backTo pos (starEach es X.env)).any (·.1) = false := by rfl) :
    PE X (.Call (.Name x p) (e :: es) [] pos) (tCallSD sp dvs (WE W) t) := by
  obtain ⟨f, fd, ps, ds, F, hm, kp, b, d⟩ := c.ex
  exact pe_callSD F (hr.mono hk) hg hm kp b d (fun σ => passAt tk σ) ha hdb he hpl
/-- a call of it that raises nothing -/
theorem pe_cL (c : CalX X.prog X.w X.K X.mg X.base k x sp dvs) (hr : Room j X.A) (hk : k ≤ j) (hg : Gl X x) (ha : PA X (e :: es) t)
    (hdb : (x == ("__debug__" : Str)) = false := by decide) (he : starEach (e :: es) X.env = (false, eval e X.env) :: starEach es X.env := by rfl) (hpl : (backTo pos (starEach es X.env)).any (·.1) = false := by rfl) :
    PE X (.Call (.Name x p) (e :: es) [] pos) (tCall sp dvs L2.E0 t) := by
  obtain ⟨f, fd, ps, ds, F, hm, kp, b, d⟩ := c.ex
  exact pe_call F (hr.mono hk) hg hm kp b d passL ha hdb he hpl
theorem w_callX {σ : L2.St} {H : Hp} {Q : VK} (q : t σ H fun vs H1 => sp (vs ++ dvs) H1 Q fun cls d H2 => W cls d σ H2) : tCallSD sp dvs (WE W) t σ H Q := q
structure CalXK (P : Program) (w : World) (K : PySem.W.Frag) (mg : Str → Option Value) (base : Heap) (k : Nat) (x : Str) (ks : List Str) (sp : Sp) (gV : List V → List V → List V) : Prop where
  ex : ∃ (f : Addr) (fd : FuncData) (ps : List Str) (g : List Value → List Value → List Value), FnOk P w K mg base (L2.CX P w) k f fd ps sp ∧ mg x = some (.ref f) ∧ PySem.W.keepIn K (.ref f) = true ∧ KBn K fd ps 0 ks g gV
theorem pe_cLK {ks : List Str} {gV : List V → List V → List V} {kws : List Keyword} {tk : TA} (c : CalXK X.prog X.w X.K X.mg X.base k x ks sp gV) (hr : Room j X.A) (hk : k ≤ j) (hg : Gl X x) (hkw : PK X kws tk)
    (hall : (backToKw pos (keywordEach kws X.env)).all (·.1.isSome) = true := by rfl) (hks : (backToKw pos (keywordEach kws X.env)).filterMap (·.1) = ks := by rfl) (hdb : (x == ("__debug__" : Str)) = false := by decide)
    (hpl : ((backTo pos (starEach [] X.env)).any (·.1) || (backToKw pos (keywordEach kws X.env)).any (·.1.isNone)) = false := by rfl) :
    PE X (.Call (.Name x p) [] kws pos) (tCallN 0 ks.length sp gV L2.E0 tNil tk) := by
  obtain ⟨f, fd, ps, g, F, hm, kp, b⟩ := c.ex
  refine ⟨fun pins s σ H Q I h => ?_⟩
  refine wpAny_Call_Name_kw (ld_glob I hg hm ?_ hdb)
  refine PySem.W.callWith_KW0 (h₀ := X.base) I.ok.mod.kin kp hall ?_ hpl
  refine thn (hkw.run pos pins s σ H _ I h) fun ws s2 ⟨zs, H2, I2, rz, l1, l2, q2⟩ => ⟨I2.kIn, ?_⟩
  rw [hks]
  exact run_fnN (us := []) (vs := []) F (hr.mono hk) b passL I2 .nil rz rfl l2 q2
end
section
variable {P : Program} {w : World} {K : PySem.W.Frag} {mg : Str → Option Value} {base : Heap}
theorem Dn.calX {x : Str} {st : Stmt} {N ps : List Str} {k : Nat} {sp : Sp} (F : Dn K mg x st ps) (S : FnScope N ps (defScope st)) (len : ∀ vs H Q E, sp vs H Q E → vs.length = ps.length)
    (hbody : ∀ (f : Addr) (cdv : Value) (A : Around) (outer : List Env) (s : Shared) (H : Hp) (vs : List V) (Q : VK) (E : XK), Room k (A.deeper (envOfC x (defScope st) s.heap.objs.size f cdv)) → sp vs H Q E →
      ∃ t, PSs (cxOf (L2.CX P w) P w K mg base N x (defScope st) f cdv A outer s H E) (defBody st) t ∧ t { nx := fun _ H' => Q .non H', rt := Q } (start N vs) H) : CalX P w K mg base (k + 1) x sp [] := by
  obtain ⟨f, fd, F1, m, b⟩ := F.ex
  exact ⟨f, fd, ps, [], F1.okX S len (fun cdv A outer s H vs Q E hr h => hbody f cdv A outer s H vs Q E hr h), m, F1.kp, b, .nil⟩
/-- the same for a def whose call by keywords is wanted, too -/
theorem fnX_ok {x qual : Str} {st : Stmt} {dvs : List V} {kws : List (Str × V)} {f : Addr} {fd : FuncData} {N ps : List Str} {k : Nat} {sp : Sp}
    (F : FunD K x qual (defArgs st) (defBody st) (defScope st) dvs kws f fd) (S : FnScope N ps (defScope st)) (len : ∀ vs H Q E, sp vs H Q E → vs.length = ps.length)
    (hbody : ∀ (cdv : Value) (A : Around) (outer : List Env) (s : Shared) (H : Hp) (vs : List V) (Q : VK) (E : XK), Room k (A.deeper (envOfC qual (defScope st) s.heap.objs.size f cdv)) → sp vs H Q E →
      ∃ t, PSs (cxOf (L2.CX P w) P w K mg base N qual (defScope st) f cdv A outer s H E) (defBody st) t ∧ t { nx := fun _ H' => Q .non H', rt := Q } (start N vs) H) : FnOk P w K mg base (L2.CX P w) (k + 1) f fd ps sp :=
  F.ok S len fun cdv A outer s H vs Q E hr h => hbody cdv A outer s H vs Q E hr h
end
/-- a clause 'except C as n' that takes its own error -/
theorem w_as {K : PySem.W.Frag} {C : Addr} {i : Nat} {ts : Addr → Value → Option Addr → TS} {Wout : WX} {D : Ends} {d : Option Addr} {σ : L2.St} {H : Hp} (te : PySem.W.exmOne K (.ref C) (.ref C) = some true)
    (q : ∀ a, H a = none → ts a (.ref C) d { nx := fun σ' H' => D.nx (σ'.set i none) H', rt := D.rt, bk := fun σ' H' => D.bk (σ'.set i none) H', ct := fun σ' H' => D.ct (σ'.set i none) H' } (σ.set i (some (.ref a))) H) : wAs K (.ref C) i ts Wout D (.ref C) d σ H :=
  ⟨true, te, fun _ a na => q a na, fun z => by cases z⟩
theorem w_xf {a C : Addr} {cls : Value} {d : Option Addr} {f : Str} {te : TE} {σ : L2.St} {H : Hp} {Q : VK} (q : te σ H fun x H1 => x = .ref a ∧ cls = .ref C ∧ ∃ (dd : Addr) (fs : List (Str × V)) (v : V), d = some dd ∧ H1 dd = some (.xd fs) ∧ fs.lookup f = some v ∧ Q v H1) : tXf a cls d C f te σ H Q := q
theorem w_xfi {a C dd : Addr} {f : Str} {H : Hp} {v : V} {P : V → Prop} (h : H dd = some (.xd [(f, v)])) (q : P v) : V.ref a = .ref a ∧ Value.ref C = .ref C ∧ ∃ (d2 : Addr) (fs : List (Str × V)) (u : V), some dd = some d2 ∧ H d2 = some (.xd fs) ∧ fs.lookup f = some u ∧ P u := ⟨rfl, rfl, dd, _, v, rfl, h, lk0, q⟩
theorem exm_own {K : PySem.W.Frag} {S : Addr} (b : PySem.W.subIn K (.ref S) (.type "BaseException") = some true) (i : PySem.W.isClsIn K S = true) (t : PySem.W.typeIn K (.ref S) = some (.type "type")) (s : PySem.W.subIn K (.ref S) (.ref S) = some true) : PySem.W.exmOne K (.ref S) (.ref S) = some true := by
  have i' : (PySem.W.clsIn K S).isSome = true := i
  unfold PySem.W.exmOne PySem.W.kitCls
  simp only [b, i', t, s, BEq.rfl, Bool.and_self, if_true]

end Bc
namespace Bc
open PySem PySem.Spec PyProof.Rows L2
theorem gcd_mod (x n : Int) : Int.gcd (x % n) n = Int.gcd x n := by
  have h := Int.gcd_mul_left_add_left n (x % n) (x / n)
  rw [Int.mul_ediv_add_emod] at h
  exact h.symm

end Bc
namespace Bc
open PySem PySem.Spec PyProof.Rows L2
/-! ### inverses, texts rolled -/
def spInverse : Sp := fun vs H Q _ => ∃ u n : Int, vs = [.int u, .int n] ∧ 0 < n ∧ n.natAbs < 2 ^ 8000 ∧ Int.gcd u n = 1 ∧ ∀ r H', Same H H' → 0 ≤ r → r < n → u * r % n = 1 % n → Q (.int r) H'
def spDivided (c : CA) : Sp := fun vs H Q _ => ∃ (x : Addr) (t u b : Int) (ps : List (Int × Int)) (y : Sty), vs = [.ref x, .int t, .int u] ∧ WayAt c H x b ps y ∧ (num ps).natAbs < 2 ^ 8000 ∧ t.natAbs < 2 ^ 200000 ∧ Int.gcd u (num ps) = 1 ∧ ∀ r H', Same H H' → u * r % num ps = 1 % num ps → Q (.int (t * r % num ps)) H'
def spIsUnit (c : CA) : Sp := fun vs H Q _ => ∃ (x : Addr) (u b : Int) (ps : List (Int × Int)) (y : Sty), vs = [.ref x, .int u] ∧ WayAt c H x b ps y ∧ Q (.bl (decide (Int.gcd u (num ps) = 1))) H
/-- what the Euclidean steps keep -/
def InvOk (u n one other first second : Int) : Prop := 0 ≤ one ∧ 0 ≤ other ∧ other < one + 1 + n ∧ Int.gcd one other = Int.gcd n u ∧ (∃ k, first * u = one + n * k) ∧ (∃ k, second * u = other + n * k) ∧ ((0 ≤ second ∧ first ≤ 0 ∧ -first * other + second * one = n) ∨ (second ≤ 0 ∧ 0 ≤ first ∧ first * other + -second * one = n))
theorem InvOk.start {u n : Int} (hn : 0 < n) : InvOk u n n (u % n) 0 1 := by
  have h0 := Int.emod_nonneg u (show n ≠ 0 by omega)
  have h1 := Int.emod_lt_of_pos u hn
  refine ⟨by omega, h0, by omega, ?_, ⟨-1, by omega⟩, ⟨u / n, ?_⟩, .inl ⟨by decide, by decide, by omega⟩⟩
  · rw [Int.gcd_comm n (u % n), Int.gcd_comm n u]
    exact gcd_mod u n
  · rw [Int.one_mul]
    have := Int.mul_ediv_add_emod u n
    omega
theorem InvOk.step {u n one other first second : Int} (h : InvOk u n one other first second) (hn : 0 < n) (ho : 0 < other) : InvOk u n other (one - one / other * other) second (first - one / other * second) := by
  obtain ⟨h1, h2, h3, h4, ⟨k1, e1⟩, ⟨k2, e2⟩, h5⟩ := h
  have hr : one - one / other * other = one % other := by
    have := Int.mul_ediv_add_emod one other
    rw [Int.mul_comm] at this
    omega
  have hr0 := Int.emod_nonneg one (show other ≠ 0 by omega)
  have hr1 := Int.emod_lt_of_pos one ho
  have hq : 0 ≤ one / other := Int.ediv_nonneg h1 (by omega)
  refine ⟨h2, by omega, by omega, ?_, ⟨k2, e2⟩, ⟨k1 - one / other * k2, ?_⟩, ?_⟩
  · rw [hr, ← h4, Int.gcd_comm other, gcd_mod]
  · rw [Int.sub_mul, e1, Int.mul_assoc, e2]
    grind
  · generalize one / other = q at *
    rcases h5 with ⟨a1, a2, a3⟩ | ⟨a1, a2, a3⟩
    · refine .inr ⟨?_, a1, ?_⟩
      · have := Int.mul_nonneg hq a1
        omega
      · rw [← a3]; grind
    · refine .inl ⟨?_, a1, ?_⟩
      · have := Int.mul_nonneg hq (show 0 ≤ -second by omega)
        rw [Int.mul_neg] at this
        omega
      · rw [← a3]; grind
theorem InvOk.le {u n one other first second : Int} (h : InvOk u n one other first second) (hn : 0 < n) (ho : 0 < other) : first.natAbs ≤ n.natAbs ∧ (0 < one → second.natAbs ≤ n.natAbs) ∧ one / other ≤ one ∧ 0 ≤ one / other := by
  obtain ⟨h1, h2, h3, h4, _, _, h5⟩ := h
  have hdiv : one / other ≤ one := Int.ediv_le_self _ h1
  have hdiv0 : 0 ≤ one / other := Int.ediv_nonneg h1 (by omega)
  have key : ∀ a b c d : Int, 0 ≤ a → 0 ≤ b → 0 ≤ c → 0 ≤ d → a * b + c * d = n → (0 < b → a ≤ n) ∧ (0 < d → c ≤ n) := fun a b c d ha hb hc hd e => by
    have p1 := Int.mul_nonneg ha hb
    have p2 := Int.mul_nonneg hc hd
    constructor
    · intro z
      have := Int.mul_le_mul_of_nonneg_left (show 1 ≤ b from z) ha
      omega
    · intro z
      have := Int.mul_le_mul_of_nonneg_left (show 1 ≤ d from z) hc
      omega
  rcases h5 with ⟨a1, a2, a3⟩ | ⟨a1, a2, a3⟩
  · obtain ⟨x1, x2⟩ := key (-first) other second one (by omega) h2 a1 h1 a3
    have := x1 ho
    exact ⟨by omega, fun z => by have := x2 z; omega, hdiv, hdiv0⟩
  · obtain ⟨x1, x2⟩ := key first other (-second) one a2 h2 (by omega) h1 a3
    have := x1 ho
    exact ⟨by omega, fun z => by have := x2 z; omega, hdiv, hdiv0⟩
theorem InvOk.done {u n one first second : Int} (h : InvOk u n one 0 first second) (hn : 0 < n) (hg : Int.gcd u n = 1) : u * (first % n) % n = 1 % n := by
  obtain ⟨h1, _, _, h4, ⟨k1, e1⟩, _⟩ := h
  have ho : one = 1 := by
    rw [Int.gcd_comm n u, hg] at h4
    have : Int.gcd one 0 = one.natAbs := Int.gcd_zero_right one
    omega
  obtain ⟨k, e⟩ := self_mod n first
  rw [e, cg]
  refine ⟨k1 + u * k, ?_⟩
  rw [Int.mul_add, Int.mul_comm u first, e1, ho]
  grind
def rollHi (y : Sty) (b n m o z : Int) (L : Nat) : Int := ((m - ld y * (b ^ L % n) - (o + y.shift) * (b ^ (L - 1) % n)) * b + (z + y.shift) + ld y * (b ^ L % n)) % n
def rollLo (y : Sty) (b n m o z r : Int) (L : Nat) : Int := ((m - ld y * (b ^ L % n) - (o + y.shift) * 1) * r % n + (z + y.shift) * (b ^ (L - 1) % n) + ld y * (b ^ L % n)) % n
def spRolled (c : CA) (Cu : Addr) : Sp := fun vs H Q E => ∃ (x : Addr) (b m o z : Int) (L : Nat) (ps : List (Int × Int)) (y : Sty), vs = [.ref x, .int m, .int L, .int o, .int z] ∧ WayAt c H x b ps y ∧ (num ps).natAbs < 2 ^ 8000 ∧ (0 ≤ m ∧ m < num ps) ∧ 1 ≤ L ∧ L < 2 ^ 40 ∧ (o.natAbs < 2 ^ 1000 ∧ z.natAbs < 2 ^ 1000 ∧ y.shift.natAbs < 2 ^ 1000) ∧
  (y.low = false → Q (.int (rollHi y b (num ps) m o z L)) H) ∧ (y.low = true → L = 1 → Q (.int ((z + y.shift + ld y * (b ^ L % num ps)) % num ps)) H) ∧
  (y.low = true → L ≠ 1 → Int.gcd b (num ps) = 1 → ∀ r H', Same H H' → b * r % num ps = 1 % num ps → Q (.int (rollLo y b (num ps) m o z r L)) H') ∧
  (y.low = true → L ≠ 1 → Int.gcd b (num ps) ≠ 1 → ∀ d H', H d = none → Same H H' → H' d = some (.xd [("length", .int L)]) → E (.ref Cu) (some d) H')
theorem rollHi_eq {y : Sty} (h : y.low = false) (b n o z : Int) (t : List Int) : rollHi y b n (mark y b n (o :: t)) o z (t.length + 1) = mark y b n (t ++ [z]) := by
  unfold rollHi
  rw [Nat.add_sub_cancel]
  exact roll_high h b n o z t
theorem rollLo1 (y : Sty) (b n z : Int) : (z + y.shift + ld y * (b ^ 1 % n)) % n = mark y b n [z] := by
  rw [mark_Sm, Sm_one, cg, show b ^ 1 = b by rw [Int.pow_succ, Int.pow_zero, Int.one_mul]]
  obtain ⟨k1, e1⟩ := self_mod n b
  rw [e1]
  exact ⟨ld y * k1, by grind⟩
theorem rollLo_eq {y : Sty} (h : y.low = true) {b n r : Int} (hr : b * r % n = 1 % n) (o z : Int) (t : List Int) : rollLo y b n (mark y b n (o :: t)) o z r (t.length + 1) = mark y b n (t ++ [z]) := by
  unfold rollLo
  rw [Nat.add_sub_cancel, mark_Sm, mark_Sm, Sm_low h, show o :: t = [o] ++ t from rfl, Sm_low h, Sm_one, Sm_one, cg, show ([o] : List Int).length = 1 from rfl, show b ^ 1 = b by rw [Int.pow_succ, Int.pow_zero, Int.one_mul]]
  obtain ⟨k1, e1⟩ := self_mod n (b ^ (t.length + 1))
  obtain ⟨k2, e2⟩ := self_mod n (b ^ t.length)
  obtain ⟨k3, e3⟩ := self_mod n (ld y * b + o + y.shift + b * (Sm y b t - ld y))
  obtain ⟨k5, e5⟩ := cg.mp hr
  rw [e1, e2, e3]
  generalize hX : (ld y * b + o + y.shift + b * (Sm y b t - ld y) + n * k3 - ld y * (b ^ (t.length + 1) + n * k1) - (o + y.shift) * 1) * r = X
  obtain ⟨k4, e4⟩ := self_mod n X
  rw [e4, ← hX, Int.pow_succ]
  generalize b ^ t.length = q
  generalize Sm y b t = su
  refine ⟨(k3 - ld y * k1) * r + (su - ld y * q) * k5 + k4 + (z + y.shift) * k2 + ld y * k1, ?_⟩
  have e6 : (su - ld y * q) * (b * r) = (su - ld y * q) * (1 + n * k5) := by rw [e5]
  grind
def OpenR (y : Sty) (b n : Int) (t : List Int) : Prop := y.low = true ∧ t ≠ [] ∧ Int.gcd b n ≠ 1
def spLRoll (c : CA) : Sp := fun vs H Q _ => ∃ (x : Addr) (b o z : Int) (t : List Int) (ps : List (Int × Int)) (y : Sty), vs = [.ref x, .int (mark y b (num ps) (o :: t)), .int ((t.length + 1 : Nat) : Int), .int o, .int z] ∧ WayAt c H x b ps y ∧ (num ps).natAbs < 2 ^ 8000 ∧ t.length < 2 ^ 30 ∧ (o.natAbs < 2 ^ 1000 ∧ z.natAbs < 2 ^ 1000 ∧ y.shift.natAbs < 2 ^ 1000) ∧
  (¬ OpenR y b (num ps) t → ∀ H', Same H H' → Q (.int (mark y b (num ps) (t ++ [z]))) H') ∧ (OpenR y b (num ps) t → ∀ p H', H p = none → Same H H' → H' p = some (.lst [.str "open", .int ((t.length + 1 : Nat) : Int)]) → Q (.ref p) H')
def spRR (c : CA) : Sp := fun vs H Q _ => ∃ (a x g le : Addr) (rt cc : Int) (ps : List (Int × Int)) (y : Sty) (ls : List Int), vs = [.ref a, .ref x, .ref g, .int rt, .ref le] ∧ cc < 2 ^ 47 ∧ Purse H a cc ∧ WayAt c (rm a H) x (rt % num ps) ps y ∧ rm a H g = some (.lst [.bl y.low, .int y.shift, .bl y.lead]) ∧ rm a H le = some (.lst (ls.map V.int)) ∧ 1 ≤ ls.length ∧ ls.length ≤ 60 ∧ (∀ z ∈ ls, z.natAbs < 10 ^ 31) ∧ y.shift.natAbs < 10 ^ 31 ∧ rt.natAbs < 2 ^ 4000 ∧ (num ps).natAbs < 2 ^ 8000 ∧
  ∀ H', Same (rm a H) (rm a H') → Purse H' a (cc + 200) → Q (.bl true) H'
def perm5 (vs zs : List V) : List V := match zs with
  | [o, n, l, m, w] => vs ++ [w, m, l, o, n]
  | _ => vs ++ zs
def spDiv : Sp := fun vs H Q _ => ∃ x z : Int, vs = [.int x, .int z] ∧ 0 ≤ x ∧ 0 ≤ z ∧ Q (.int (Int.gcd x z)) H
theorem shaped_so {s : Str} (hs : PyData.strOk s = true) (i : Int) : SeqAt.shaped (.list [.str s, .int i]) = true := by
  unfold SeqAt.shaped
  simp [PyData.canLay0, PyData.canLayAll0, PyData.depth, PyData.depthAll, hs]
theorem eqv_so {s : Str} (hs : PyData.strOk s = true) (i : Int) : PyData.eqv (.list [.str s, .int i]) (.list [.str s, .int i]) = true := SeqAt.eqv_refl _ (by simp [PyData.canLay0, PyData.canLayAll0, hs])
theorem ok_open : PyData.strOk "open" = true := by decide +kernel
def perm5V (us ws : List Value) : List Value := match ws with
  | [o, n, l, m, w] => us ++ [w, m, l, o, n]
  | _ => us ++ ws
theorem perm5_vals : ∀ {vs zs : List V} {us ws : List Value}, Vals vs us → Vals zs ws → Vals (perm5 vs zs) (perm5V us ws)
  | _, _, _, _, r, .nil => r.append .nil
  | _, _, _, _, r, .cons a .nil => r.append (.cons a .nil)
  | _, _, _, _, r, .cons a (.cons b .nil) => r.append (.cons a (.cons b .nil))
  | _, _, _, _, r, .cons a (.cons b (.cons c .nil)) => r.append (.cons a (.cons b (.cons c .nil)))
  | _, _, _, _, r, .cons a (.cons b (.cons c (.cons d .nil))) => r.append (.cons a (.cons b (.cons c (.cons d .nil))))
  | _, _, _, _, r, .cons a (.cons b (.cons c (.cons d (.cons e .nil)))) => r.append (.cons e (.cons d (.cons c (.cons a (.cons b .nil)))))
  | _, _, _, _, r, .cons a (.cons b (.cons c (.cons d (.cons e (.cons f t))))) => r.append (.cons a (.cons b (.cons c (.cons d (.cons e (.cons f t))))))

end Bc
namespace Bc
open PySem PySem.Spec PyProof.Rows L2
/-! ### parts of texts, told or open -/
def spRightX (c : CA) (Cu : Addr) : Sp := fun vs H Q E => ∃ (x : Addr) (b W U : Int) (i j : Nat) (ps : List (Int × Int)) (y : Sty), vs = [.ref x, .int W, .int U, .int i, .int j] ∧ WayAt c H x b ps y ∧ (num ps).natAbs < 2 ^ 8000 ∧ (0 ≤ W ∧ W < num ps) ∧ (0 ≤ U ∧ U < num ps) ∧ i < 2 ^ 40 ∧ j < 2 ^ 40 ∧
  (j = 0 → ∀ H', Same H H' → Q (.int (mark y b (num ps) [])) H') ∧ (j ≠ 0 → y.low = false → Q (.int ((W - b ^ j % num ps * (U - ld y)) % num ps)) H) ∧
  (j ≠ 0 → y.low = true → Int.gcd (b ^ i % num ps) (num ps) = 1 → ∀ r H', Same H H' → b ^ i % num ps * r % num ps = 1 % num ps → Q (.int ((W - U + ld y * (b ^ i % num ps)) * r % num ps)) H') ∧
  (j ≠ 0 → y.low = true → Int.gcd (b ^ i % num ps) (num ps) ≠ 1 → ∀ d H', H d = none → Same H H' → H' d = some (.xd [("length", .int i)]) → E (.ref Cu) (some d) H')
def spLeftX (c : CA) (Cu : Addr) : Sp := fun vs H Q E => ∃ (x : Addr) (b W V' : Int) (i j : Nat) (ps : List (Int × Int)) (y : Sty), vs = [.ref x, .int W, .int V', .int i, .int j] ∧ WayAt c H x b ps y ∧ (num ps).natAbs < 2 ^ 8000 ∧ (0 ≤ W ∧ W < num ps) ∧ (0 ≤ V' ∧ V' < num ps) ∧ i < 2 ^ 40 ∧ j < 2 ^ 40 ∧
  (i = 0 → ∀ H', Same H H' → Q (.int (mark y b (num ps) [])) H') ∧ (i ≠ 0 → y.low = true → Q (.int ((W - b ^ i % num ps * (V' - ld y)) % num ps)) H) ∧
  (i ≠ 0 → y.low = false → Int.gcd (b ^ j % num ps) (num ps) = 1 → ∀ r H', Same H H' → b ^ j % num ps * r % num ps = 1 % num ps → Q (.int ((W - V' + ld y * (b ^ j % num ps)) * r % num ps)) H') ∧
  (i ≠ 0 → y.low = false → Int.gcd (b ^ j % num ps) (num ps) ≠ 1 → ∀ d H', H d = none → Same H H' → H' d = some (.xd [("length", .int j)]) → E (.ref Cu) (some d) H')
theorem right_low {y : Sty} (h : y.low = true) {b n r : Int} (u v : List Int) (hr : b ^ u.length % n * r % n = 1 % n) : (mark y b n (u ++ v) - mark y b n u + ld y * (b ^ u.length % n)) * r % n = mark y b n v := by
  rw [mark_Sm, mark_Sm, mark_Sm, Sm_low h, cg]
  obtain ⟨k1, e1⟩ := self_mod n (b ^ u.length)
  obtain ⟨k2, e2⟩ := self_mod n (Sm y b u)
  obtain ⟨k3, e3⟩ := self_mod n (Sm y b u + b ^ u.length * (Sm y b v - ld y))
  obtain ⟨k5, e5⟩ := cg.mp hr
  rw [e1] at e5
  rw [e1, e2, e3]
  generalize b ^ u.length = q at e5 ⊢
  generalize Sm y b u = su
  generalize Sm y b v = sv
  refine ⟨(k3 - k2 + ld y * k1 - k1 * sv) * r + sv * k5, ?_⟩
  have e6 : sv * ((q + n * k1) * r) = sv * (1 + n * k5) := by rw [e5]
  grind
theorem left_high {y : Sty} (h : y.low = false) {b n r : Int} (u v : List Int) (hr : b ^ v.length % n * r % n = 1 % n) : (mark y b n (u ++ v) - mark y b n v + ld y * (b ^ v.length % n)) * r % n = mark y b n u := by
  rw [mark_Sm, mark_Sm, mark_Sm, Sm_high h, cg]
  obtain ⟨k1, e1⟩ := self_mod n (b ^ v.length)
  obtain ⟨k2, e2⟩ := self_mod n (Sm y b v)
  obtain ⟨k3, e3⟩ := self_mod n ((Sm y b u - ld y) * b ^ v.length + Sm y b v)
  obtain ⟨k5, e5⟩ := cg.mp hr
  rw [e1] at e5
  rw [e1, e2, e3]
  generalize b ^ v.length = q at e5 ⊢
  generalize Sm y b u = su
  generalize Sm y b v = sv
  refine ⟨(k3 - k2 + ld y * k1 - k1 * su) * r + su * k5, ?_⟩
  have e6 : su * ((q + n * k1) * r) = su * (1 + n * k5) := by rw [e5]
  grind
/-- which part is open -/
def OpenP (y : Sty) (b n : Int) (k : Nat) (i j : Nat) : Prop := if k = 0 then y.low = true ∧ j ≠ 0 ∧ Int.gcd (b ^ i % n) n ≠ 1 else y.low = false ∧ i ≠ 0 ∧ Int.gcd (b ^ j % n) n ≠ 1
def spTold (c : CA) : Sp := fun vs H Q _ => ∃ (k : Nat) (x lm lz : Addr) (b : Int) (u v : List Int) (ps : List (Int × Int)) (y : Sty), vs = [.int k, .ref x, .ref lm, .ref lz] ∧ k < 2 ∧ WayAt c H x b ps y ∧ (num ps).natAbs < 2 ^ 8000 ∧ u.length < 2 ^ 40 ∧ v.length < 2 ^ 40 ∧
  H lm = some (.lst [.int (mark y b (num ps) (u ++ v)), .int (mark y b (num ps) u), .int (mark y b (num ps) v)]) ∧ H lz = some (.lst [.int u.length, .int v.length]) ∧
  (¬ OpenP y b (num ps) k u.length v.length → ∀ H', Same H H' → Q (.int (if k = 0 then mark y b (num ps) v else mark y b (num ps) u)) H') ∧
  (OpenP y b (num ps) k u.length v.length → ∀ p H', H p = none → Same H H' → H' p = some (.lst [.str "open", .int ((if k = 0 then u.length else v.length : Nat) : Int)]) → Q (.ref p) H')
def spIsOpen : Sp := fun vs H Q _ => ∃ (r n : Int) (k : Nat), vs = [.int r, .int k, .int n] ∧ 0 < n ∧ n.natAbs < 2 ^ 8000 ∧ r.natAbs < 2 ^ 8000 ∧ k < 2 ^ 40 ∧ Q (.bl (!decide (Int.gcd (r ^ k % n) n = 1))) H
theorem pow_mod_succ (r n : Int) (i : Nat) : r ^ i % n * r % n = r ^ (i + 1) % n := by
  rw [Int.pow_succ, Int.mul_emod, Int.emod_emod_of_dvd _ (Int.dvd_refl n), ← Int.mul_emod]
theorem pow_mod_base (r n : Int) : ∀ i : Nat, (r % n) ^ i % n = r ^ i % n
  | 0 => by rw [Int.pow_zero, Int.pow_zero]
  | i + 1 => by
    rw [Int.pow_succ, Int.pow_succ, Int.mul_emod, pow_mod_base r n i, Int.emod_emod_of_dvd _ (Int.dvd_refl n), ← Int.mul_emod]
/-- what is told of a part: its mark, or that it is open -/
def DE (op : Prop) (m len : Int) (e : V) (G : Hp) : Prop := (¬ op ∧ e = .int m) ∨ (op ∧ ∃ p, e = .ref p ∧ G p = some (.lst [.str "open", .int len]))
theorem DE.same {op : Prop} {m len : Int} {e : V} {G G' : Hp} (h : DE op m len e G) (s : Same G G') : DE op m len e G' := by
  rcases h with h | ⟨h, p, e1, e2⟩
  · exact .inl h
  · exact .inr ⟨h, p, e1, s _ _ e2⟩
theorem DE.both {K : PySem.W.Frag} {op : Prop} {m len : Int} {e e' : V} {G G' H : Hp} (h : DE op m len e G) (h' : DE op m len e' G') (s : Same G H) (s' : Same G' H) : ∃ d, Dp K H e d ∧ Dp K H e' d ∧ PyData.canLay0 d = true ∧ PyData.depth d ≤ 1 := by
  rcases h with ⟨n, rfl⟩ | ⟨o, p, rfl, hp⟩
  · rcases h' with ⟨_, rfl⟩ | ⟨o, _⟩
    · exact ⟨.int m, .int _, .int _, rfl, Nat.zero_le _⟩
    · exact absurd o n
  · rcases h' with ⟨n, _⟩ | ⟨_, p', rfl, hp'⟩
    · exact absurd o n
    · exact ⟨.list [.str "open", .int len], .lst (sq (s _ _ hp)) (.cons (.str _) (.cons (.int _) .nil)), .lst (sq (s' _ _ hp')) (.cons (.str _) (.cons (.int _) .nil)), by simp [PyData.canLay0, PyData.canLayAll0, ok_open], by simp [PyData.depth, PyData.depthAll]⟩
theorem w_eqDE {K : PySem.W.Frag} {H : Hp} {a b : Addr} {x0 x1 z0 z1 : V} {d0 d1 : PyData} {Q : VK} (ha : H a = some (.lst [x0, x1])) (hb : H b = some (.lst [z0, z1])) (h0 : Dp K H x0 d0) (h1 : Dp K H x1 d1) (g0 : Dp K H z0 d0) (g1 : Dp K H z1 d1) (c0 : PyData.canLay0 d0 = true) (c1 : PyData.canLay0 d1 = true) (e0 : PyData.depth d0 ≤ 1) (e1 : PyData.depth d1 ≤ 1) (q : Q (.bl true) H) : rEqD K (.ref a) (.ref b) H Q := by
  have lay : PyData.canLay0 (.list [d0, d1]) = true := by simp [PyData.canLay0, PyData.canLayAll0, c0, c1]
  have sh : SeqAt.shaped (.list [d0, d1]) = true := by
    unfold SeqAt.shaped
    rw [lay]
    have b : PyData.depth (.list [d0, d1]) ≤ 3 := by
      simp only [PyData.depth, PyData.depthAll, Nat.max_def]
      split <;> split <;> omega
    rw [Bool.true_and]
    exact decide_eq_true (by omega)
  refine ⟨.list [d0, d1], .list [d0, d1], .lst (sq ha) (.cons h0 (.cons h1 .nil)), .lst (sq hb) (.cons g0 (.cons g1 .nil)), sh, sh, ?_⟩
  rw [SeqAt.eqv_refl _ lay]
  exact q
section
variable {a p : Addr} {c i : Int} {H : Hp} {v : V} {xs : List V} {j : Nat} {Qs : Hp → Prop}
theorem w_setLR (pu : Purse H a c) (h : rm a H p = some (.lst xs)) (e : ixN xs.length i = some j) (q : ∀ H', Same (rm p (rm a H)) (rm p (rm a H')) → Purse H' a c → rm a H' p = some (.lst (xs.set j v)) → Qs H') : rSetL (.ref p) (.int i) v H Qs := by
  have np : p ≠ a := fun e => by rw [e, rm_self] at h; cases h
  refine w_setL (rm_le _ _ h) e (q _ ?_ ?_ ?_)
  · rw [rm_upd np, rm_updS]
    exact Same.refl _
  · obtain ⟨x1, y1, z1, e1, r1⟩ := pu
    exact ⟨x1, y1, z1, by rw [upd_ne np.symm]; exact e1, r1⟩
  · exact rm_of np upd_same
end
theorem map_int_inj {l m : List Int} (h : l.map V.int = m.map V.int) : l = m := by
  induction l generalizing m with
  | nil => cases m with
    | nil => rfl
    | cons _ _ => cases h
  | cons a t ih => cases m with
    | nil => cases h
    | cons b s =>
      rw [List.map_cons, List.map_cons] at h
      injection h with h1 h2
      injection h1 with h1
      rw [h1, ih h2]
theorem three_marks {G : Hp} {le pu pv : Addr} {x u v : List Int} {f : List Int → Int} {ys : List V} (h1 : G le = some (.lst (x.map V.int))) (h2 : G pu = some (.lst (u.map V.int))) (h3 : G pv = some (.lst (v.map V.int)))
    (h : Paired (fun (a z : V) => ∃ (q : Addr) (m : List Int), a = V.ref q ∧ G q = some (.lst (m.map V.int)) ∧ z = V.int (f m)) [V.ref le, V.ref pu, V.ref pv] ys) : ys = [.int (f x), .int (f u), .int (f v)] := by
  cases h with | cons e0 h => ?_
  cases h with | cons e1 h => ?_
  cases h with | cons e2 h => ?_
  cases h
  obtain ⟨q, m, a1, a2, rfl⟩ := e0
  injection a1 with a1
  rw [← a1, h1] at a2
  injection a2 with a2
  injection a2 with a2
  obtain ⟨q', m', b1, b2, rfl⟩ := e1
  injection b1 with b1
  rw [← b1, h2] at b2
  injection b2 with b2
  injection b2 with b2
  obtain ⟨q'', m'', c1, c2, rfl⟩ := e2
  injection c1 with c1
  rw [← c1, h3] at c2
  injection c2 with c2
  injection c2 with c2
  rw [map_int_inj a2, map_int_inj b2, map_int_inj c2]
theorem two_told {R : Nat → V → Prop} {ys : List V} (h : Paired (fun (x z : V) => ∃ k : Nat, x = V.int (0 + (k : Int)) ∧ R k z) ((List.range 2).map fun i : Nat => V.int (0 + (i : Int))) ys) : ∃ z0 z1, ys = [z0, z1] ∧ R 0 z0 ∧ R 1 z1 := by
  rw [show (List.range 2).map (fun i : Nat => V.int (0 + (i : Int))) = [V.int (0 + ((0 : Nat) : Int)), V.int (0 + ((1 : Nat) : Int))] from rfl] at h
  cases h with | cons e0 h => ?_
  cases h with | cons e1 h => ?_
  cases h
  obtain ⟨k0, a0, b0⟩ := e0
  obtain ⟨k1, a1, b1⟩ := e1
  injection a0 with a0
  injection a1 with a1
  have h0 : k0 = 0 := by omega
  have h1 : k1 = 1 := by omega
  subst h0
  subst h1
  exact ⟨_, _, rfl, b0, b1⟩

end Bc
namespace Bc
open PySem PySem.Spec PyProof.Rows L2
/-! ### a try with several clauses, with a name and without -/
/-- a clause: its class, the slot of its name if it has one, its suite's reading -/
structure Cl where
  c : Value
  i : Option Nat
  ts : Addr → Value → Option Addr → TS
def clEnds (i : Option Nat) (D : Ends) : Ends := match i with
  | none => D
  | some i => { nx := fun σ' H' => D.nx (σ'.set i none) H', rt := D.rt, bk := fun σ' H' => D.bk (σ'.set i none) H', ct := fun σ' H' => D.ct (σ'.set i none) H' }
def clSlot (i : Option Nat) (a : Addr) (σ : L2.St) : L2.St := match i with
  | none => σ
  | some i => σ.set i (some (.ref a))
/-- what the clauses wish of an error of the body -/
def wCls (K : PySem.W.Frag) (Wout : WX) (D : Ends) : List Cl → WX
  | [] => Wout
  | k :: r => fun cls d σ H => ∃ b, PySem.W.exmOne K cls k.c = some b ∧ (b = true → ∀ a, H a = none → k.ts a cls d (clEnds k.i D) (clSlot k.i a σ) H) ∧ (b = false → wCls K Wout D r cls d σ H)
inductive ClsOk (X : Cx) : List ExceptHandler → List Cl → Prop
  | nil : ClsOk X [] []
  | as {x n : Str} {c : Value} {i : Nat} {ts : Addr → Value → Option Addr → TS} {b₀ : Stmt} {suite : List Stmt} {np pos' : Pos} {hds : List ExceptHandler} {l : List Cl} (hN : X.N.Nodup) (hi : X.N[i]? = some n) (hln : X.env.kindOf n = some .local) (hc : Names X x c)
      (hsu : ∀ (a : Addr) (oe : Obj) (cls : Value) (d : Option Addr) (pn : List (Addr × Obj)), Zc cls d oe → (∃ vs, oe.data = .fields vs) → PSs (X.suite a ((a, oe) :: pn)) (b₀ :: suite) (ts a cls d)) (r : ClsOk X hds l) :
      ClsOk X (.ExceptHandler (some (.Name x np)) (some n) (b₀ :: suite) pos' :: hds) (⟨c, some i, ts⟩ :: l)
  | no {x : Str} {c : Value} {ts : Addr → Value → Option Addr → TS} {b₀ : Stmt} {suite : List Stmt} {np pos' : Pos} {hds : List ExceptHandler} {l : List Cl} (hc : Names X x c)
      (hsu : ∀ (a : Addr) (oe : Obj) (cls : Value) (d : Option Addr) (pn : List (Addr × Obj)), Zc cls d oe → (∃ vs, oe.data = .fields vs) → PSs (X.suite a ((a, oe) :: pn)) (b₀ :: suite) (ts a cls d)) (r : ClsOk X hds l) :
      ClsOk X (.ExceptHandler (some (.Name x np)) none (b₀ :: suite) pos' :: hds) (⟨c, none, ts⟩ :: l)
section
variable {X : Cx} {body : List Stmt} {h₀ : ExceptHandler} {hds : List ExceptHandler} {l : List Cl} {pos : Pos} {tb : WX → TS} {Wout : WX}
theorem ps_try_cls (hs : X.stack = X.env :: X.outer) (hf : X.env.frame = some X.env.locals) (tk : Takes X Wout)
    (hb : ∀ (W : WX) (pn : List (Addr × Obj)) (xe : Value → Shared → Prop), Takes (X.tr pn xe) W → PassesOwn (model X.prog X.w) X.A X.env xe → PSs (X.tr pn xe) body (tb W))
    (hh : ClsOk X (h₀ :: hds) l) : PS X (.Try body (h₀ :: hds) [] [] pos) (fun D σ H => tb (wCls X.K Wout D l) D σ H) := by
  refine ⟨fun pins s σ H D I h => ?_⟩
  have ok := I.ok
  have hfr : X.A.frames = some (X.env :: X.outer) := by rw [ok.frames, hs]
  refine wpAny_Try_except ?_
  refine wpAny_mono ((hb (wCls X.K Wout D l) (X.pn ++ pins) (fun e s₁ => wpAny (model X.prog X.w) X.A (noteFrame e X.env) (fun _ s₂ => wpAny (model X.prog X.w) X.A (setFlight e none) (fun _ s₃ =>
    wpAny (model X.prog X.w) X.A (handleBy e X.env (h₀ :: hds)) (SP X pins D) X.xe s₃) X.xe s₂) X.xe s₁) (fun u s' xx => ?_) PassesOwn.looking).run [] s σ H D (I.toTry _) h) (fun f s1 hsp => ?_) (fun e s1 he => he)
  · obtain ⟨a, B, sI, pins', σ', H', cls, d, rfl, J', nb, up, sky, na, os, ag, w⟩ := xx
    have J : Inv X pins σ' H' sI := J'.ofTry ok
    have sky' : Sky B (X.env :: X.outer) a (Zc cls d) X.env.locals s'.heap := by rw [← hs]; exact sky
    show wpAny (model X.prog X.w) X.A (noteFrame (.ref a) X.env) _ _ _
    refine Sky.land Zc.steady hfr hf sky' fun h3 fl3 up3 => ?_
    have J3 : Inv X pins σ' H' { s' with heap := h3 } := J.landed nb fl3.1 (up.trans up3) os ag
    obtain ⟨oe3, vs3, he3, hz3, hd3⟩ := fl3.there
    have nfr : a ∉ frs (X.env :: X.outer) := fun hm => by
      obtain ⟨_, o', e', hnf⟩ := fl3.2.2.1.mem hm
      rw [he3] at e'
      cases e'
      exact hnf _ hd3
    have nL : a ≠ X.env.locals := fun z => nfr (List.mem_filterMap.mpr ⟨X.env, List.mem_cons_self, by rw [hf, z]⟩)
    have nF : a ∉ X.fs := fun hm => by
      obtain ⟨e, he, q⟩ := List.mem_filterMap.mp hm
      exact nfr (List.mem_filterMap.mpr ⟨e, List.mem_cons_of_mem _ he, q⟩)
    have S3 := J3.suite he3 hd3 na nL nF
    have LT : PySem.W.Looks (model X.prog X.w) h3 (typeOf (.ref a)) cls := fun A Q E s k q => wpAny_typeOf_ref (k _ _ he3) (by rw [hz3.1]; exact q)
    have test : ∀ {x : Str} {c : Value} {np : Pos} {Q : Value → Shared → Prop} {E : Value → Shared → Prop}, Names X x c → Q c { s' with heap := h3 } → wpAny (model X.prog X.w) (X.A.mark (some (.ref a))) (eval (.Name x np) X.env) Q E { s' with heap := h3 } := fun {x c np Q E} hc q => by
      obtain ⟨hg, hdbg, hm | ⟨hm, hv, hnn⟩⟩ := hc
      · exact ld_glob (X := X.suite a ((a, oe3) :: (X.pn ++ pins))) S3 hg hm q hdbg
      · exact ld_blt (X := X.suite a ((a, oe3) :: (X.pn ++ pins))) S3 hg hm hv q hnn hdbg
    have go : ∀ {hds' : List ExceptHandler} {l' : List Cl}, ClsOk X hds' l' → wCls X.K Wout D l' cls d σ' H' →
        wpAny (model X.prog X.w) X.A (handleBy (.ref a) X.env hds') (SP X pins D) X.xe { s' with heap := h3 } := by
      intro hds' l' hk
      induction hk with
      | nil =>
        intro w
        refine wpAny_handleBy_nil ?_
        obtain ⟨k1, k2, k3, oe, vs, T, oT, ts', he, hz, hd, h1, hr⟩ := id fl3
        unfold PySem.passOn
        refine wpAny_bind (wpAny_field he hd h1 ?_)
        rw [if_neg (show ¬ ((Value.ref T == Value.none) = true) from by simp)]
        have fin : wpAny (model X.prog X.w) X.A (setFlight (.ref a) X.env.frame) (fun _ s4 => wpAny (model X.prog X.w) X.A (throw (.ref a) : Sem Flow) (SP X pins D) X.xe s4) X.xe { s' with heap := h3 } := by
          rw [hf]
          refine HandSPX.setFlight_upZ fl3 fun h4 hh4 up4 => wpAny_throw (tk _ _ ?_)
          exact ⟨a, B, sI, pins, σ', H', cls, d, rfl, J, nb, (up.trans up3).trans up4, .inr (.inr (by rw [hs]; exact hh4)), na, os, ag, w⟩
        first
          | exact wpAny_bind (wpAny_pure (wpAny_bind fin))
          | exact wpAny_bind fin
      | @as x n c i ts b₀ suite np pos' hds2 l2 hN hi hln hc hsu r ih =>
        intro w
        obtain ⟨b, hb1, hyes, hno⟩ := w
        refine wpAny_handleBy_cons (codeAny_handlers_test ?_) (by intro q; cases q)
        refine test hc ((PySem.W.exm_one (M := model X.prog X.w) (J3.kIn) LT hb1).here ?_)
        cases b with
        | true =>
          refine codeAny_handlers_suite_as ?_
          refine HandSPX.lands_againZ fl3 fun h4 fl4 up4 => ?_
          have J4 : Inv X pins σ' H' { s' with heap := h4 } := J.landed nb fl4.1 ((up.trans up3).trans up4) os ag
          obtain ⟨oe4, vs4, he4, hz4, hd4⟩ := fl4.there
          have S4 := J4.suite he4 hd4 na nL nF
          refine store_ok (X := X.suite a ((a, oe4) :: (X.pn ++ pins))) (v := .ref a) S4 hN hi (.inl hln) rfl (fun s5 S5 => ?_) (.inr hln)
          refine wpAny_mono ((hsu a oe4 cls d (X.pn ++ pins) hz4 ⟨_, hd4⟩).run [] s5 _ H' _ S5 (hyes rfl a na)) (fun f s6 hsp => ?_) (fun _ _ z => False.elim z)
          have end_ : ∀ {σ6 : L2.St} {H6 : Hp} {Q : Shared → Prop}, Inv (X.suite a ((a, oe4) :: (X.pn ++ pins))) [] σ6 H6 s6 → (∀ s7, Inv X pins (σ6.set i none) H6 s7 → Q s7) →
              wpAny (model X.prog X.w) X.A (do bindName X.env n .none; unbindBehindTheSuite X.env n pos') (fun _ s7 => Q s7) X.xe s6 := fun {σ6 H6 Q} S6 hq => gone_ok (S6.unsuite ok) hN hi hln hq
          cases f with
          | next =>
            obtain ⟨σ6, H6, S6, q6⟩ := hsp
            exact end_ S6 fun s7 J7 => ⟨_, _, J7, q6⟩
          | brk =>
            obtain ⟨σ6, H6, S6, q6⟩ := hsp
            exact end_ S6 fun s7 J7 => ⟨_, _, J7, q6⟩
          | cont =>
            obtain ⟨σ6, H6, S6, q6⟩ := hsp
            exact end_ S6 fun s7 J7 => ⟨_, _, J7, q6⟩
          | ret u =>
            obtain ⟨v6, σ6, H6, S6, r6, q6⟩ := hsp
            exact end_ S6 fun s7 J7 => ⟨_, _, _, J7, r6, q6⟩
        | false =>
          show wpAny _ X.A (handleBy (.ref a) X.env hds2) _ _ _
          exact ih (hno rfl)
      | @no x c ts b₀ suite np pos' hds2 l2 hc hsu r ih =>
        intro w
        obtain ⟨b, hb1, hyes, hno⟩ := w
        refine wpAny_handleBy_cons (codeAny_handlers_test ?_) (by intro q; cases q)
        refine test hc ((PySem.W.exm_one (M := model X.prog X.w) (J3.kIn) LT hb1).here ?_)
        cases b with
        | true =>
          refine codeAny_handlers_suite ?_
          refine HandSPX.lands_againZ fl3 fun h4 fl4 up4 => ?_
          have J4 : Inv X pins σ' H' { s' with heap := h4 } := J.landed nb fl4.1 ((up.trans up3).trans up4) os ag
          obtain ⟨oe4, vs4, he4, hz4, hd4⟩ := fl4.there
          have S4 := J4.suite he4 hd4 na nL nF
          refine wpAny_mono ((hsu a oe4 cls d (X.pn ++ pins) hz4 ⟨_, hd4⟩).run [] _ _ H' _ S4 (hyes rfl a na)) (fun f s6 hsp => ?_) (fun _ _ z => False.elim z)
          cases f with
          | next =>
            obtain ⟨σ6, H6, S6, q6⟩ := hsp
            exact ⟨_, _, S6.unsuite ok, q6⟩
          | brk =>
            obtain ⟨σ6, H6, S6, q6⟩ := hsp
            exact ⟨_, _, S6.unsuite ok, q6⟩
          | cont =>
            obtain ⟨σ6, H6, S6, q6⟩ := hsp
            exact ⟨_, _, S6.unsuite ok, q6⟩
          | ret u =>
            obtain ⟨v6, σ6, H6, S6, r6, q6⟩ := hsp
            exact ⟨_, _, _, S6.unsuite ok, r6, q6⟩
        | false =>
          show wpAny _ X.A (handleBy (.ref a) X.env hds2) _ _ _
          exact ih (hno rfl)
    exact go hh w
  · cases f with
    | next =>
      obtain ⟨σ', H', J', q⟩ := hsp
      exact wpAny_execs_nil ⟨σ', H', J'.ofTry ok, q⟩
    | brk =>
      obtain ⟨σ', H', J', q⟩ := hsp
      exact ⟨σ', H', J'.ofTry ok, q⟩
    | cont =>
      obtain ⟨σ', H', J', q⟩ := hsp
      exact ⟨σ', H', J'.ofTry ok, q⟩
    | ret u =>
      obtain ⟨v, σ', H', J', r, q⟩ := hsp
      exact ⟨v, σ', H', J'.ofTry ok, r, q⟩
end
section
variable {K : PySem.W.Frag} {W : WX} {D : Ends} {c cls : Value} {i : Nat} {ts : Addr → Value → Option Addr → TS} {r : List Cl} {d : Option Addr} {σ : L2.St} {H : Hp}
theorem w_clsA (te : PySem.W.exmOne K cls c = some true) (q : ∀ a, H a = none → ts a cls d { nx := fun σ' H' => D.nx (σ'.set i none) H', rt := D.rt, bk := fun σ' H' => D.bk (σ'.set i none) H', ct := fun σ' H' => D.ct (σ'.set i none) H' } (σ.set i (some (.ref a))) H) :
    wCls K W D (⟨c, some i, ts⟩ :: r) cls d σ H := ⟨true, te, fun _ => q, fun z => by cases z⟩
theorem w_clsN (te : PySem.W.exmOne K cls c = some true) (q : ∀ a, H a = none → ts a cls d D σ H) : wCls K W D (⟨c, none, ts⟩ :: r) cls d σ H := ⟨true, te, fun _ => q, fun z => by cases z⟩
theorem w_cls0 {k : Cl} (te : PySem.W.exmOne K cls k.c = some false) (q : wCls K W D r cls d σ H) : wCls K W D (k :: r) cls d σ H := ⟨false, te, (fun z => by cases z), fun _ => q⟩
end

end Bc
namespace Bc
open PySem PySem.Spec PyProof.Rows L2
/-! ### == of lists with the same things in them -/
def plainV : V → Bool
  | .byt _ => false
  | .flt _ => false
  | _ => true
def Alk (K : PySem.W.Frag) (H : Hp) : Nat → V → V → Prop
  | 0, x, y => x = y ∧ plainV x = true
  | n + 1, x, y => (x = y ∧ plainV x = true) ∨ ∃ p q xs ys, x = .ref p ∧ y = .ref q ∧ SqL K H p xs ∧ SqL K H q ys ∧ Paired (Alk K H n) xs ys
theorem eq_self {x : V} {v u : Value} {A : Around} {s : Shared} (h : plainV x = true) (r : RelV x v) (r' : RelV x u) : PySem.SeqAt.EqAt A s v u true := by
  cases x with
  | non => cases r; cases r'; exact PySem.SeqAt.EqAt.same _
  | bl b => cases r; cases r'; exact PySem.SeqAt.EqAt.same _
  | int i =>
    obtain ⟨t, rfl⟩ := r
    obtain ⟨t', rfl⟩ := r'
    have := PySem.SeqAt.EqAt.int_int (A := A) (s := s) i t i t'
    rwa [beq_self_eq_true] at this
  | str z =>
    obtain ⟨t, rfl⟩ := r
    obtain ⟨t', rfl⟩ := r'
    have := PySem.SeqAt.EqAt.str_str (A := A) (s := s) z t z t'
    rwa [beq_self_eq_true] at this
  | byt b => cases h
  | flt b => cases h
  | ref a => cases r; cases r'; exact PySem.SeqAt.EqAt.same _
  | ty n => cases r; cases r'; exact PySem.SeqAt.EqAt.same _
section
variable {X : Cx} {pins : List (Addr × Obj)} {σ : L2.St} {H : Hp} {s : Shared}
theorem paired_at {α β : Type} {F : α → β → Prop} : ∀ {l : List α} {m : List β}, Paired F l m → ∀ j (h1 : j < l.length) (h2 : j < m.length), F l[j] m[j]
  | _, _, .cons h _, 0, _, _ => h
  | _, _, .cons _ r, j + 1, h1, h2 => paired_at r j (Nat.lt_of_succ_lt_succ h1) (Nat.lt_of_succ_lt_succ h2)
theorem rc_lists {F : V → V → Prop} {A : Around} {p q : Addr} {xs ys : List V} (I : Inv X pins σ H s) (hx : SqL X.K H p xs) (hy : SqL X.K H q ys) (hp : Paired F xs ys) (hu : A.units < cLine)
    (hF : ∀ x y v u, F x y → RelV x v → RelV y u → PySem.SeqAt.EqAt A.in1 s v u true) : PySem.SeqAt.RcAt A s (.ref p) (.ref q) true := by
  obtain ⟨is, r1, ⟨o1, n1, e1, c1, _, d1⟩, _⟩ := I.list hx
  obtain ⟨js, r2, ⟨o2, n2, e2, c2, _, d2⟩, _⟩ := I.list hy
  have l0 := hp.length
  have l1 := r1.length
  have l2 := r2.length
  have h := PySem.SeqAt.RcAt.lists (A := A) (e := fun _ => true) ⟨o1, e1, c1, n1, d1⟩ ⟨o2, e2, c2, n2, d2⟩ (by simp only [List.size_toArray]; omega) hu (fun j h1 h2 => by
    simp only [List.size_toArray] at h1 h2
    simp only [List.getElem_toArray]
    exact hF _ _ _ _ (paired_at hp j (by omega) (by omega)) (paired_at r1 j (by omega) h1) (paired_at r2 j (by omega) h2))
  rwa [show ((List.range is.toArray.size).all fun _ => true) = true from List.all_eq_true.mpr fun _ _ => rfl] at h
theorem Alk.eq (I : Inv X pins σ H s) : ∀ (n : Nat) (A : Around) (x y : V) (v u : Value), Alk X.K H n x y → RelV x v → RelV y u → A.units + n < cLine → PySem.SeqAt.EqAt A s v u true
  | 0, _, _, _, _, _, ⟨e, h⟩, r, r', _ => by subst e; exact eq_self h r r'
  | n + 1, A, _, _, _, _, .inl ⟨e, h⟩, r, r', _ => by subst e; exact eq_self h r r'
  | n + 1, A, _, _, _, _, .inr ⟨p, q, xs, ys, ex, ey, hx, hy, hp⟩, r, r', hu => by
    subst ex
    subst ey
    cases r
    cases r'
    by_cases hpq : p = q
    · subst hpq
      exact PySem.SeqAt.EqAt.same _
    · exact PySem.SeqAt.EqAt.of_refs hpq (rc_lists I hx hy hp (by omega) fun x y v u h r r' => Alk.eq I n A.in1 x y v u h r r' (by show A.units + 1 + n < cLine; omega))
def rEqA (K : PySem.W.Frag) : R2 := fun x y H Q => ∃ n p q xs ys, x = .ref p ∧ y = .ref q ∧ n ≤ 50 ∧ SqL K H p xs ∧ SqL K H q ys ∧ Paired (Alk K H n) xs ys ∧ Q (.bl true) H
theorem op_eqA (hu : X.A.units + 64 < cLine) : OpR X (compareOp .Eq) (rEqA X.K) := by
  intro pins s σ H x y v u Q I rx ry h
  obtain ⟨n, p, q, xs, ys, rfl, rfl, hn, hx, hy, hp, k⟩ := h
  cases rx
  cases ry
  exact rc_lists I hx hy hp (by omega) (fun x y v u h r r' => Alk.eq I n X.A.in1 x y v u h r r' (by show X.A.units + 1 + n < cLine; omega)) X.prog X.w _ _ ⟨.bl true, H, I, rfl, k⟩
end

end Bc
namespace Bc
open PySem PySem.Spec PyProof.Rows L2
/-! ### plain shifts, refused things -/
def spReqOneX (K : PySem.W.Frag) (c : CA) (Ci : Addr) : Sp := fun vs H Q E => ∃ (v : V) (t : Value) (b : Bool), vs = [v] ∧ TyX K H v t ∧ PySem.W.kitOne K t (.ref c.wy) = some b ∧ (b = true → Q .non H) ∧
  (b = false → ∀ d H', H d = none → Same H H' → H' d = some (.xd [("thing", v)]) → E (.ref Ci) (some d) H')
def spPlainX (K : PySem.W.Frag) (c : CA) (Ci : Addr) : Sp := fun vs H Q E => ∃ (v : V) (t : Value) (b : Bool), vs = [v] ∧ TyX K H v t ∧ PySem.W.kitOne K t (.ref c.wy) = some b ∧
  (b = true → ∃ (x : Addr) (r : Int) (ps : List (Int × Int)) (y : Sty), v = .ref x ∧ WayAt c H x r ps y ∧ Q (.int (plainS y r (num ps))) H) ∧
  (b = false → ∀ d H', H d = none → Same H H' → H' d = some (.xd [("thing", v)]) → E (.ref Ci) (some d) H')
/-- what is no way -/
structure NoW (K : PySem.W.Frag) (c : CA) : Prop where
  non : PySem.W.kitOne K (.type "NoneType") (.ref c.wy) = some false
  int : PySem.W.kitOne K (.type "int") (.ref c.wy) = some false
  bl : PySem.W.kitOne K (.type "bool") (.ref c.wy) = some false
  str : PySem.W.kitOne K (.type "str") (.ref c.wy) = some false
  lst : PySem.W.kitOne K (.type "list") (.ref c.wy) = some false
  dct : PySem.W.kitOne K (.type "dict") (.ref c.wy) = some false
  md : PySem.W.kitOne K (.ref c.md) (.ref c.wy) = some false
theorem w_dnew {σ : L2.St} {H : Hp} {Q : VK} (q : ∀ p, H p = none → atV Q (.ref p) (upd H p (.dK []))) : tDNewK σ H Q := q
theorem w_isB {a b : Bool} {H : Hp} {Q : VK} (q : Q (.bl (decide (a = b))) H) : rIsB (.bl a) (.bl b) H Q := ⟨a, b, rfl, rfl, q⟩
/-! ### drawn ways, things that are no ways -/
def spSome : Sp := fun vs H Q _ => ∃ (a : Addr) (c : Int), vs = [.ref a] ∧ c < 2 ^ 48 ∧ Purse H a c ∧
  ∀ (l : Addr) (H' : Hp) (ps : List (Int × Int)), Same (rm a H) (rm a H') → Purse H' a (c + 1) → PrL (rm a H') l ps → Asc 0 ps → Small ps → (num ps).natAbs < 2 ^ 200 → Q (.ref l) H'
def spDrawn (ca : CA) : Sp := fun vs H Q _ => ∃ (a : Addr) (c : Int), vs = [.ref a] ∧ c < 2 ^ 47 ∧ Purse H a c ∧
  ∀ (t x g : Addr) (H' : Hp) (b : Int) (ps : List (Int × Int)) (y : Sty), Same (rm a H) (rm a H') → Purse H' a (c + 100) → rm a H' t = some (.tup [.ref x, .ref g]) → WayAt ca (rm a H') x b ps y → rm a H' g = some (.lst [.bl y.low, .int y.shift, .bl y.lead]) → (num ps).natAbs < 2 ^ 200 → y.shift.natAbs < 10 ^ 31 → Q (.ref t) H'
def spNoWay (K : PySem.W.Frag) (c : CA) : Sp := fun vs H Q _ => ∃ (v : V) (t : Value), vs = [v] ∧ TyX K H v t ∧ PySem.W.kitOne K t (.ref c.wy) = some false ∧ ∀ l H', H l = none → Same H H' → H' l = some (.lst [v]) → Q (.ref l) H'
theorem use_plainx {K : PySem.W.Frag} {mg : Str → Option Value} {c : CA} {Ci : Addr} {H : Hp} {Q : VK} {E : XK} {x : Addr} {b : Int} {ps : List (Int × Int)} {y : Sty} (X : Kx K mg c) (h : WayAt c H x b ps y) (q : Q (.int (plainS y b (num ps))) H) : spPlainX K c Ci [.ref x] H Q E := by
  obtain ⟨dx, m, k, hx, r⟩ := id h
  exact ⟨.ref x, _, true, rfl, X.wy.ty hx, kit_own, fun _ => ⟨x, b, ps, y, rfl, h, q⟩, fun z => by cases z⟩
theorem kit_no {K : PySem.W.Frag} {t : Value} {C : Addr} (ne : (t == .ref C) = false) (i : PySem.W.isClsIn K C = true) (ty : PySem.W.typeIn K (.ref C) = some (.type "type")) (s : PySem.W.subIn K t (.ref C) = some false) : PySem.W.kitOne K t (.ref C) = some false := by
  have i' : (PySem.W.clsIn K C).isSome = true := i
  unfold PySem.W.kitOne PySem.W.kitCls
  simp only [ne, i', ty, s, BEq.rfl, Bool.and_self, if_true, Bool.false_eq_true, if_false]
theorem ref_no {K : PySem.W.Frag} {B C : Addr} (s : PySem.W.subIn K (.ref B) (.ref C) = some false) (s2 : PySem.W.subIn K (.ref C) (.ref C) = some true) : (Value.ref B == Value.ref C) = false := by
  cases h : (Value.ref B == Value.ref C) with
  | false => rfl
  | true =>
    have e : Value.ref B = Value.ref C := by simpa using h
    rw [e, s2] at s
    cases s
theorem exm_no {K : PySem.W.Frag} {B C : Addr} (b : PySem.W.subIn K (.ref C) (.type "BaseException") = some true) (i : PySem.W.isClsIn K C = true) (t : PySem.W.typeIn K (.ref C) = some (.type "type")) (s : PySem.W.subIn K (.ref B) (.ref C) = some false) : PySem.W.exmOne K (.ref B) (.ref C) = some false := by
  have i' : (PySem.W.clsIn K C).isSome = true := i
  unfold PySem.W.exmOne PySem.W.kitCls
  simp only [b, i', t, s, BEq.rfl, Bool.and_self, if_true]

end Bc
namespace Bc
open PySem PySem.Spec PyProof.Rows L2
/-! ### defs that write things as strings: promised where no repr is under way -/
structure FnG (P : Program) (w : World) (K : PySem.W.Frag) (mg : Str → Option Value) (base : Heap) (k : Nat) (f : Addr) (fd : FuncData) (ps : List Str) (sp : Sp) : Prop where
  ln : ∀ vs H Q E, sp vs H Q E → vs.length = ps.length
  go : ∀ A : Around, A.guards = some [] → Room k A → ∀ (o : List Env) (s : Shared) (H : Hp) (as : Args) (us : List Value) (vs : List V) (Q : VK) (E : XK), Env0 P w K mg base A o s H → BindsTo s fd as (ps.zip us) → Vals vs us → sp vs H Q E →
    codeAny (model P w) A (.call (.ref f) as) (CR L2.CX0 o P w H s Q E) s
section
variable {P : Program} {w : World} {K : PySem.W.Frag} {mg mb : Str → Option Value} {base : Heap} {k : Nat} {f : Addr} {fd : FuncData} {x qual : Str} {st : Stmt} {N ps : List Str} {sp : Sp}
theorem okG (F : L2.Fun K x qual st f fd) (S : FnScope N ps (defScope st)) (ln : ∀ vs H Q E, sp vs H Q E → vs.length = ps.length)
    (hb : ∀ (cv : Value) (A : Around) (o : List Env) (s : Shared) (H : Hp) (vs : List V) (Q : VK) (E : XK), Room k (A.deeper (envOfC qual (defScope st) s.heap.objs.size f cv)) → (A.deeper (envOfC qual (defScope st) s.heap.objs.size f cv)).guards = some [] → sp vs H Q E →
      ∃ t, PSs (cxOf CX0 P w K mg base N qual (defScope st) f cv A o s H E).nox (defBody st) t ∧ t { nx := fun _ G => Q .non G, rt := Q } (start N vs) H) : FnG P w K mg base (k + 1) f fd ps sp := by
  obtain ⟨_, _, _, _, _, _, cv, _, _, rfl, look, code⟩ := F.ex
  refine ⟨ln, fun A hA room o s H as us vs Q E e0 bd rv q => ?_⟩
  have there : ∀ b ob, base.get? b = some ob → s.heap.get? b = some ob := fun b ob e => (e0.bs b ob e).1
  have kin : K.In s.heap := e0.mod.kin.keeps there
  obtain ⟨t, ht, hq⟩ := hb cv A o s H vs Q E (room.deeper _) hA q
  refine codeAny_call_function room.depth (kin _ _ look) rfl S.co S.gen rfl (PySem.W.codeRec_of kin code) (bd _ _ _ _ (wpAny_newFunctionEnv_cells S.kind ?_ fun en he s1 ic => ?_))
  · rintro ⟨n, v⟩ hy
    exact (S.par n (List.of_mem_zip hy).1).imp id fun z => ⟨z, PySem.W.cellsFrom_some _ _ _ (.inl z)⟩
  · subst he
    refine ⟨(e0.mod.nolimit.keeps there).keeps ic.toInCall.keep, codeAny_func (wpAny_mono (ht.nox.run [] s1 (start N vs) H _ (inv_start S room.hd e0 (ln _ _ _ _ q) rv ic) hq) ?_ fun _ _ z => z)⟩
    rintro (_ | _ | _ | u) s' hs
    · obtain ⟨σ', H', J, q'⟩ := hs
      exact ⟨V.non, H', J.os, J.bare, J.base, J.hok, rfl, q'⟩
    · exact hs.elim fun _ ⟨_, _, z⟩ => z.elim
    · exact hs.elim fun _ ⟨_, _, z⟩ => z.elim
    · obtain ⟨v, σ', H', J, rv', q'⟩ := hs
      exact ⟨v, H', J.os, J.bare, J.base, J.hok, rv', q'⟩
/-- a def that is called by its name -/
structure CalG (P : Program) (w : World) (K : PySem.W.Frag) (mg : Str → Option Value) (base : Heap) (k : Nat) (x : Str) (sp : Sp) : Prop where
  ex : ∃ (f : Addr) (fd : FuncData) (ps : List Str), FnG P w K mg base k f fd ps sp ∧ mg x = some (.ref f) ∧ PySem.W.keepIn K (.ref f) = true ∧ Binds K fd ps []
theorem Dn.calG (F : Dn K mg x st ps) (S : FnScope N ps (defScope st)) (ln : ∀ vs H Q E, sp vs H Q E → vs.length = ps.length)
    (hb : ∀ (f : Addr) (cv : Value) (A : Around) (o : List Env) (s : Shared) (H : Hp) (vs : List V) (Q : VK) (E : XK), Room k (A.deeper (envOfC x (defScope st) s.heap.objs.size f cv)) → (A.deeper (envOfC x (defScope st) s.heap.objs.size f cv)).guards = some [] → sp vs H Q E →
      ∃ t, PSs (cxOf CX0 P w K mg base N x (defScope st) f cv A o s H E).nox (defBody st) t ∧ t { nx := fun _ G => Q .non G, rt := Q } (start N vs) H) : CalG P w K mg base (k + 1) x sp := by
  obtain ⟨f, fd, F1, m, b⟩ := F.ex
  exact ⟨f, fd, ps, okG F1 S ln (fun cv A o s H vs Q E hr hA h => hb f cv A o s H vs Q E hr hA h), m, F1.kp, b⟩
end
section
variable {X : Cx} {k j : Nat} {x : Str} {sp : Sp} {e : Expr} {es : List Expr} {t : TA} {p pos : Pos}
theorem pe_cG (c : CalG X.prog X.w X.K X.mg X.base k x sp) (hr : Room j X.A) (hk : k ≤ j) (hA : X.A.guards = some []) (hg : Gl X x) (ha : PA X (e :: es) t) (hdb : (x == ("__debug__" : Str)) = false := by decide)
    (he : starEach (e :: es) X.env = (false, eval e X.env) :: starEach es X.env := by rfl) (hpl : (backTo pos (starEach es X.env)).any (·.1) = false := by rfl) : PE X (.Call (.Name x p) (e :: es) [] pos) (tCall sp [] L2.E0 t) := by
  obtain ⟨f, fd, ps, F, hm, kp, hb⟩ := c.ex
  refine ⟨fun pins s σ H Q I h => wpAny_Call_Name_kw (ld_glob I hg hm (PySem.W.callWith_K (h₀ := X.base) I.ok.mod.kin kp (thn (ha.run pos pins s σ H _ I h) ?_) he hpl) hdb)⟩
  rintro us s1 ⟨vs, H1, I1, r, q⟩
  have r2 : Vals (vs ++ []) (us ++ []) := r.append .nil
  refine ⟨I1.kIn, wpAny_call (codeAny_mono (F.go X.A hA (hr.mono hk) X.stack s1 H1 ⟨us, []⟩ (us ++ []) (vs ++ []) Q L2.E0 I1.env0 (hb s1 us I1.kIn (r2.length.symm.trans (F.ln _ _ _ _ q))) r2 q) ?_)⟩
  rintro (er | fl) s' hq
  · exact hq.elim
  · cases fl with
    | ret u => exact I1.after hq
    | next => exact hq.elim
    | brk => exact hq.elim
    | cont => exact hq.elim
/-- str of a bool -/
def rStrB : List V → Hp → VK → Prop := fun xs H Q => ∃ b, xs = [.bl b] ∧ Q (.str (if b = true then "True" else "False")) H
theorem cStrB : CallR X (.type "str") rStrB := by
  intro pins s σ H xs us Q I r h
  obtain ⟨b, rfl, q⟩ := h
  obtain ⟨u, rfl, r1⟩ := vals1 r
  cases r1
  exact PySem.P.str_of_bool ⟨.str _, H, I.tok _, ⟨_, by cases b <;> rfl⟩, q⟩
/-- str of a list or tuple of plain data -/
def rStrD (K : PySem.W.Frag) : List V → Hp → VK → Prop := fun xs H Q => ∃ (a : Addr) (d : PyData), xs = [.ref a] ∧ Dp K H (.ref a) d ∧ d.showable = true ∧ d.depth ≤ 50 ∧ d.hasDict = false ∧ d.shown.length ≤ sizeLine ∧ Q (.str d.shown) H
theorem cStrD (hA : X.A.guards = some []) (hu : X.A.units + 64 < cLine) : CallR X (.type "str") (rStrD X.K) := by
  intro pins s σ H xs us Q I r h
  obtain ⟨a, d, rfl, hd, hs, hp, hn, hz, q⟩ := h
  obtain ⟨u, rfl, r1⟩ := vals1 r
  cases r1
  obtain ⟨as, rd⟩ := Dp.reads I d _ _ hd rfl
  exact PySem.str_of_reads rd hs (PyData.noDict_hsm hn) hA (by omega) (fun _ _ z => z) (fun h' u tk kp => ⟨.str _, H, I.kept kp, ⟨_, rfl⟩, q⟩) hz
end
/-! the law itself -/
section
variable {P : Program} {w : World} {K : PySem.W.Frag} {mg mb : Str → Option Value} {k : Nat} {fa a : Addr} {fd : FuncData} {x : Str} {sp : Sp} {s₁ : Shared} {vs : List Value} {ns : List Int}
theorem lawG (KX : K.In s₁.heap) (hns : s₁.heap.Ns mainGlobals mg) (hb : s₁.heap.Ns builtinsNs mb) (hbb : ∀ y : Str, y ≠ "__name__" → mb y = bootBuiltins y) (hlim : s₁.heap.NoLimit) (hg : s₁.gens = #[])
    (ha : s₁.heap.get? a = some { cls := .type "list", data := .seq vs.toArray }) (hi : IntsAre vs ns) (hl : ns.length ≤ sizeLine) (hr : Room k callerA) (F : ∀ bs : Heap, K.In bs → bs.Ns mainGlobals mg → FnG P w K mg bs k fa fd [x] sp)
    (hbind : ∀ (s : Shared) (u : Value), BindsTo s fd ⟨[u], []⟩ [(x, u)]) (hsp : ∀ H : Hp, Only H → SqL K H a (ns.map V.int) → sp [.ref a] H (fun v _ => v = .bl true) fun _ _ _ => False) :
    codeAny (model P w) callerA (.call (.ref fa) ⟨[.ref a], []⟩) (fun r s' => r = .ok (.ret (.bool true)) ∧ OldK s₁.heap s'.heap ∧ s'.os = s₁.os ∧ AllBare s'.gens) s₁ := by
  -- H tracks the script alone, or nothing
  suffices hH : ∃ H : Hp, Only H ∧ SqL K H a (ns.map V.int) ∧ HOk P w H s₁.heap ∧ (∀ b, H b ≠ none → b = a) ∧ (H a ≠ none → K.lookup a = none) by
    obtain ⟨H, h1, h2, h3, h4, h5⟩ := hH
    have free : ∀ {b : Addr}, b ≠ a → H b = none := fun {b} n => Classical.byContradiction fun z => n (h4 b z)
    have keep : ∀ {b : Addr} {m : Str → Option Value}, s₁.heap.Ns b m → (hidT s₁.heap H).Ns b m := by
      rintro b m ⟨o, es, ep, e, d, r⟩
      refine ⟨o, es, ep, hidT_get e (free fun z => ?_), d, r⟩
      subst z
      rw [ha] at e
      cases e
      cases d
    have kin : K.In (hidT s₁.heap H) := fun b o e => hidT_get (KX b o e) (Classical.byContradiction fun z => by
      have z2 := h4 b z
      subst z2
      rw [h5 z] at e
      cases e)
    obtain ⟨mc, l1, l2⟩ := hlim
    refine codeAny_mono ((F _ kin (keep hns)).go callerA rfl hr [] s₁ H ⟨[.ref a], []⟩ [.ref a] [.ref a] _ _ ⟨rfl, ⟨kin, keep hns, ⟨mb, keep hb, hbb⟩, ⟨mc, keep l1, l2⟩⟩, fun _ _ e => of_hidT e, Nat.le_of_eq (hidT_size _ _), trivial, (fun _ z => by cases z), h3, .of_eq hg⟩
      (hbind s₁ (.ref a)) (.cons rfl .nil) (hsp H h1 h2)) ?_
    rintro (er | fl) s' h
    · exact h.elim
    · cases fl with
      | ret u =>
        obtain ⟨v, H', os, bare, un, ok', rv, q⟩ := h
        have q : v = .bl true := q
        subst q
        cases rv
        refine ⟨rfl, OldK.of_keep fun b o e => ?_, os, bare⟩
        rcases h1 b with z | ⟨ob, ys, z⟩
        · exact un.keep b o e z (by simp [frs]) (by simp)
        · have t1 := (h3 b _ z).1
          have t2 := (ok' b _ (un.frzs b ob _ z)).1
          rw [e] at t1
          cases t1
          exact t2
      | next => exact h.elim
      | brk => exact h.elim
      | cont => exact h.elim
  have rv := vals_ints hi
  have same : vs.toArray.size ≤ sizeLine := by
    rw [List.size_toArray, hi.length]
    exact hl
  by_cases hk : K.lookup a = none
  · refine ⟨fun b => if b = a then some (.frz { cls := .type "list", data := .seq vs.toArray } (.lst (ns.map V.int))) else none, fun b => ?_, .inl (.inr ⟨_, if_pos rfl⟩), fun b u z => ?_, fun b z => Classical.byContradiction fun n => z (if_neg n), fun _ => hk⟩
    · by_cases n : b = a
      · exact .inr ⟨_, _, if_pos n⟩
      · exact .inl (if_neg n)
    · by_cases n : b = a
      · subst n
        replace z := (if_pos rfl).symm.trans z
        cases z
        exact ⟨ha, by rw [List.length_map]; exact hl, vs, _, rv, ha⟩
      · replace z := (if_neg n).symm.trans z
        cases z
  · obtain ⟨o, ho⟩ := Option.ne_none_iff_exists'.mp hk
    have e := KX a o ho
    rw [ha] at e
    cases e
    exact ⟨fun _ => none, fun _ => .inl rfl, .inr ⟨_, vs.toArray, _, ho, rfl, rfl, rfl, same, by simpa using rv⟩, (fun b u z => by cases z), fun b z => absurd rfl z, fun z => absurd rfl z⟩
end
theorem walkG {l : PySem.W.OpenLaw} {n k : Nat} {q : Program} {loose : List Str} {XP : (Str → Option Value) → Heap → Prop} {YP : World → Heap → Prop} {d : DefRec} {K : Params → PySem.W.Frag} {sp : World → Sp} {x : Str} (hn : l.most = some n) (hz : n ≤ sizeLine) (hdf : d.params.defaults = []) (hr : Room k callerA)
    (hY : ∀ (w : World) (h : Heap), YP w h → (K w.params).In h) (F : ∀ (w : World) (mg : Str → Option Value) (fa : Addr) (h : Heap), (K w.params).In h → h.Ns mainGlobals mg → mg d.name = some (.ref fa) →
      ∃ fd : FuncData, (∀ (s : Shared) (u : Value), BindsTo s fd ⟨[u], []⟩ [(x, u)]) ∧ ∀ bs : Heap, (K w.params).In bs → bs.Ns mainGlobals mg → FnG l.prog w (K w.params) mg bs k fa fd [x] (sp w))
    (hsp : ∀ (w : World) (H : Hp) (a : Addr) (ns : List Int), ns.length ≤ n → Only H → SqL (K w.params) H a (ns.map V.int) → sp w [.ref a] H (fun v _ => v = .bl true) fun _ _ _ => False) : PySem.W.WalkO q loose XP YP l.row.toRowW d [] (fun f vs => PySem.call f vs) := by
  refine Att.attach_call hn hdf fun w s₀ s₁ mg mb fa o pm cd doc a vs ns G Y _ _ _ hmg hobj hints hlen hg => ?_
  obtain ⟨fd, hb, hF⟩ := F w mg fa _ (hY w _ Y) G.T.g hmg
  exact lawG (hY w _ Y) G.T.g G.T.b G.T.builtins G.T.nolimit hg hobj hints (Nat.le_trans hlen hz) hr hF hb fun H h1 h2 => hsp w H a ns hlen h1 h2

end Bc
namespace Bc
open PySem PySem.Spec PyProof.Rows L2
/-! ### errors without a field, made with no argument -/
structure Err0 (K : PySem.W.Frag) (mg : Str → Option Value) (x : Str) (C : Addr) : Prop where
  gC : mg x = some (.ref C)
  ex : PySem.W.excIn K C [.type "ValueError", .type "Exception", .type "BaseException", .type "object"] "ValueError.__new__" = true
  kp : PySem.W.keepIn K (.ref C) = true
  sb : PySem.W.subIn K (.ref C) (.type "BaseException") = some true
  ty : PySem.W.typeIn K (.ref C) = some (.type "type")
  te : PySem.W.exmOne K (.ref C) (.ref C) = some true
section
variable {X : Cx} {x : Str} {C : Addr} {W : WX} {p pos pos2 : Pos}
theorem pmk_none (c : Err0 X.K X.mg x C) (hg : Gl X x) (hdb : (x == ("__debug__" : Str)) = false := by decide) : PMk X (.Call (.Name x p) [] [] pos) (fun _ H Q => Q (.ref C) none H) := by
  intro pins s σ H Q I h
  refine wpAny_Call_Name_kw (ld_glob I hg c.gC (PySem.W.callWith_K0 I.kIn c.kp ?_) hdb)
  obtain ⟨_, _, _, _, _, _, _, _, _, _, _, _, _, _, _, _, _, hC, hN, hni, T⟩ := exc_obj I.kIn c.ex
  exact wpAny_call_exc_subT PySem.F.excBase_ValueError T hC hN hni (fun h' e hm => mk_of I hm (raises_own c.sb c.ty) h (I.hok.gone hm.new)) (Nat.zero_le _)
theorem ps_rse0 (c : Err0 X.K X.mg x C) (hc : X.calm = true) (tk : Takes X W) (hg : Gl X x) (hdb : (x == ("__debug__" : Str)) = false := by decide) :
    PS X (.Raise (some (.Call (.Name x p) [] [] pos)) none pos2) (fun _ σ H => W (.ref C) none σ H) := ps_raise hc tk (pmk_none c hg hdb)
end

end Bc
namespace Bc
open PySem PySem.Spec PyProof.Rows L2
/-! ### enumerate(tuple) -/
set_option maxHeartbeats 1000000 in
theorem meets_enum1 {v : Value} {o : Obj} {H : Heap → Prop} (B : Begins v o H) :
    Meets (Builtin.«enumerate.__new__» ⟨[.type "enumerate", v], []⟩) (fun _ R s => H s.heap ∧
      R (.ok (.ret (.ref (s.heap.push o).objs.size))) { s with heap := (s.heap.push o).push { cls := .type "enumerate", data := .fields #[.none, .bool false, .ref s.heap.objs.size, rawInt 0, .none, .none] } }) :=
  .of_wp fun prog w A R s h => by
    obtain ⟨hp, g, d, tk, os⟩ := s; obtain ⟨h1, h⟩ := h
    have hsub := sub_enumerate
    have q1 : ∀ {A' : Around} {E : Value → Shared → Prop} {Q : Value → Shared → Prop}, Q (.ref hp.objs.size) ⟨hp.push o, g, d, tk, os⟩ → wpAny (model prog w) A' (pyIter v) Q E ⟨hp, g, d, tk, os⟩ :=
      fun q => B.iter prog w _ _ ⟨hp, g, d, tk, os⟩ _ h1 q
    wp_walk using q1
    refine wpAny_stack_any fun st => wpAny_pure ?_
    split
    · rename_i c _ _ _ _ _
      cases (c == Value.type "enumerate")
      · wp_walk using q1
        exact ⟨_, rfl, h⟩
      · wp_walk using q1
        exact ⟨_, rfl, h⟩
    · wp_walk using q1
      exact ⟨_, rfl, h⟩
theorem enum_begins1 {prog : Program} {w : World} {A : Around} {E : Value → Shared → Prop} {s : Shared} {v : Value} {o : Obj} {H : Heap → Prop} {Q : Value → Shared → Prop} (B : Begins v o H) (h1 : H s.heap)
    (h : ∀ h', IsEnum h' (s.heap.objs.size + 1) s.heap.objs.size 0 .none → h'.get? s.heap.objs.size = some o → h'.objs.size = s.heap.objs.size + 2 →
      (∀ b o, s.heap.get? b = some o → h'.get? b = some o) → Q (.ref (s.heap.objs.size + 1)) { s with heap := h' }) :
    wpAny (model prog w) A (call (.type "enumerate") [v]) Q E s := by
  refine callType_new F.called_enumerate (by decide) (F.typeCall_enumerate_1 _) (F.newCall_enumerate_1 _) (fun obj => F.args_object_init_2 obj _) F.entry_enumerate_new
    (meets_enum1 B) ⟨h1, ?_⟩
  have hz : (s.heap.push o).objs.size = s.heap.objs.size + 1 := Heap.size_push ..
  show _ ∧ _
  rw [hz]
  have he : IsEnum ((s.heap.push o).push { cls := .type "enumerate", data := .fields #[.none, .bool false, .ref s.heap.objs.size, rawInt 0, .none, .none] }) (s.heap.objs.size + 1) s.heap.objs.size 0 .none := by
    have := Heap.get?_push_size (s.heap.push o) (o := { cls := .type "enumerate", data := .fields #[.none, .bool false, .ref s.heap.objs.size, rawInt 0, .none, .none] }) rfl
    rw [hz] at this; exact this
  refine ⟨⟨_, he, rfl⟩, h _ he (Heap.get?_push_of_some _ (Heap.get?_push_size _ B.free)) (by rw [Heap.size_push, hz]) fun b o x => Heap.get?_push_of_some _ (Heap.get?_push_of_some _ x)⟩
def Iet (K : PySem.W.Frag) (a : Addr) : It :=
  ⟨fun i H => ∃ (xs : List V) (x : V), SqT K H a xs ∧ xs[i]? = some x, fun i H v H' => ∃ T x, v = .ref T ∧ H T = none ∧ H' = upd H T (.tup [.int (i : Nat), x]) ∧ ∀ xs, SqT K H a xs → xs[i]? = some x, fun i H => ∃ xs : List V, SqT K H a xs ∧ xs.length ≤ i⟩
theorem turn_enumT {P : Program} {w : World} {K : PySem.W.Frag} {elts : List Expr} {kk : Nat} {tpos : Pos} (a e it : Addr) :
    Turn P w K (.Tuple elts kk tpos) (Iet K a) [e, it] e (fun i h => (∃ old, IsEnum h e it ((i : Nat) : Int) old) ∧ h.IsTupleIter it a i ∧ e ≠ it) where
  mem := by simp
  obj := fun i h st b hb => by
    obtain ⟨⟨old, he⟩, ⟨o, ho, hc, hd⟩, _⟩ := st
    have e' : b = e ∨ b = it := by simpa using hb
    rcases e' with z | z
    · rw [z]; exact ⟨_, he, fun v q => nomatch q⟩
    · rw [z]; exact ⟨o, ho, fun v q => by rw [hd] at q; cases q⟩
  keep := fun i h h' st k => let ⟨⟨old, he⟩, hi, hne⟩ := st; ⟨⟨old, k e (by simp) _ he⟩, hi.at fun o q => k it (by simp) o q, hne⟩
  item := by
    intro X hP hw hK hc i pins s σ H E I hf st hg
    subst hP hw hK
    obtain ⟨⟨old, he⟩, hit, hne⟩ := st
    obtain ⟨xs, x, hq, hx⟩ := hg
    obtain ⟨its, rv, p, hz⟩ := I.tuple hq
    obtain ⟨u, hu, ru⟩ := rv.get hx
    have hel : e < s.heap.objs.size := Heap.lt_size he
    have hil : it < s.heap.objs.size := by obtain ⟨_, q, _⟩ := hit; exact Heap.lt_size q
    have p' : s.heap.IsTuple a its.toArray := p
    have nea : e ≠ a := fun z => by
      obtain ⟨o, ho, hc', _⟩ := p'
      rw [← z, he] at ho
      cases ho
      exact absurd (Value.type.inj hc') (by decide)
    have nia : a ≠ it := fun z => by
      obtain ⟨o, ho, hc', _⟩ := p'
      obtain ⟨o2, ho2, hc2, _⟩ := hit
      rw [z, ho2] at ho
      cases ho
      rw [hc2] at hc'
      exact absurd (Value.type.inj hc') (by decide)
    have hlt : i < its.toArray.size := by
      have := (List.getElem?_eq_some_iff.mp hu).1
      simpa using this
    refine wpAny_pyNext_enum_itemD (Draws.tuple (A := X.A.in1) (I.ok.hd hc) it a nia its.toArray) he ⟨hit, p'⟩ hlt hne (by simp [hne, nea]) fun u' h' tk hu' ho hst' hT hsz hk => ?_
    have eu : u' = u := by
      have : its[i]? = some u' := by simpa using hu'
      rw [hu] at this
      exact (Option.some.inj this).symm
    subst eu
    refine ⟨_, rfl, wpAny_letOwnedTupleGo_enum (s := { s with heap := h', toks := tk + 1 }) ho fun h'' he' sb => ?_⟩
    have hT2 : h''.get? s.heap.objs.size = some { cls := .type "tuple", data := .seq #[.int i tk, u'] } := (sb.2 _ (Nat.ne_of_gt hel)).trans hT
    have new : ObjOk X.prog X.w (upd H s.heap.objs.size (.tup [.int (i : Nat), x])) h'' s.heap.objs.size (.tup [.int (i : Nat), x]) :=
      ⟨by show 2 ≤ sizeLine; decide, [.int i tk, u'], .cons ⟨_, rfl⟩ (.cons ru .nil), ⟨_, hT2, rfl, _, rfl⟩⟩
    have I1 : Inv X pins σ (upd H s.heap.objs.size (.tup [.int (i : Nat), x])) { s with heap := h'', toks := tk + 1 } :=
      I.turnedNew (ch := [e, it]) (fun b ob hb q => (sb.2 b (fun z => hb (by simp [z]))).trans (hk b ob (fun z => hb (by simp [z])) (fun z => hb (by simp [z])) q)) hf (Nat.le_refl _) new
    refine ⟨.ref s.heap.objs.size, _, I1, rfl, ⟨_, x, rfl, I.hok.fresh (Nat.le_refl _), rfl, fun ys hy => by rw [I.tuple_inj hy hq]; exact hx⟩, ⟨⟨u', ?_⟩, hst'.1.at fun o q => (sb.2 it (Ne.symm hne)).trans q, hne⟩, fun b hb => ?_⟩
    · have e1 : ((i + 1 : Nat) : Int) = (i : Int) + 1 := by omega
      rw [e1]; exact he'
    · have hb' : b < s.heap.objs.size := by
        have e' : b = e ∨ b = it := by simpa using hb
        rcases e' with z | z
        · rw [z]; exact hel
        · rw [z]; exact hil
      rw [upd_ne (Nat.ne_of_lt hb')]
      exact (hf b hb).1
  done := by
    intro X hP hw hK hc i pins s σ H E I hf st hg
    subst hP hw hK
    obtain ⟨⟨old, he⟩, hit, hne⟩ := st
    obtain ⟨xs, hq, hx⟩ := hg
    obtain ⟨its, rv, p, hz⟩ := I.tuple hq
    obtain ⟨f0, f1, f2, f3, f4, f5⟩ := hf it (by simp)
    have hl := rv.length
    have hT : s.TypeIs (.ref e) "enumerate" := ⟨_, he, rfl⟩
    unfold pyNext
    refine wpAny_bind (wpAny_attempt (wpAny_callSpecial?_slot (name := Str.ofString "__next__") hT F.slot_enumerate_next
      (wpAny_call_entry F.slot_enumerate_next hT F.entry_enumerate_next ?_ (F.args_enumerate_next_1 _))))
    show wpAny _ _ (field (.ref e) 2 >>= _) _ _ _
    refine wpAny_bind (wpAny_field he rfl (x := .ref it) rfl ?_)
    refine wpAny_bind (wpAny_nextOf_tuple_end (I.ok.hd hc) hit (show s.heap.IsTuple a its.toArray from p) (by simp; omega) fun h' x he' hx' => ?_)
    obtain ⟨o, ho, hc⟩ := hx'
    refine wpAny_bind (wpAny_isInstance (T := "StopIteration") (b := true) ⟨o, ho, hc⟩ isSubtype_stop ?_)
    exact wpAny_pure ⟨rfl, I.turned (t' := s.toks) (fun b o hb q => he' b o hb q) f0 f1 f3 f4 f5⟩
  self := fun A i s Q E st h => let ⟨⟨_, he⟩, _⟩ := st; wpAny_pyIter_enum he h
def iEnumT (K : PySem.W.Frag) (ta : TA) : TI := fun σ H R => ta σ H fun vs H1 => ∃ a xs, vs = [.ref a] ∧ SqT K H1 a xs ∧ R (Iet K a) H1
theorem pi_enumT {X : Cx} {e : Expr} {ta : TA} {p pos tpos : Pos} {elts : List Expr} {kk : Nat} (hg : Gl X "enumerate") (hm : X.mg "enumerate" = none) (ha : PA X [e] ta) (hs : starEach [e] X.env = [(false, eval e X.env)] := by rfl) :
    PI X (.Tuple elts kk tpos) (.Call (.Name "enumerate" p) [e] [] pos) (iEnumT X.K ta) := by
  refine ⟨fun pins s σ H R I h => ?_⟩
  refine Call_ (ld_blt I hg hm boot_enumerate (PyProof.Rows.callWith_type1 (thn (ha.run pos pins s σ H _ I h) fun us s1 ⟨vs, H1, I1, r1, q1⟩ => ?_) hs rfl))
  obtain ⟨a, xs, ex, hq, q⟩ := q1
  subst ex
  cases r1 with
  | cons r rr =>
    cases rr
    cases r
    obtain ⟨its, rv, p', hz⟩ := I1.tuple hq
    refine enum_begins1 (begins_tuple a its.toArray) p' fun h' he hit hsz hk => wpAny_pyIter_enum he ?_
    have I2 : Inv X pins σ H1 { s1 with heap := h' } := I1.kept (t' := s1.toks) hk
    refine ⟨s1.heap.objs.size + 1, [s1.heap.objs.size + 1, s1.heap.objs.size], _, _, H1, rfl, I2, turn_enumT a (s1.heap.objs.size + 1) s1.heap.objs.size, ⟨⟨.none, he⟩, ⟨_, hit, rfl, rfl⟩, Nat.succ_ne_self _⟩, fun b hb => ?_, q⟩
    have e' : b = s1.heap.objs.size + 1 ∨ b = s1.heap.objs.size := by simpa using hb
    have hle : s1.heap.objs.size ≤ b := by
      rcases e' with z | z
      · rw [z]; exact Nat.le_add_right _ _
      · rw [z]; exact Nat.le_refl _
    exact I1.fpOk hle (I1.hok.fresh hle)
theorem walk_enumT {K : PySem.W.Frag} {a : Addr} {xs : List V} : Walk (Iet K a) xs.length (fun H => SqT K H a xs) (YPair (fun i => some (.int (i : Nat))) (fun i => xs[i]?)) := by
  refine ⟨fun i _ hi q => ⟨xs, xs[i], q, by simp [hi]⟩, fun _ q => ⟨xs, q, Nat.le_refl _⟩, fun i H v H' _ q y => ?_⟩
  obtain ⟨T, x, h1, h2, h3, h4⟩ := y
  exact ⟨T, .int (i : Nat), x, h1, h2, h3, rfl, h4 xs q⟩
theorem w_enumT {K : PySem.W.Frag} {H : Hp} {a : Addr} {xs : List V} {P : Addr → Prop} (h : SqT K H a xs) (q : P a) : ∃ a' xs', [V.ref a] = [.ref a'] ∧ SqT K H a' xs' ∧ P a' := ⟨a, xs, rfl, h, q⟩

end Bc
namespace Bc
open PySem PySem.Spec PyProof.Rows L2
/-! ### != of lists with the same things in them, str of a bool -/
section
variable {X : Cx} {pins : List (Addr × Obj)} {σ : L2.St} {H : Hp} {s : Shared}
theorem rcn_lists {F : V → V → Prop} {A : Around} {p q : Addr} {xs ys : List V} (I : Inv X pins σ H s) (hx : SqL X.K H p xs) (hy : SqL X.K H q ys) (hp : Paired F xs ys) (hu : A.units < cLine)
    (hF : ∀ x y v u, F x y → RelV x v → RelV y u → PySem.SeqAt.EqAt A.in1 s v u true) : PySem.SeqAt.RcNeAt A s (.ref p) (.ref q) false := by
  obtain ⟨is, r1, ⟨o1, n1, e1, c1, _, d1⟩, _⟩ := I.list hx
  obtain ⟨js, r2, ⟨o2, n2, e2, c2, _, d2⟩, _⟩ := I.list hy
  have l0 := hp.length
  have l1 := r1.length
  have l2 := r2.length
  have h := PySem.SeqAt.RcNeAt.lists (A := A) (e := fun _ => true) ⟨o1, e1, c1, n1, d1⟩ ⟨o2, e2, c2, n2, d2⟩ (by simp only [List.size_toArray]; omega) hu (fun j h1 h2 => by
    simp only [List.size_toArray] at h1 h2
    simp only [List.getElem_toArray]
    exact hF _ _ _ _ (paired_at hp j (by omega) (by omega)) (paired_at r1 j (by omega) h1) (paired_at r2 j (by omega) h2))
  rwa [show ((List.range is.toArray.size).all fun _ => true) = true from List.all_eq_true.mpr fun _ _ => rfl] at h
def rNeA (K : PySem.W.Frag) : R2 := fun x y H Q => ∃ n p q xs ys, x = .ref p ∧ y = .ref q ∧ n ≤ 50 ∧ SqL K H p xs ∧ SqL K H q ys ∧ Paired (Alk K H n) xs ys ∧ Q (.bl false) H
theorem op_neA (hu : X.A.units + 64 < cLine) : OpR X (compareOp .NotEq) (rNeA X.K) := by
  intro pins s σ H x y v u Q I rx ry h
  obtain ⟨n, p, q, xs, ys, rfl, rfl, hn, hx, hy, hp, k⟩ := h
  cases rx
  cases ry
  exact rcn_lists I hx hy hp (by omega) (fun x y v u h r r' => Alk.eq I n X.A.in1 x y v u h r r' (by show X.A.units + 1 + n < cLine; omega)) X.prog X.w _ _ ⟨.bl false, H, I, rfl, k⟩
end
theorem w_strB {b : Bool} {H : Hp} {Q : VK} (q : Q (.str (if b = true then "True" else "False")) H) : rStrB [.bl b] H Q := ⟨b, rfl, q⟩
theorem ite_join {c : Bool} {A B : VK → Prop} {Q : VK} (R : V → Hp → Prop) (hQ : ∀ v H, R v H → Q v H) (hA : ∀ Q' : VK, (∀ v H, R v H → Q' v H) → A Q') (hB : ∀ Q' : VK, (∀ v H, R v H → Q' v H) → B Q') : if c = true then A Q else B Q := by
  cases c with
  | true => exact iteT (hA Q hQ)
  | false => exact iteF (hB Q hQ)
theorem ite_joinN {c : Bool} {T U : Ends → L2.St → Hp → Prop} {D : Ends} {σ : L2.St} {H : Hp} (R : L2.St → Hp → Prop) (rest : ∀ σ' H', R σ' H' → D.nx σ' H') (hT : ∀ N : L2.St → Hp → Prop, (∀ σ' H', R σ' H' → N σ' H') → T { D with nx := N } σ H)
    (hU : ∀ N : L2.St → Hp → Prop, (∀ σ' H', R σ' H' → N σ' H') → U { D with nx := N } σ H) : if c = true then T D σ H else U D σ H := by
  cases c with
  | true => exact iteT (hT D.nx rest)
  | false => exact iteF (hU D.nx rest)
theorem ite_joinC {c : Bool} {A B : VK → Prop} {Q : VK} (R : V → Hp → Prop) (hQ : ∀ v H, R v H → Q v H) (hA : c = true → ∀ Q' : VK, (∀ v H, R v H → Q' v H) → A Q') (hB : c = false → ∀ Q' : VK, (∀ v H, R v H → Q' v H) → B Q') : if c = true then A Q else B Q := by
  cases c with
  | true => exact iteT (hA rfl Q hQ)
  | false => exact iteF (hB rfl Q hQ)
theorem and_join {c : Bool} {A : VK → Prop} {Q : VK} {H : Hp} (R : V → Hp → Prop) (hQ : ∀ v H, R v H → Q v H) (hA : c = true → ∀ Q' : VK, (∀ v H, R v H → Q' v H) → A Q') (hB : c = false → R (.bl false) H) : if c = true then A Q else Q (.bl false) H := by
  cases c with
  | true => exact iteT (hA rfl Q hQ)
  | false => exact iteF (hQ _ _ (hB rfl))
theorem ite_joinNC {c : Bool} {T U : Ends → L2.St → Hp → Prop} {D : Ends} {σ : L2.St} {H : Hp} (R : L2.St → Hp → Prop) (rest : ∀ σ' H', R σ' H' → D.nx σ' H') (hT : c = true → ∀ N : L2.St → Hp → Prop, (∀ σ' H', R σ' H' → N σ' H') → T { D with nx := N } σ H)
    (hU : c = false → ∀ N : L2.St → Hp → Prop, (∀ σ' H', R σ' H' → N σ' H') → U { D with nx := N } σ H) : if c = true then T D σ H else U D σ H := by
  cases c with
  | true => exact iteT (hT rfl D.nx rest)
  | false => exact iteF (hU rfl D.nx rest)
theorem test_join {c : Bool} {A : (Bool → Hp → Prop) → Prop} {QT : Bool → Hp → Prop} {H : Hp} (R : Hp → Prop) (rest : ∀ H', R H' → QT false H') (hA : c = true → ∀ Q' : Bool → Hp → Prop, (∀ H', R H' → Q' false H') → A Q') (hB : c = false → R H) : if c = true then A QT else QT false H := by
  cases c with
  | true => exact iteT (hA rfl QT rest)
  | false => exact iteF (rest _ (hB rfl))
theorem w_rep {l : Addr} {k : Int} {xs : List V} {H : Hp} {Q : VK} (h : H l = some (.lst xs)) (h1 : -(2 ^ 63) ≤ k ∧ k < 2 ^ 63 ∧ xs.length * k.toNat ≤ sizeLine) (q : ∀ p, H p = none → atV Q (.ref p) (upd H p (.lst (List.replicate k.toNat xs).flatten))) : rRep (.ref l) (.int k) H Q := ⟨l, k, xs, rfl, rfl, h, h1.1, h1.2.1, h1.2.2, q⟩
theorem paired_left {α β : Type} {R : α → β → Prop} : ∀ {xs ys : List α} {ts : List β}, Paired R (xs ++ ys) ts → Paired R xs (ts.take xs.length)
  | [], _, _, _ => .nil
  | _ :: _, _, _, .cons h t => .cons h (paired_left t)
section
variable {c : TT} {tb : TS} {D : Ends} {σ : L2.St} {H : Hp}
/-- a while whose ends meet -/
theorem while_goR (Pv : L2.St → Hp → Prop) (μ : L2.St → Hp → Nat) (R : L2.St → Hp → Prop) (h0 : Pv σ H) (hs : ∀ σ H, Pv σ H → ∀ N0 : L2.St → Hp → Prop, (∀ σ' H', R σ' H' → N0 σ' H') → c σ H fun b H1 => if b = true then (∃ N : L2.St → Hp → Prop, (∀ σ' H', N σ' H' → ∃ m', m' < μ σ H ∧ (m' = μ σ' H' ∧ Pv σ' H')) ∧
      tb { D with nx := N, ct := N, bk := D.nx } σ H1) else N0 σ H1) (rest : ∀ σ' H', R σ' H' → D.nx σ' H') : tWhile c tb D σ H := while_go Pv μ h0 fun σ H h => hs σ H h D.nx rest
end

end Bc
namespace Bc
open PySem PySem.Spec PyProof.Rows L2
/-! ### ways that part: refused things, texts that show it -/
def ErrTo (E : XK) (C : Addr) (f : Str) (v : V) (H : Hp) : Prop := ∀ d H', H d = none → Same H H' → H' d = some (.xd [(f, v)]) → E (.ref C) (some d) H'
def spLikeX (c : CA) (Cu : Addr) : Sp := fun vs H Q E => ∃ (x x' : Addr) (b b' : Int) (ps ps' : List (Int × Int)) (y y' : Sty), vs = [.ref x, .ref x'] ∧ WayAt c H x b ps y ∧ WayAt c H x' b' ps' y' ∧ (y.low = y'.low → Q .non H) ∧ (y.low ≠ y'.low → E (.ref Cu) none H)
def spPartsX (K : PySem.W.Frag) (c : CA) (Ci Cu : Addr) : Sp := fun vs H Q E => ∃ v u : V, vs = [v, u] ∧
  ((∃ t, TyX K H v t ∧ PySem.W.kitOne K t (.ref c.wy) = some false ∧ ErrTo E Ci "thing" v H) ∨
   (∃ (x : Addr) (b : Int) (ps : List (Int × Int)) (y : Sty) (t : Value), v = .ref x ∧ WayAt c H x b ps y ∧ TyX K H u t ∧ PySem.W.kitOne K t (.ref c.wy) = some false ∧ ErrTo E Ci "thing" u H) ∨
   (∃ (x x' : Addr) (b b' : Int) (ps ps' : List (Int × Int)) (y y' : Sty), v = .ref x ∧ u = .ref x' ∧ WayAt c H x b ps y ∧ WayAt c H x' b' ps' y' ∧ (y.low ≠ y'.low → E (.ref Cu) none H) ∧ (y.low = y'.low → Q (.bl (rParts b (num ps) (plainS y b (num ps)) b' (num ps') (plainS y' b' (num ps')))) H)))
def spPartsLX (K : PySem.W.Frag) (c : CA) (Ci : Addr) : Sp := fun vs H Q E => ∃ v u : V, vs = [v, u] ∧
  ((∃ t, TyX K H v t ∧ PySem.W.kitOne K t (.ref c.wy) = some false ∧ ErrTo E Ci "thing" v H) ∨
   (∃ (x : Addr) (b : Int) (ps : List (Int × Int)) (y : Sty) (t : Value), v = .ref x ∧ WayAt c H x b ps y ∧ TyX K H u t ∧ PySem.W.kitOne K t (.ref c.wy) = some false ∧ ErrTo E Ci "thing" u H) ∨
   (∃ (x x' : Addr) (b b' : Int) (ps ps' : List (Int × Int)) (y y' : Sty), v = .ref x ∧ u = .ref x' ∧ WayAt c H x b ps y ∧ WayAt c H x' b' ps' y' ∧ Q (.bl (rPartsL y.low y'.low b (num ps) b' (num ps'))) H))
def spCaught (K : PySem.W.Frag) (c : CA) : Sp := fun vs H Q _ => ∃ (k : Int) (v u : V), vs = [.int k, v, u] ∧ (k = 0 ∨ k = 1) ∧
  ((∃ t, TyX K H v t ∧ PySem.W.kitOne K t (.ref c.wy) = some false ∧ ∀ l H', H l = none → Same H H' → H' l = some (.lst [.str "way", v]) → Q (.ref l) H') ∨
   (∃ (x : Addr) (b : Int) (ps : List (Int × Int)) (y : Sty) (t : Value), v = .ref x ∧ WayAt c H x b ps y ∧ TyX K H u t ∧ PySem.W.kitOne K t (.ref c.wy) = some false ∧ ∀ l H', H l = none → Same H H' → H' l = some (.lst [.str "way", u]) → Q (.ref l) H') ∨
   (∃ (x x' : Addr) (b b' : Int) (ps ps' : List (Int × Int)) (y y' : Sty), k = 0 ∧ v = .ref x ∧ u = .ref x' ∧ WayAt c H x b ps y ∧ WayAt c H x' b' ps' y' ∧ y.low ≠ y'.low ∧ ∀ l H', H l = none → Same H H' → H' l = some (.lst [.str "unlike"]) → Q (.ref l) H'))
def spNear7 (ca : CA) : Sp := fun vs H Q _ => ∃ (a x g : Addr) (b c : Int) (ps : List (Int × Int)) (y : Sty), vs = [.ref a, .ref x, .ref g] ∧ c < 2 ^ 47 ∧ Purse H a c ∧ WayAt ca (rm a H) x b ps y ∧ rm a H g = some (.lst [.bl y.low, .int y.shift, .bl y.lead]) ∧
  ∀ (x' : Addr) (b' : Int) (ps' : List (Int × Int)) (y' : Sty) (H' : Hp), Same (rm a H) (rm a H') → Purse H' a (c + 300) → WayAt ca (rm a H') x' b' ps' y' → Q (.ref x') H'
/-- a list of pairs of lists of letters -/
def Two (H : Hp) (q : List Int × List Int) (t : Addr) : Prop := ∃ p1 p2 : Addr, H t = some (.tup [.ref p1, .ref p2]) ∧ H p1 = some (.lst (q.1.map V.int)) ∧ H p2 = some (.lst (q.2.map V.int)) ∧ q.1.length ≤ 1000 ∧ q.2.length ≤ 1000
def TwL (H : Hp) (l : Addr) (qs : List (List Int × List Int)) : Prop := ∃ ts : List Addr, H l = some (.lst (ts.map V.ref)) ∧ Paired (Two H) qs ts
theorem Two.same {H H' : Hp} {q : List Int × List Int} {t : Addr} (h : Two H q t) (s : Same H H') : Two H' q t := by
  obtain ⟨p1, p2, h1, h2, h3, r⟩ := h
  exact ⟨p1, p2, s _ _ h1, s _ _ h2, s _ _ h3, r⟩
theorem TwL.same {H H' : Hp} {l : Addr} {qs : List (List Int × List Int)} (h : TwL H l qs) (s : Same H H') : TwL H' l qs := by
  obtain ⟨ts, h1, h2⟩ := h
  exact ⟨ts, s _ _ h1, paired_imp (fun _ _ z => z.same s) h2⟩
def hit (y y' : Sty) (b n b' n' : Int) (q : List Int × List Int) : Bool := rAgree y b n q.1 q.2 && !rAgree y' b' n' q.1 q.2
def spShown (c : CA) : Sp := fun vs H Q _ => ∃ (x x' l : Addr) (b b' : Int) (ps ps' : List (Int × Int)) (y y' : Sty) (qs : List (List Int × List Int)), vs = [.ref x, .ref x', .ref l] ∧ WayAt c H x b ps y ∧ WayAt c H x' b' ps' y' ∧ TwL H l qs ∧
  ∀ H', Same H H' → Q (.bl (qs.any (hit y y' b (num ps) b' (num ps')))) H'
def five (b n : Int) : List (List Int × List Int) := [([n], [0]), ([n, 0], [0, 0]), ([0, n], [0, 0]), ([1, 0], [0, b]), ([0, 1], [b, 0])]
def two (n s : Int) : List (List Int × List Int) := [([], [0 - s]), ([], [n - s])]
def spPairsOf (K : PySem.W.Frag) (c : CA) : Sp := fun vs H Q _ => ∃ (x : Addr) (b : Int) (ps : List (Int × Int)) (y : Sty), vs = [.ref x] ∧ WayAt c H x b ps y ∧
  ∀ l H', Same H H' → TwL H' l (five b (num ps) ++ two (num ps) (plainS y b (num ps))) → Q (.ref l) H'
def spDrawnR (ca : CA) : Sp := fun vs H Q _ => ∃ (a x x' : Addr) (b b' c : Int) (ps ps' : List (Int × Int)) (y y' : Sty), vs = [.ref a, .ref x, .ref x'] ∧ c < 2 ^ 47 ∧ Purse H a c ∧ WayAt ca (rm a H) x b ps y ∧ WayAt ca (rm a H) x' b' ps' y' ∧ rPartsL y.low y'.low b (num ps) b' (num ps') = true ∧
  ∀ H', Same (rm a H) (rm a H') → Purse H' a (c + 100) → Q (.bl true) H'
/-! #### the law's texts -/
theorem hv_cong {n b b' : Int} (h : (b - b') % n = 0) (cs : List Int) : n ∣ hv cs b ↔ n ∣ hv cs b' := by
  have e : b % n = b' % n := Int.emod_eq_emod_iff_emod_sub_eq_zero.mpr h
  rw [Int.dvd_iff_emod_eq_zero, Int.dvd_iff_emod_eq_zero, ← hv_mod b, ← hv_mod b', e]
theorem partsL_sound {y y' : Sty} {b n b' n' : Int} {ls ms : List Int} (h : rPartsL y.low y'.low b n b' n' = true) (hl : ls.length = ms.length) (ha : mark y b n ls = mark y b n ms) : mark y' b' n' ls = mark y' b' n' ms := by
  rw [agree_iff hl] at ha ⊢
  unfold rPartsL at h
  rw [Bool.and_eq_true, decide_eq_true_eq] at h
  have hd : n' ∣ hv (if y.low = true then (sub2 ls ms).reverse else sub2 ls ms) b := Int.dvd_trans (Int.dvd_of_emod_eq_zero h.1) ha
  have h2 := h.2
  generalize sub2 ls ms = ds at hd ⊢
  by_cases e : y.low = y'.low
  · rw [if_pos e, decide_eq_true_eq] at h2
    rw [← e]
    exact (hv_cong h2 _).mp hd
  · rw [if_neg e, decide_eq_true_eq] at h2
    obtain ⟨u, hu⟩ := Int.dvd_of_emod_eq_zero h2
    cases hy : y.low with
    | true =>
      have hy' : y'.low = false := by cases h' : y'.low with | false => rfl | true => exact absurd (hy.trans h'.symm) e
      rw [hy, if_pos rfl] at hd
      rw [hy', if_neg (by decide)]
      exact (turn_dvd (b := b') (c := b) (n := n') (u := u) (by rw [Int.mul_comm]; omega) ds).mp hd
    | false =>
      have hy' : y'.low = true := by cases h' : y'.low with | true => rfl | false => exact absurd (hy.trans h'.symm) e
      rw [hy, if_neg (by decide)] at hd
      rw [hy', if_pos rfl]
      exact (turn_dvd (b := b) (c := b') (n := n') (u := u) (by omega) ds).mpr hd
theorem hit_of {y y' : Sty} {b n b' n' : Int} {ls ms : List Int} (hl : ls.length = ms.length) (h1 : n ∣ hv (if y.low then (sub2 ls ms).reverse else sub2 ls ms) b) (h2 : ¬ n' ∣ hv (if y'.low then (sub2 ls ms).reverse else sub2 ls ms) b') : hit y y' b n b' n' (ls, ms) = true := by
  unfold hit rAgree
  rw [Bool.and_eq_true]
  refine ⟨decide_eq_true ((agree_iff hl).mpr h1), ?_⟩
  rw [decide_eq_false fun z => h2 ((agree_iff hl).mp z)]
  rfl
theorem hv1 (x b : Int) : hv [x] b = x := by simp [hv]
theorem hv2 (x z b : Int) : hv [x, z] b = x * b + z := by simp [hv]
theorem five_any {y y' : Sty} {b n b' n' : Int} : (five b n).any (hit y y' b n b' n') = !rPartsL y.low y'.low b n b' n' := by
  cases hp : rPartsL y.low y'.low b n b' n' with
  | true =>
    have no : ∀ q ∈ five b n, hit y y' b n b' n' q = false := fun q hq => by
      have hl : q.1.length = q.2.length := by
        unfold five at hq
        simp only [List.mem_cons, List.not_mem_nil, or_false] at hq
        rcases hq with rfl | rfl | rfl | rfl | rfl <;> rfl
      unfold hit rAgree
      by_cases ha : mark y b n q.1 = mark y b n q.2
      · rw [decide_eq_true ha, decide_eq_true (partsL_sound hp hl ha)]
        rfl
      · rw [decide_eq_false ha]
        rfl
    show _ = false
    rw [List.any_eq_false]
    exact fun q hq => by rw [no q hq]; decide
  | false =>
    show _ = true
    rw [List.any_eq_true]
    unfold rPartsL at hp
    by_cases h1 : n % n' = 0
    · rw [decide_eq_true h1, Bool.true_and] at hp
      have e10 : sub2 [1, 0] [0, b] = [1, -b] := by unfold sub2; simp
      have e01 : sub2 [0, 1] [b, 0] = [-b, 1] := by unfold sub2; simp
      by_cases e : y.low = y'.low
      · rw [if_pos e] at hp
        have h2 : ¬ n' ∣ b' - b := fun z => of_decide_eq_false hp (Int.emod_eq_zero_of_dvd (by have := Int.dvd_neg.mpr z; rwa [Int.neg_sub] at this))
        cases hy : y.low with
        | true =>
          refine ⟨([0, 1], [b, 0]), by unfold five; simp, hit_of rfl ?_ ?_⟩
          · rw [hy, if_pos rfl, e01]
            show n ∣ hv [1, -b] b
            rw [hv2]
            exact ⟨0, by omega⟩
          · rw [← e, hy, if_pos rfl, e01]
            show ¬ n' ∣ hv [1, -b] b'
            rw [hv2]
            exact fun z => h2 (by rwa [show b' - b = 1 * b' + -b by omega])
        | false =>
          refine ⟨([1, 0], [0, b]), by unfold five; simp, hit_of rfl ?_ ?_⟩
          · rw [hy, if_neg (by decide), e10, hv2]
            exact ⟨0, by omega⟩
          · rw [← e, hy, if_neg (by decide), e10, hv2]
            exact fun z => h2 (by rwa [show b' - b = 1 * b' + -b by omega])
      · rw [if_neg e] at hp
        have h2 : ¬ n' ∣ -b * b' + 1 := fun z => of_decide_eq_false hp (Int.emod_eq_zero_of_dvd (by
          have := Int.dvd_neg.mpr z
          rwa [show -(-b * b' + 1) = b * b' - 1 by rw [Int.neg_mul]; omega] at this))
        cases hy : y.low with
        | true =>
          have hy' : y'.low = false := by cases h' : y'.low with | false => rfl | true => exact absurd (hy.trans h'.symm) e
          refine ⟨([0, 1], [b, 0]), by unfold five; simp, hit_of rfl ?_ ?_⟩
          · rw [hy, if_pos rfl, e01]
            show n ∣ hv [1, -b] b
            rw [hv2]
            exact ⟨0, by omega⟩
          · rw [hy', if_neg (by decide), e01, hv2]
            exact h2
        | false =>
          have hy' : y'.low = true := by cases h' : y'.low with | true => rfl | false => exact absurd (hy.trans h'.symm) e
          refine ⟨([1, 0], [0, b]), by unfold five; simp, hit_of rfl ?_ ?_⟩
          · rw [hy, if_neg (by decide), e10, hv2]
            exact ⟨0, by omega⟩
          · rw [hy', if_pos rfl, e10]
            show ¬ n' ∣ hv [-b, 1] b'
            rw [hv2]
            exact h2
    · refine ⟨([n], [0]), by unfold five; simp, hit_of rfl ?_ ?_⟩
      · have e1 : sub2 [n] [0] = [n] := by unfold sub2; simp
        rw [e1, show (if y.low = true then ([n] : List Int).reverse else [n]) = [n] by split <;> rfl, hv1]
        exact Int.dvd_refl n
      · have e1 : sub2 [n] [0] = [n] := by unfold sub2; simp
        rw [e1, show (if y'.low = true then ([n] : List Int).reverse else [n]) = [n] by split <;> rfl, hv1]
        exact fun z => h1 (Int.emod_eq_zero_of_dvd z)
theorem agree_one (y : Sty) (b n l : Int) : rAgree y b n [] [l] = decide ((plainS y b n + l) % n = 0) := by
  unfold rAgree
  refine decide_eq_decide.mpr ?_
  rw [mark_hv, mark_hv, Int.emod_eq_emod_iff_emod_sub_eq_zero]
  have e1 : hv (if y.low = true then ([l] : List Int).reverse else [l]) b = l := by rw [show (if y.low = true then ([l] : List Int).reverse else [l]) = [l] by split <;> rfl, hv1]
  have e0 : hv (if y.low = true then ([] : List Int).reverse else []) b = 0 := by rw [show (if y.low = true then ([] : List Int).reverse else []) = [] by split <;> rfl]; rfl
  have g1 : geo b ([l] : List Int).length = 1 := by show geo b (0 + 1) = 1; rw [geo_succ]; simp [geo, hv]
  have g0 : geo b ([] : List Int).length = 0 := by simp [geo, hv]
  rw [e1, e0, g1, g0]
  unfold plainS
  rw [Int.emod_add_emod, ← Int.dvd_iff_emod_eq_zero, ← Int.dvd_iff_emod_eq_zero]
  show n ∣ (if y.lead = true then 1 else 0) * b ^ 0 + 0 + y.shift * 0 - ((if y.lead = true then 1 else 0) * b ^ 1 + l + y.shift * 1) ↔ _
  rw [← Int.dvd_neg]
  have e : -((if y.lead = true then 1 else 0) * b ^ 0 + 0 + y.shift * 0 - ((if y.lead = true then 1 else 0) * b ^ 1 + l + y.shift * 1)) = y.shift + (if y.lead = true then b - 1 else 0) + l := by
    rw [Int.pow_zero, Int.pow_succ, Int.pow_zero]
    cases y.lead <;> simp <;> omega
  rw [e]
theorem seven_any {y y' : Sty} {b n b' n' : Int} (e : y.low = y'.low) : (five b n ++ two n (plainS y b n)).any (hit y y' b n b' n') = !rParts b n (plainS y b n) b' n' (plainS y' b' n') := by
  rw [List.any_append, five_any]
  unfold rPartsL rParts
  rw [if_pos e]
  by_cases h1 : n % n' = 0
  · by_cases h2 : (b - b') % n' = 0
    · rw [decide_eq_true h1, decide_eq_true h2]
      have hs : ∀ l : Int, (plainS y b n + l) % n = 0 → hit y y' b n b' n' ([], [l]) = !decide ((plainS y' b' n' + l) % n' = 0) := fun l hl => by
        unfold hit
        rw [agree_one, agree_one, decide_eq_true hl, Bool.true_and]
      unfold two
      rw [List.any_cons, List.any_cons, List.any_nil, hs _ (by rw [show plainS y b n + (0 - plainS y b n) = 0 by omega, Int.zero_emod]), hs _ (by rw [show plainS y b n + (n - plainS y b n) = n by omega, Int.emod_self])]
      generalize plainS y b n = s
      generalize plainS y' b' n' = s'
      have q1 : (s' + (0 - s)) % n' = 0 ↔ (s - s') % n' = 0 := by
        rw [← Int.dvd_iff_emod_eq_zero, ← Int.dvd_iff_emod_eq_zero, ← Int.dvd_neg, show -(s' + (0 - s)) = s - s' by omega]
      have q2 : (s' + (n - s)) % n' = 0 ↔ (s - s') % n' = 0 := by
        rw [← q1, ← Int.dvd_iff_emod_eq_zero, ← Int.dvd_iff_emod_eq_zero, show s' + (n - s) = s' + (0 - s) + n by omega]
        exact Int.dvd_add_left (Int.dvd_of_emod_eq_zero h1)
      rw [show decide ((s' + (0 - s)) % n' = 0) = decide ((s - s') % n' = 0) from decide_eq_decide.mpr q1, show decide ((s' + (n - s)) % n' = 0) = decide ((s - s') % n' = 0) from decide_eq_decide.mpr q2]
      cases decide ((s - s') % n' = 0) <;> rfl
    · rw [decide_eq_true h1, decide_eq_false h2]
      simp
  · rw [decide_eq_false h1]
    simp
theorem ints_ne {vs : List Int} (h : vs.length ≤ 2) (x y z : Int) : HO.lst (vs.map V.int) ≠ .lst [.int x, .int y, .int z] := fun e => by
  have e2 : vs.map V.int = [.int x, .int y, .int z] := by injection e
  have := congrArg List.length e2
  rw [List.length_map] at this
  simp at this
  omega
theorem two_rm {a : Addr} {c : Int} {H : Hp} (pu : Purse H a c) : ∀ {qs : List (List Int × List Int)} {ts : List Addr}, Paired (Two H) qs ts → (∀ q ∈ qs, q.1.length ≤ 2 ∧ q.2.length ≤ 2) → Paired (Two (rm a H)) qs ts
  | _, _, .nil, _ => .nil
  | q :: _, _, .cons ⟨p1, p2, h1, h2, h3, h4⟩ t, hs => .cons ⟨p1, p2, rm_of (pu.ne h1 fun _ _ _ w => by cases w) h1, rm_of (pu.ne h2 (ints_ne (hs q (List.mem_cons_self ..)).1)) h2, rm_of (pu.ne h3 (ints_ne (hs q (List.mem_cons_self ..)).2)) h3, h4⟩ (two_rm pu t fun z hz => hs z (List.mem_cons_of_mem _ hz))
theorem TwL.rmS {a : Addr} {c : Int} {H : Hp} {l : Addr} {qs : List (List Int × List Int)} (h : TwL H l qs) (pu : Purse H a c) (hs : ∀ q ∈ qs, q.1.length ≤ 2 ∧ q.2.length ≤ 2) : TwL (rm a H) l qs := by
  obtain ⟨ts, h1, h2⟩ := h
  exact ⟨ts, rm_of (pu.ne h1 refs_ne) h1, two_rm pu h2 hs⟩
theorem seven_len {b n s : Int} : ∀ q ∈ five b n ++ two n s, q.1.length ≤ 2 ∧ q.2.length ≤ 2 := fun q hq => by
  unfold five two at hq
  simp only [List.cons_append, List.nil_append, List.mem_cons, List.not_mem_nil, or_false] at hq
  rcases hq with rfl | rfl | rfl | rfl | rfl | rfl | rfl <;> exact ⟨by simp, by simp⟩

end Bc
namespace Bc
open PySem PySem.Spec PyProof.Rows L2
/-! ### displays whose address is known not to be that of sys.modules; str of data with {} in it -/
def tLstB (t : TA) : TE := fun σ H Q => t σ H fun xs H1 => xs.length ≤ sizeLine ∧ ∀ p, H1 p = none → p ≠ sysModules → atV Q (.ref p) (upd H1 p (.lst xs))
section
variable {X : Cx} {es : List Expr} {t : TA} {pos : Pos}
theorem pe_lstB (h : PA X es t) : PE X (.List es pos) (tLstB t) := by
  refine ⟨fun pins s σ H Q I hq => wpAny_List_spliced (thn (h.run pos pins s σ H _ I hq) ?_)⟩
  rintro us s1 ⟨xs, H1, I1, r, z, q⟩
  refine ⟨by rw [← r.length]; exact z, .ref s1.heap.objs.size, upd H1 s1.heap.objs.size (.lst xs), ?_, rfl, q _ (I1.hok.fresh (Nat.le_refl _)) (Nat.ne_of_gt I1.big)⟩
  exact I1.laid (t' := s1.toks) (fun _ _ e => Heap.get?_push_of_some _ e) (Nat.le_refl _) ⟨z, us, 0, r, Heap.get?_push_size _ rfl⟩
end
theorem w_lstB {t : TA} {σ : L2.St} {H : Hp} {Q : VK} (q : t σ H fun xs H1 => xs.length ≤ sizeLine ∧ ∀ p, H1 p = none → p ≠ sysModules → atV Q (.ref p) (upd H1 p (.lst xs))) : tLstB t σ H Q := q
theorem alB {H : Hp} {Q : VK} {o : HO} (q : ∀ p H', H p = none → p ≠ sysModules → Same H H' → H' p = some o → atV Q (.ref p) H') : ∀ p, H p = none → p ≠ sysModules → atV Q (.ref p) (upd H p o) := fun p n ne => q p _ n ne (Same.new n) upd_same
theorem alRB {H : Hp} {Q : VK} {o : HO} {a : Addr} {c : Int} (pu : Purse H a c) (q : ∀ p H', p ≠ sysModules → Same (rm a H) (rm a H') → Purse H' a c → rm a H' p = some o → rm a H p = none → atV Q (.ref p) H') : ∀ p, H p = none → p ≠ sysModules → atV Q (.ref p) (upd H p o) := fun p n ne =>
  q p _ ne (Same.new n).rm (pu.same (Same.new n)) (rm_of (pu.fresh n) upd_same) (rm_none n)
mutual
inductive Dq (H : Hp) : V → PyData → Prop
  | non : Dq H .non .none
  | bl (b : Bool) : Dq H (.bl b) (.bool b)
  | int (i : Int) : Dq H (.int i) (.int i)
  | str (z : Str) : Dq H (.str z) (.str z)
  | lst {a : Addr} {xs : List V} {ds : List PyData} : a ≠ sysModules → H a = some (.lst xs) → DqAll H xs ds → Dq H (.ref a) (.list ds)
  | tup {a : Addr} {xs : List V} {ds : List PyData} : H a = some (.tup xs) → DqAll H xs ds → Dq H (.ref a) (.tuple ds)
  | dk {a : Addr} : H a = some (.dK []) → Dq H (.ref a) (.dict [])
inductive DqAll (H : Hp) : List V → List PyData → Prop
  | nil : DqAll H [] []
  | cons {v : V} {vs : List V} {d : PyData} {ds : List PyData} : Dq H v d → DqAll H vs ds → DqAll H (v :: vs) (d :: ds)
end
mutual
theorem Dq.same {H H' : Hp} (s : Same H H') : ∀ {v : V} {d : PyData}, Dq H v d → Dq H' v d
  | _, _, .non => .non
  | _, _, .bl b => .bl b
  | _, _, .int i => .int i
  | _, _, .str z => .str z
  | _, _, .lst n h t => .lst n (s _ _ h) (DqAll.same s t)
  | _, _, .tup h t => .tup (s _ _ h) (DqAll.same s t)
  | _, _, .dk h => .dk (s _ _ h)
theorem DqAll.same {H H' : Hp} (s : Same H H') : ∀ {vs : List V} {ds : List PyData}, DqAll H vs ds → DqAll H' vs ds
  | _, _, .nil => .nil
  | _, _, .cons h t => .cons (Dq.same s h) (DqAll.same s t)
end
section
variable {X : Cx} {pins : List (Addr × Obj)} {σ : L2.St} {H : Hp} {s : Shared}
mutual
theorem Dq.reads (I : Inv X pins σ H s) : ∀ {v : V} {d : PyData} {u : Value}, Dq H v d → RelV v u → ∃ as, Reads s.heap u d as ∧ sysModules ∉ as
  | _, _, _, .non, r => by cases r; exact ⟨_, .none, by simp⟩
  | _, _, _, .bl b, r => by cases r; exact ⟨_, .bool b, by simp⟩
  | _, _, _, .int i, r => by obtain ⟨t, rfl⟩ := r; exact ⟨_, .int i t, by simp⟩
  | _, _, _, .str z, r => by obtain ⟨t, rfl⟩ := r; exact ⟨_, .str z t, by simp⟩
  | _, _, _, .lst (a := a) n h t, r => by
    cases r
    obtain ⟨its, rv, ⟨o, k, ho, hc, _, hd⟩, _⟩ := I.list (sq h)
    obtain ⟨as, hr, no⟩ := DqAll.reads I t rv
    exact ⟨a :: as, .list ho hc hd hr, fun z => (List.mem_cons.mp z).elim (fun e => n e.symm) no⟩
  | _, _, _, .tup h t, r => by
    cases r
    obtain ⟨its, rv, ⟨o, ho, hc, k, hd⟩, _⟩ := I.tuple (sqt h)
    obtain ⟨as, hr, no⟩ := DqAll.reads I t rv
    exact ⟨as, .tuple ho hc hd hr, no⟩
  | _, _, _, .dk (a := a) h, r => by
    cases r
    obtain ⟨_, ne, vs, kv, o, es, ep, ho, hx, hd, _, he, _⟩ := dk_of I.hok h
    cases kv
    have e0 : es.toList = [] := by
      generalize es.toList = l at he
      cases he
      rfl
    refine ⟨[a], Reads.dict (kvs := []) (as := []) (bs := []) ho hx.1 hd (by rw [e0]; exact .nil) (by rw [e0]; exact .nil), fun z => ?_⟩
    have e : sysModules = a := by simpa using z
    rw [e] at ne
    simp at ne
theorem DqAll.reads (I : Inv X pins σ H s) : ∀ {vs : List V} {ds : List PyData} {us : List Value}, DqAll H vs ds → Vals vs us → ∃ as, ReadsAll s.heap us ds as ∧ sysModules ∉ as
  | _, _, _, .nil, .nil => ⟨_, .nil, by simp⟩
  | _, _, _, .cons h t, .cons r rs => by
    obtain ⟨as, q1, n1⟩ := Dq.reads I h r
    obtain ⟨bs, q2, n2⟩ := DqAll.reads I t rs
    exact ⟨as ++ bs, .cons q1 q2, fun z => (List.mem_append.mp z).elim n1 n2⟩
end
end
def rStrQ : List V → Hp → VK → Prop := fun xs H Q => ∃ (a : Addr) (d : PyData), xs = [.ref a] ∧ Dq H (.ref a) d ∧ d.showable = true ∧ d.depth ≤ 50 ∧ d.shown.length ≤ sizeLine ∧ Q (.str d.shown) H
theorem cStrQ {X : Cx} (hA : X.A.guards = some []) (hu : X.A.units + 64 < cLine) : CallR X (.type "str") rStrQ := by
  intro pins s σ H xs us Q I r h
  obtain ⟨a, d, rfl, hd, hs, hp, hz, q⟩ := h
  obtain ⟨u, rfl, r1⟩ := vals1 r
  cases r1
  obtain ⟨as, rd, no⟩ := Dq.reads I hd rfl
  exact PySem.str_of_reads rd hs (fun _ => no) hA (by omega) (fun _ _ z => z) (fun h' u tk kp => ⟨.str _, H, I.kept kp, ⟨_, rfl⟩, q⟩) hz
/-! ### things that are no texts -/
theorem tyx_same {K : PySem.W.Frag} {H H' : Hp} {v : V} {t : Value} (h : TyX K H v t) (s : Same H H') : TyX K H' v t := by
  cases h with
  | base b =>
    refine .base ?_
    cases b with
    | non => exact .non
    | bl x => exact .bl x
    | int i => exact .int i
    | str x => exact .str x
    | flt x => exact .flt x
    | lst e => exact .lst (s _ _ e)
    | frz e => exact .frz (s _ _ e)
    | tup e => exact .tup (s _ _ e)
    | dK e => exact .dK (s _ _ e)
    | dT e => exact .dT (s _ _ e)
    | ins e cl ha hn htk hm => exact .ins (s _ _ e) cl ha hn htk hm
  | byt b => exact .byt b
  | set e => exact .set (s _ _ e)
  | kList e c => exact .kList e c
  | kTuple e c => exact .kTuple e c
  | kDict e c => exact .kDict e c
  | fTuple e => exact .fTuple (s _ _ e)
  | fDict e => exact .fDict (s _ _ e)
/-- is_integer's answer -/
def IntB (K : PySem.W.Frag) (H : Hp) (v : V) (b : Bool) : Prop := ∃ (t : Value) (b1 b2 : Bool), TyX K H v t ∧ PySem.W.kitOne K t (.type "int") = some b1 ∧ PySem.W.kitOne K t (.type "bool") = some b2 ∧ b = (b1 && !b2)
theorem IntB.same {K : PySem.W.Frag} {H H' : Hp} {v : V} {b : Bool} (h : IntB K H v b) (s : Same H H') : IntB K H' v b := by
  obtain ⟨t, b1, b2, h1, h2⟩ := h
  exact ⟨t, b1, b2, tyx_same h1 s, h2⟩
def sgn (c : Nat) : Bool := decide (32 ≤ c) && decide (c ≤ 126)
/-- is_text's answer -/
inductive TextB (K : PySem.W.Frag) (H : Hp) : V → Bool → Prop where
  | oth {v : V} {t : Value} (ty : TyX K H v t) (h1 : PySem.W.kitOne K t (.type "str") = some false) (h2 : PySem.W.kitAny K t [.type "list", .type "tuple"] = some false) : TextB K H v false
  | str (z : Str) (l : z.length ≤ 100000) : TextB K H (.str z) (z.cps.toList.all sgn)
  | lst (a : Addr) (xs : List V) (bs : List Bool) (h : H a = some (.lst xs)) (l : xs.length ≤ 100000) (p : Paired (IntB K H) xs bs) : TextB K H (.ref a) (bs.all id)
  | tup (a : Addr) (xs : List V) (bs : List Bool) (h : H a = some (.tup xs)) (l : xs.length ≤ 100000) (p : Paired (IntB K H) xs bs) : TextB K H (.ref a) (bs.all id)
theorem TextB.same {K : PySem.W.Frag} {H H' : Hp} {v : V} {b : Bool} (h : TextB K H v b) (s : Same H H') : TextB K H' v b := by
  cases h with
  | oth ty h1 h2 => exact .oth (tyx_same ty s) h1 h2
  | str z l => exact .str z l
  | lst a xs bs h l p => exact .lst a xs bs (s _ _ h) l (paired_imp (fun _ _ z => z.same s) p)
  | tup a xs bs h l p => exact .tup a xs bs (s _ _ h) l (paired_imp (fun _ _ z => z.same s) p)
theorem ints_b {K : PySem.W.Frag} {H : Hp} : ∀ ls : List Int, Paired (IntB K H) (ls.map V.int) (ls.map fun _ => true)
  | [] => .nil
  | l :: r => .cons ⟨_, true, false, ty_int l, kit_ty (by decide +kernel), kit_ty (by decide +kernel), rfl⟩ (ints_b r)
theorem TextAt.b {K : PySem.W.Frag} {H : Hp} {v : V} {ls : List Int} (t : TextAt H v ls) : TextB K H v true := by
  cases t with
  | str z h l =>
    have e : z.cps.toList.all sgn = true := List.all_eq_true.mpr fun c hc => by
      have := h c hc
      unfold sgn
      rw [decide_eq_true this.1, decide_eq_true this.2]
      rfl
    rw [← e]
    exact .str z l
  | lst a _ h l =>
    rw [← all_true ls]
    exact .lst a _ _ h (by rw [List.length_map]; exact l) (ints_b ls)
  | tup a _ h l =>
    rw [← all_true ls]
    exact .tup a _ _ h (by rw [List.length_map]; exact l) (ints_b ls)
def spIsTextX (K : PySem.W.Frag) : Sp := fun vs H Q _ => ∃ (v : V) (b : Bool), vs = [v] ∧ TextB K H v b ∧ ∀ H', Same H H' → Q (.bl b) H'
def spReqTextX (K : PySem.W.Frag) (Ct : Addr) : Sp := fun vs H Q E => ∃ v : V, vs = [v] ∧ ((∃ ls, TextAt H v ls ∧ ∀ H' t, Same H H' → H' t = some (.tup (ls.map V.int)) → Q (.ref t) H') ∨ (TextB K H v false ∧ ErrTo E Ct "thing" v H))
def spMkOfX (K : PySem.W.Frag) (c : CA) (Ck : Addr) : Sp := fun vs H Q E => ∃ v : V, vs = [v] ∧
  ((∃ y : Sty, ((v = .non ∧ y = ⟨false, 0, false⟩) ∨ ∃ k, v = .ref k ∧ MkAt c H k y.low y.shift y.lead) ∧ ∀ H' k, Same H H' → MkAt c H' k y.low y.shift y.lead → Q (.ref k) H') ∨
   (v ≠ .non ∧ ∃ t, TyX K H v t ∧ PySem.W.kitOne K t (.ref c.kg) = some false ∧ ErrTo E Ck "name" .non H))
theorem sign_lo2 (c : Nat) : (!decide ((Str.mk #[c]).cps.toList < (Str.ofString " ").cps.toList)) = decide (32 ≤ c) := by
  by_cases h : 32 ≤ c
  · rw [sign_lo h, decide_eq_true h]
    rfl
  · rw [show decide ((Str.mk #[c]).cps.toList < (Str.ofString " ").cps.toList) = true from decide_eq_true (lt1.mpr (show c < 32 by omega)), decide_eq_false h]
    rfl
theorem sign_hi2 (c : Nat) : (!decide ((Str.ofString "~").cps.toList < (Str.mk #[c]).cps.toList)) = decide (c ≤ 126) := by
  by_cases h : c ≤ 126
  · rw [sign_hi h, decide_eq_true h]
    rfl
  · rw [show decide ((Str.ofString "~").cps.toList < (Str.mk #[c]).cps.toList) = true from decide_eq_true (lt1.mpr (show 126 < c by omega)), decide_eq_false h]
    rfl

end Bc
namespace Bc
open PySem PySem.Spec PyProof.Rows L2
/-! ### differences of texts -/
theorem same_app' {t : Addr} {H H' : Hp} {o : HO} (n : H t = none) (s : Same H H') : Same H (upd H' t o) := fun b o hb => by
  rw [upd_ne (ne_of_none hb n)]
  exact s b o hb
def psub : List Int → List Int → List Int
  | [], ys => ys.map fun y => 0 - y
  | x :: xs, ys => (x - ys.headD 0) :: psub xs ys.tail
def trim (xs : List Int) : List Int := (xs.reverse.dropWhile fun x => x == 0).reverse
theorem trim_nil : trim [] = [] := rfl
theorem trim_zero (xs : List Int) : trim (xs ++ [0]) = trim xs := by
  unfold trim
  rw [List.reverse_append]
  rfl
theorem trim_snoc (xs : List Int) {x : Int} (h : x ≠ 0) : trim (xs ++ [x]) = xs ++ [x] := by
  unfold trim
  rw [List.reverse_append]
  show (List.dropWhile (fun x => x == 0) (x :: xs.reverse)).reverse = _
  rw [List.dropWhile_cons, if_neg (by simpa using h), List.reverse_cons, List.reverse_reverse]
theorem psub_len : ∀ xs ys : List Int, (psub xs ys).length = max xs.length ys.length
  | [], ys => by
    show (ys.map _).length = _
    rw [List.length_map, List.length_nil]
    omega
  | x :: xs, ys => by
    show (psub xs ys.tail).length + 1 = _
    rw [psub_len xs ys.tail, List.length_tail, List.length_cons]
    omega
theorem zip_nil_r : ∀ xs : List Int, List.zipWith (fun x y => x - y) xs (List.replicate xs.length 0) = psub xs []
  | [] => rfl
  | x :: xs => by
    show _ = (x - 0) :: psub xs []
    rw [List.length_cons, List.replicate_succ, List.zipWith_cons_cons, zip_nil_r xs]
theorem zip_nil_l : ∀ ys : List Int, List.zipWith (fun x y => x - y) (List.replicate ys.length 0) ys = psub [] ys
  | [] => rfl
  | y :: ys => by
    show _ = (0 - y) :: psub [] ys
    rw [List.length_cons, List.replicate_succ, List.zipWith_cons_cons, zip_nil_l ys]
/-- padded with 0, the differences term by term -/
theorem zip_psub : ∀ (xs ys : List Int) (m n : Nat), xs.length + m = max xs.length ys.length → ys.length + n = max xs.length ys.length → List.zipWith (fun x y => x - y) (xs ++ List.replicate m 0) (ys ++ List.replicate n 0) = psub xs ys
  | [], [], m, n, h1, h2 => by
    have e1 : m = 0 := by simpa using h1
    have e2 : n = 0 := by simpa using h2
    subst e1
    subst e2
    rfl
  | x :: xs, [], m, n, h1, h2 => by
    have e1 : m = 0 := by simp at h1; exact h1
    have e2 : n = (x :: xs).length := by simp at h2; simp; omega
    subst e1
    subst e2
    rw [List.replicate_zero, List.append_nil, List.nil_append]
    exact zip_nil_r (x :: xs)
  | [], y :: ys, m, n, h1, h2 => by
    have e2 : n = 0 := by simp at h2; exact h2
    have e1 : m = (y :: ys).length := by simp at h1; simp; omega
    subst e1
    subst e2
    rw [List.replicate_zero, List.append_nil, List.nil_append]
    exact zip_nil_l (y :: ys)
  | x :: xs, y :: ys, m, n, h1, h2 => by
    show _ = (x - y) :: psub xs ys
    rw [List.cons_append, List.cons_append, List.zipWith_cons_cons, zip_psub xs ys m n (by simp only [List.length_cons] at h1; omega) (by simp only [List.length_cons] at h2; omega)]
def dif (y : Sty) (ls ms : List Int) : List Int := trim (psub (hf y ls).reverse (hf y ms).reverse)
theorem psub_neg : ∀ xs ys : List Int, psub ys xs = (psub xs ys).map fun z => 0 - z
  | [], [] => rfl
  | x :: xs, [] => by
    show (0 - x) :: psub [] xs = (0 - (x - 0)) :: (psub xs []).map _
    rw [psub_neg xs [], show (0 : Int) - (x - 0) = 0 - x by omega]
  | [], y :: ys => by
    show (y - 0) :: psub ys [] = (0 - (0 - y)) :: (psub [] ys).map _
    rw [psub_neg [] ys, show (0 : Int) - (0 - y) = y - 0 by omega]
  | x :: xs, y :: ys => by
    show (y - x) :: psub ys xs = (0 - (x - y)) :: (psub xs ys).map _
    rw [psub_neg xs ys, show (0 : Int) - (x - y) = y - x by omega]
theorem drop_neg : ∀ xs : List Int, (xs.map fun z => 0 - z).dropWhile (fun x => x == 0) = (xs.dropWhile fun x => x == 0).map fun z => 0 - z
  | [] => rfl
  | x :: xs => by
    by_cases h : x = 0
    · subst h
      exact drop_neg xs
    · rw [List.map_cons, List.dropWhile_cons, List.dropWhile_cons, if_neg (by simp; omega), if_neg (by simp; omega)]
      rfl
theorem dif_swap (y : Sty) (ls ms : List Int) : dif y ms ls = (dif y ls ms).map fun z => 0 - z := by
  unfold dif trim
  rw [psub_neg, ← List.map_reverse, drop_neg, List.map_reverse]
/-- the value of coefficients, that of 1 first -/
def ev (xs : List Int) (b : Int) : Int := hv xs.reverse b
theorem ev_cons (x : Int) (xs : List Int) (b : Int) : ev (x :: xs) b = ev xs b * b + x := by
  unfold ev
  rw [List.reverse_cons, hv_app, hv1]
  show hv xs.reverse b * b ^ 1 + x = _
  rw [Int.pow_succ, Int.pow_zero, Int.one_mul]
theorem ev_nil (b : Int) : ev [] b = 0 := rfl
theorem ev_psub (b : Int) : ∀ xs ys : List Int, ev (psub xs ys) b = ev xs b - ev ys b
  | [], [] => by simp [psub, ev_nil]
  | x :: xs, [] => by
    show ev ((x - 0) :: psub xs []) b = _
    rw [ev_cons, ev_psub b xs [], ev_cons, ev_nil]
    grind
  | [], y :: ys => by
    show ev ((0 - y) :: psub [] ys) b = _
    rw [ev_cons, ev_psub b [] ys, ev_cons, ev_nil]
    grind
  | x :: xs, y :: ys => by
    show ev ((x - y) :: psub xs ys) b = _
    rw [ev_cons, ev_psub b xs ys, ev_cons, ev_cons]
    grind
theorem hv_zeros (b : Int) : ∀ xs : List Int, hv (xs.dropWhile fun x => x == 0) b = hv xs b
  | [] => rfl
  | x :: xs => by
    by_cases h : x = 0
    · subst h
      rw [hv_cons, Int.zero_mul, Int.zero_add, ← hv_zeros b xs]
      rfl
    · rw [List.dropWhile_cons, if_neg (by simpa using h)]
theorem ev_trim (xs : List Int) (b : Int) : ev (trim xs) b = ev xs b := by
  unfold ev trim
  rw [List.reverse_reverse, hv_zeros]
theorem ev_dif (y : Sty) (b : Int) (ls ms : List Int) : ev (dif y ls ms) b = hv (hf y ls) b - hv (hf y ms) b := by
  unfold dif
  rw [ev_trim, ev_psub]
  unfold ev
  rw [List.reverse_reverse, List.reverse_reverse]
theorem agree_dif (y : Sty) (r n : Int) (ls ms : List Int) : rAgree y (r % n) n ls ms = decide (ev (dif y ls ms) r % n = 0) := by
  unfold rAgree
  refine decide_eq_decide.mpr ?_
  rw [← mark_sum, ← mark_sum, ev_dif, Int.emod_eq_emod_iff_emod_sub_eq_zero]
def spTrimmed : Sp := fun vs H Q _ => ∃ (p : Addr) (cs : List Int), vs = [.ref p] ∧ H p = some (.lst (cs.map V.int)) ∧ cs.length ≤ 100000 ∧ ∀ l H', Same H H' → H' l = some (.lst ((trim cs).map V.int)) → Q (.ref l) H'
def spDiffOf (c : CA) : Sp := fun vs H Q _ => ∃ (t u k : Addr) (ls ms : List Int) (y : Sty), vs = [.ref t, .ref u, .ref k] ∧ H t = some (.tup (ls.map V.int)) ∧ H u = some (.tup (ms.map V.int)) ∧ MkAt c H k y.low y.shift y.lead ∧ ls.length ≤ 10000 ∧ ms.length ≤ 10000 ∧
  ∀ l H', Same H H' → H' l = some (.lst ((dif y ls ms).map V.int)) → Q (.ref l) H'
def spDiffX (K : PySem.W.Frag) (c : CA) (Ct Ck : Addr) : Sp := fun vs H Q E => ∃ v u m : V, vs = [v, u, m] ∧
  ((TextB K H v false ∧ ErrTo E Ct "thing" v H) ∨
   (∃ ls, TextAt H v ls ∧ TextB K H u false ∧ ErrTo E Ct "thing" u H) ∨
   (∃ ls ms t, TextAt H v ls ∧ TextAt H u ms ∧ m ≠ .non ∧ TyX K H m t ∧ PySem.W.kitOne K t (.ref c.kg) = some false ∧ ErrTo E Ck "name" .non H) ∨
   (∃ ls ms y, TextAt H v ls ∧ TextAt H u ms ∧ ls.length ≤ 10000 ∧ ms.length ≤ 10000 ∧ ((m = .non ∧ y = ⟨false, 0, false⟩) ∨ ∃ k, m = .ref k ∧ MkAt c H k y.low y.shift y.lead) ∧ ∀ t H', Same H H' → H' t = some (.tup ((dif y ls ms).map V.int)) → Q (.ref t) H'))
def spCaught2 (K : PySem.W.Frag) (c : CA) : Sp := fun vs H Q _ => ∃ v u m : V, vs = [v, u, m] ∧
  ((TextB K H v false ∧ ∀ l H', l ≠ sysModules → H l = none → Same H H' → H' l = some (.lst [.str "text", v]) → Q (.ref l) H') ∨
   (∃ ls, TextAt H v ls ∧ TextB K H u false ∧ ∀ l H', l ≠ sysModules → H l = none → Same H H' → H' l = some (.lst [.str "text", u]) → Q (.ref l) H') ∨
   (∃ ls ms t, TextAt H v ls ∧ TextAt H u ms ∧ m ≠ .non ∧ TyX K H m t ∧ PySem.W.kitOne K t (.ref c.kg) = some false ∧ ∀ l H', l ≠ sysModules → H l = none → Same H H' → H' l = some (.lst [.str "marking", .non]) → Q (.ref l) H'))
def spSums : Sp := fun vs H Q _ => ∃ (l g : Addr) (ls : List Int) (y : Sty), vs = [.ref l, .ref g] ∧ H l = some (.lst (ls.map V.int)) ∧ H g = some (.lst [.bl y.low, .int y.shift, .bl y.lead]) ∧ ls.length ≤ 1000 ∧ ∀ p H', Same H H' → H' p = some (.lst ((hf y ls).reverse.map V.int)) → Q (.ref p) H'
def spRow : Sp := fun vs H Q _ => ∃ (l m g : Addr) (ls ms : List Int) (y : Sty), vs = [.ref l, .ref m, .ref g] ∧ H l = some (.lst (ls.map V.int)) ∧ H m = some (.lst (ms.map V.int)) ∧ H g = some (.lst [.bl y.low, .int y.shift, .bl y.lead]) ∧ ls.length ≤ 1000 ∧ ms.length ≤ 1000 ∧
  ∀ p H', H p = none → Same H H' → H' p = some (.lst ((psub (hf y ls).reverse (hf y ms).reverse).map V.int)) → Q (.ref p) H'
def spValue : Sp := fun vs H Q _ => ∃ (l : Addr) (cs : List Int) (b : Int), vs = [.ref l, .int b] ∧ H l = some (.lst (cs.map V.int)) ∧ cs.length ≤ 1000 ∧ -(2 ^ 64) < b ∧ b < 2 ^ 64 ∧ ∀ H', Same H H' → Q (.int (ev cs b)) H'
def spDoors : Sp := fun vs H Q _ => ∃ (a : Addr) (v : V) (ls : List Int) (c : Int), vs = [.ref a, v] ∧ c < 2 ^ 47 ∧ Purse H a c ∧ TextAt (rm a H) v ls ∧ ∀ H', Same (rm a H) (rm a H') → Purse H' a (c + 10) → Q (.bl true) H'
structure NoM (K : PySem.W.Frag) (c : CA) : Prop where
  int : PySem.W.kitOne K (.type "int") (.ref c.kg) = some false
  bl : PySem.W.kitOne K (.type "bool") (.ref c.kg) = some false
  str : PySem.W.kitOne K (.type "str") (.ref c.kg) = some false
  tup : PySem.W.kitOne K (.type "tuple") (.ref c.kg) = some false
  dct : PySem.W.kitOne K (.type "dict") (.ref c.kg) = some false
section
variable {K : PySem.W.Frag} {te : TE} {vs : List Nat} {σ : L2.St} {H : Hp} {D a b : Addr} {Qd : Hp → Prop} {j1 j2 : Nat} {ta : TA} {R : It → Hp → Prop}
theorem w_iZip (q : ta σ H fun vs H1 => ∃ a b xs ys, vs = [.ref a, .ref b] ∧ SqL K H1 a xs ∧ SqL K H1 b ys ∧ R (Itz K a b) H1) : iZip K ta σ H R := q
theorem w_zipi {xs ys : List V} {P : Addr → Addr → Prop} (h1 : SqL K H a xs) (h2 : SqL K H b ys) (q : P a b) : ∃ c d xs ys, [V.ref a, V.ref b] = [.ref c, .ref d] ∧ SqL K H c xs ∧ SqL K H d ys ∧ P c d := ⟨a, b, xs, ys, rfl, h1, h2, q⟩
theorem lc_zip (xs ys : List Int) (f : Int → Int → Int) (hl : xs.length = ys.length) (hD : H D = none) (hG : ∀ H', Same H H' → SqL K H' a (xs.map V.int) ∧ SqL K H' b (ys.map V.int)) (sz : xs.length ≤ 100000)
    (wp : ∀ v u, wipe (((wipe σ vs).set j1 v).set j2 u) vs = wipe σ vs)
    (step : ∀ (x y : Int) (H' : Hp) (Q' : VK), Q' (.int (f x y)) H' → te (((wipe σ vs).set j1 (some (.int x))).set j2 (some (.int y))) H' Q')
    (q : ∀ H', Same H H' → H' D = some (.lst ((List.zipWith f xs ys).map V.int)) → Qd H') :
    ∃ W : Nat → Nat → Hp → Prop, (∃ m, W 0 m (upd H D (.lst []))) ∧ ∀ i m H, W i m H →
      ((Itz K a b).stop i H ∧ Qd H) ∨ ((Itz K a b).go i H ∧ ∃ Nx : Hp → Prop, (∀ H', Nx H' → ∃ m', m' < m ∧ W (i + 1) m' H') ∧ ∀ x H', (Itz K a b).yld i H x H' → gTup K 2 (gCons (gName j1) (gCons (gName j2) gNil)) x (wipe σ vs) H' fun σ2 H2 => wipe σ2 vs = wipe σ vs ∧ tYes σ2 H2 fun b H3 =>
        if b = true then te σ2 H3 fun y H4 => ∃ acc, H4 D = some (.lst acc) ∧ acc.length < sizeLine ∧ Nx (upd H4 D (.lst (acc ++ [y]))) else Nx H3) := by
  refine lc_it (walk_zip (xs := xs.map V.int) (ys := ys.map V.int) (n := xs.length) (by rw [List.length_map, List.length_map]; omega)) (fun i H' => H' D = some (.lst ((List.zipWith f (xs.take i) (ys.take i)).map V.int)) ∧ Same H H') ⟨upd_same, Same.new hD⟩ (fun i H' _ h => hG H' h.2) ?_ ?_
  · rintro i x H1 H2 hi ⟨h1, h2⟩ ⟨T, x1, y1, rfl, nT, rfl, e1, e2⟩
    obtain ⟨x, hx, rfl⟩ := get_map e1
    obtain ⟨y, hy, rfl⟩ := get_map e2
    have nDT : D ≠ T := fun e => by rw [e, nT] at h1; cases h1
    refine w_gtup (sqt upd_same) rfl (w_gcons (w_name (w_gcons (w_name (w_gnil ⟨wp _ _, w_yes ?_⟩)))))
    refine iteT (step x y _ _ ?_)
    have hi2 : i < ys.length := by omega
    have ex : xs[i] = x := by rw [List.getElem?_eq_getElem hi] at hx; exact Option.some.inj hx
    have ey : ys[i] = y := by rw [List.getElem?_eq_getElem hi2] at hy; exact Option.some.inj hy
    refine ⟨_, (by rw [upd_ne nDT]; exact h1), ?_, ?_, ?_⟩
    · rw [List.length_map, List.length_zipWith, List.length_take, List.length_take]
      have : (100000 : Nat) < sizeLine := by decide
      omega
    · rw [upd_same, List.take_succ_eq_append_getElem hi, List.take_succ_eq_append_getElem hi2, ex, ey, List.zipWith_append (by rw [List.length_take, List.length_take]; omega), List.map_append]
      rfl
    · exact same_app' hD (h2.trans (Same.new nT))
  · rintro H' ⟨h1, h2⟩
    rw [List.take_length, show ys.take xs.length = ys by rw [hl, List.take_length]] at h1
    exact q H' h2 h1
end
theorem rep0 (n : Nat) : (List.replicate n [V.int 0]).flatten = (List.replicate n (0 : Int)).map V.int := by
  induction n with
  | zero => rfl
  | succ n ih => rw [List.replicate_succ, List.flatten_cons, ih, List.replicate_succ, List.map_cons]; rfl
theorem hf_len (y : Sty) (ls : List Int) : (hf y ls).length = ls.length + 1 := by
  unfold hf
  rw [List.length_cons]
  split <;> simp
theorem hf_rev (y : Sty) (ls : List Int) : (hf y ls).reverse = (if y.low = true then ls.map (· + y.shift) else (ls.map (· + y.shift)).reverse) ++ [if y.lead = true then 1 else 0] := by
  unfold hf
  rw [List.reverse_cons]
  split <;> simp
theorem pad_zip (xs ys : List Int) (m n : Nat) (h : (xs ++ List.replicate m 0).length = (ys ++ List.replicate n 0).length) (h1 : m = 0 ∨ (xs ++ List.replicate m 0).length ≤ ys.length) (h2 : n = 0 ∨ (ys ++ List.replicate n 0).length ≤ xs.length) : List.zipWith (fun x y => x - y) (xs ++ List.replicate m 0) (ys ++ List.replicate n 0) = psub xs ys := by
  simp only [List.length_append, List.length_replicate] at h h1 h2
  refine zip_psub xs ys m n ?_ ?_ <;> omega
theorem snoc0 (xs : List Int) (n : Nat) : (xs ++ List.replicate n (0 : Int)).map V.int ++ [V.int 0] = (xs ++ List.replicate (n + 1) (0 : Int)).map V.int := by
  rw [List.replicate_succ', ← List.append_assoc, List.map_append (l₁ := xs ++ List.replicate n 0)]
  rfl
theorem at_lastz (ds : List Int) (z : Int) : atI ((ds ++ [z]).map V.int) (-1) = some (.int z) := by
  unfold atI ixN
  rw [if_neg (by decide), List.length_map, List.length_append, List.length_cons, List.length_nil, if_pos (by omega), show (-1 + ((ds.length + (0 + 1) : Nat) : Int)).toNat = ds.length by omega]
  show ((ds ++ [z]).map V.int)[ds.length]? = _
  rw [List.getElem?_map, List.getElem?_append_right (Nat.le_refl _), Nat.sub_self]
  rfl
theorem cut_lastz (ds : List Int) (z : Int) : cutV ((ds ++ [z]).map V.int) none (some (-1)) = ds.map V.int := by
  unfold cutV
  rw [HT.sIx_none, List.drop_zero, Nat.sub_zero, List.length_map, List.length_append]
  have e : HT.sIx (ds.length + [z].length) (ds.length + [z].length) (some (-1)) = ds.length := by
    show (if (-1 : Int) < 0 then (-1 + ((ds.length + [z].length : Nat) : Int)).toNat else min (-1 : Int).toNat (ds.length + [z].length)) = ds.length
    rw [if_pos (by decide), List.length_cons, List.length_nil]
    omega
  rw [e, List.map_append, List.take_left' (by rw [List.length_map])]
theorem given_eq {a b : Bool} {i : Int} (h : PyData.eqv (.list [.bool a, .int i, .bool b]) (.list [.bool false, .int 0, .bool false]) = true) : a = false ∧ i = 0 ∧ b = false := by
  cases a <;> cases b <;> simp [PyData.eqv, PyData.eqvAll] at h ⊢
  exact h
def perm3P {α : Type} (us _ws ws : List α) : List α := us ++ (match ws with | [o, t, m] => [t, o, m] | z => z)
abbrev perm3 (vs zs : List V) : List V := perm3P vs [V.non] zs
theorem perm3_vals {vs ds zs : List V} {us its ws : List Value} (r1 : Vals vs us) (_r : Vals ds its) (r2 : Vals zs ws) : Vals (perm3P vs ds zs) (perm3P us its ws) := by
  unfold perm3P
  refine r1.append ?_
  cases r2 with
  | nil => exact .nil
  | cons a t =>
    cases t with
    | nil => exact .cons a .nil
    | cons b t =>
      cases t with
      | nil => exact .cons a (.cons b .nil)
      | cons c t =>
        cases t with
        | nil => exact .cons b (.cons a (.cons c .nil))
        | cons d t => exact .cons a (.cons b (.cons c (.cons d t)))
theorem cut_ex2 (ls : List Int) (lo hi : Option Int) : ∃ ms : List Int, cutV (ls.map V.int) lo hi = ms.map V.int ∧ ms.length ≤ ls.length := by
  unfold cutV
  refine ⟨(ls.drop _).take _, by rw [List.map_take, List.map_drop], ?_⟩
  rw [List.length_take, List.length_drop]
  omega

end Bc
namespace Bc
open PySem PySem.Spec PyProof.Rows L2
/-! ### sums of falling products -/
def nestT : Int → List Int → Int → Int → Int
  | _, [], _, t => t
  | k, c :: cs, x, t => c + (x - k) * nestT (k + 1) cs x t
def nest (k : Int) (cs : List Int) (x : Int) : Int := nestT k cs x 0
theorem nestT_snoc (x r t : Int) : ∀ (k : Int) (cs : List Int), nestT k (cs ++ [r]) x t = nestT k cs x (r + (x - (k + cs.length)) * t)
  | k, [] => by
    show r + (x - k) * t = r + (x - (k + ((0 : Nat) : Int))) * t
    rw [Int.natCast_zero, Int.add_zero]
  | k, c :: cs => by
    show c + (x - k) * nestT (k + 1) (cs ++ [r]) x t = c + (x - k) * nestT (k + 1) cs x _
    rw [nestT_snoc x r t (k + 1) cs, List.length_cons, show k + 1 + (cs.length : Int) = k + ((cs.length + 1 : Nat) : Int) by omega]
theorem nest_zero (k x : Int) (cs : List Int) : nest k (cs ++ [0]) x = nest k cs x := by
  unfold nest
  rw [nestT_snoc, Int.mul_zero, Int.add_zero]
theorem nest_trim (k x : Int) : ∀ (m : Nat) (cs : List Int), cs.length = m → nest k (trim cs) x = nest k cs x
  | 0, cs, h => by
    have e : cs = [] := List.length_eq_zero_iff.mp h
    subst e
    rfl
  | m + 1, cs, h => by
    rcases List.eq_nil_or_concat cs with e | ⟨ds, z, e⟩
    · subst e
      rfl
    · rw [List.concat_eq_append] at e
      subst e
      by_cases hz : z = 0
      · subst hz
        rw [trim_zero, nest_zero]
        exact nest_trim k x m ds (by simpa using h)
      · rw [trim_snoc ds hz]
def fac : Nat → Int
  | 0 => 1
  | n + 1 => fac n * ((n + 1 : Nat) : Int)
def ff (x : Nat) : Nat → Int
  | 0 => 1
  | i + 1 => ff x i * ((x : Int) - i)
theorem ff_zero : ∀ (x i : Nat), x < i → ff x i = 0
  | x, 0, h => by omega
  | x, i + 1, h => by
    show ff x i * ((x : Int) - i) = 0
    by_cases e : x = i
    · subst e
      rw [Int.sub_self, Int.mul_zero]
    · rw [ff_zero x i (by omega), Int.zero_mul]
theorem ff_up (x : Nat) : ∀ i : Nat, ff (x + 1) (i + 1) = ff x (i + 1) + ((i + 1 : Nat) : Int) * ff x i
  | 0 => by
    show 1 * (((x + 1 : Nat) : Int) - ((0 : Nat) : Int)) = 1 * ((x : Int) - ((0 : Nat) : Int)) + ((0 + 1 : Nat) : Int) * 1
    omega
  | i + 1 => by
    have ih := ff_up x i
    show ff (x + 1) (i + 1) * (((x + 1 : Nat) : Int) - ((i + 1 : Nat) : Int)) = ff x (i + 1) * ((x : Int) - ((i + 1 : Nat) : Int)) + ((i + 1 + 1 : Nat) : Int) * ff x (i + 1)
    rw [ih]
    have e : ff x (i + 1) = ff x i * ((x : Int) - i) := rfl
    rw [e]
    generalize ff x i = f
    rw [show ((x + 1 : Nat) : Int) = (x : Int) + 1 by omega, show ((i + 1 : Nat) : Int) = (i : Int) + 1 by omega, show ((i + 1 + 1 : Nat) : Int) = (i : Int) + 2 by omega]
    generalize (x : Int) = a
    generalize (i : Int) = b
    grind
theorem fac_dvd : ∀ (x i : Nat), fac i ∣ ff x i
  | _, 0 => ⟨1, by show (1 : Int) = 1 * 1; omega⟩
  | 0, i + 1 => by rw [ff_zero 0 (i + 1) (by omega)]; exact Int.dvd_zero _
  | x + 1, i + 1 => by
    rw [ff_up]
    refine Int.dvd_add (fac_dvd x (i + 1)) ?_
    obtain ⟨t, ht⟩ := fac_dvd x i
    refine ⟨t, ?_⟩
    rw [ht]
    show _ = fac i * ((i + 1 : Nat) : Int) * t
    generalize ((i + 1 : Nat) : Int) = a
    generalize fac i = b
    grind
theorem ff_self : ∀ j : Nat, ff j j = fac j
  | 0 => rfl
  | j + 1 => by
    rw [ff_up, ff_zero j (j + 1) (by omega), ff_self j, Int.zero_add, Int.mul_comm]
    rfl
/-- the sum from the i-th on -/
theorem nest_low {n : Int} {x j : Nat} (hx : x < j) : ∀ (cs : List Int) (i : Nat), (∀ m c, cs[m]? = some c → i + m < j → n ∣ c * fac (i + m)) → n ∣ ff x i * nest i cs x
  | [], i, _ => by
    show n ∣ ff x i * 0
    rw [Int.mul_zero]
    exact Int.dvd_zero _
  | c :: cs, i, h => by
    have ih := nest_low hx cs (i + 1) fun m d hd hm => by
      have := h (m + 1) d (by simpa using hd) (by omega)
      rwa [show i + (m + 1) = i + 1 + m by omega] at this
    have e : ff x i * nest i (c :: cs) x = c * ff x i + ff x (i + 1) * nest ((i + 1 : Nat) : Int) cs x := by
      show ff x i * (c + ((x : Int) - i) * nestT ((i : Int) + 1) cs x 0) = c * ff x i + ff x i * ((x : Int) - i) * nestT _ cs x 0
      rw [show ((i + 1 : Nat) : Int) = (i : Int) + 1 by omega]
      generalize nestT ((i : Int) + 1) cs x 0 = z
      generalize ff x i = f
      grind
    rw [e]
    refine Int.dvd_add ?_ ih
    by_cases hi : i < j
    · obtain ⟨t, ht⟩ := fac_dvd x i
      have := h 0 c rfl (by omega)
      rw [Nat.add_zero] at this
      rw [ht, ← Int.mul_assoc]
      exact Int.dvd_mul_of_dvd_left this
    · rw [ff_zero x i (by omega), Int.mul_zero]
      exact Int.dvd_zero _
theorem nest_high {x : Nat} : ∀ (cs : List Int) (i : Nat), x < i → ff x i * nest i cs x = 0 := fun cs i h => by rw [ff_zero x i h, Int.zero_mul]
theorem nest_at {n : Int} {j : Nat} : ∀ (cs : List Int) (i : Nat) (d : Int), i ≤ j → cs[j - i]? = some d → (∀ m c, cs[m]? = some c → i + m < j → n ∣ c * fac (i + m)) → n ∣ ff j i * nest i cs j - d * fac j
  | [], i, d, _, hd, _ => by simp at hd
  | c :: cs, i, d, hi, hd, h => by
    have e : ff j i * nest i (c :: cs) j = c * ff j i + ff j (i + 1) * nest ((i + 1 : Nat) : Int) cs j := by
      show ff j i * (c + ((j : Int) - i) * nestT ((i : Int) + 1) cs j 0) = c * ff j i + ff j i * ((j : Int) - i) * nestT _ cs j 0
      rw [show ((i + 1 : Nat) : Int) = (i : Int) + 1 by omega]
      generalize nestT ((i : Int) + 1) cs j 0 = z
      generalize ff j i = f
      grind
    rw [e]
    by_cases hij : i = j
    · subst hij
      rw [Nat.sub_self] at hd
      have hd : c = d := by simpa using hd
      subst hd
      rw [nest_high (x := i) cs (i + 1) (by omega), ff_self, Int.add_zero, Int.sub_self]
      exact Int.dvd_zero _
    · have ih := nest_at (n := n) (j := j) cs (i + 1) d (by omega) (by
        rw [show j - i = j - (i + 1) + 1 by omega] at hd
        simpa using hd) fun m d hd hm => by
        have := h (m + 1) d (by simpa using hd) (by omega)
        rwa [show i + (m + 1) = i + 1 + m by omega] at this
      rw [Int.add_sub_assoc]
      refine Int.dvd_add ?_ ih
      obtain ⟨t, ht⟩ := fac_dvd j i
      have := h 0 c rfl (by omega)
      rw [Nat.add_zero] at this
      rw [ht, ← Int.mul_assoc]
      exact Int.dvd_mul_of_dvd_left this
/-- the least integer from 0 on whose value n does not divide -/
def Least (n : Int) (F : Int → Int) : Option Nat → Prop
  | none => ∀ x : Nat, n ∣ F x
  | some j => ¬ n ∣ F j ∧ ∀ x : Nat, x < j → n ∣ F x
theorem Least.uniq {n : Int} {F : Int → Int} : ∀ {r r' : Option Nat}, Least n F r → Least n F r' → r = r'
  | none, none, _, _ => rfl
  | none, some j, h, h' => absurd (h j) h'.1
  | some j, none, h, h' => absurd (h' j) h.1
  | some j, some j', h, h' => by
    have a1 : ¬ j < j' := fun z => h.1 (h'.2 j z)
    have a2 : ¬ j' < j := fun z => h'.1 (h.2 j' z)
    rw [show j = j' by omega]
theorem Least.congr {n : Int} {F F' : Int → Int} (e : ∀ x : Nat, n ∣ F x ↔ n ∣ F' x) : ∀ {r : Option Nat}, Least n F r → Least n F' r
  | none, h => fun x => (e x).mp (h x)
  | some j, h => ⟨fun z => h.1 ((e j).mpr z), fun x hx => (e x).mp (h.2 x hx)⟩
/-- the first term of which n does not divide the product -/
def Bad (n : Int) (cs : List Int) : Option Nat → Prop
  | none => ∀ j c, cs[j]? = some c → n ∣ c * fac j
  | some j => (∃ c, cs[j]? = some c ∧ ¬ n ∣ c * fac j) ∧ ∀ i c, i < j → cs[i]? = some c → n ∣ c * fac i
theorem Bad.least {n : Int} {cs : List Int} : ∀ {r : Option Nat}, Bad n cs r → Least n (nest 0 cs) r
  | none, h => fun x => by
    have := nest_low (n := n) (x := x) (j := x + cs.length + 1) (by omega) cs 0 fun m c hc _ => by rw [Nat.zero_add]; exact h m c hc
    rwa [show ff x 0 = 1 from rfl, Int.one_mul] at this
  | some j, h => by
    obtain ⟨⟨d, hd, hn⟩, hl⟩ := h
    refine ⟨fun z => hn ?_, fun x hx => ?_⟩
    · have := nest_at (n := n) (j := j) cs 0 d (Nat.zero_le _) hd fun m c hc hm => by rw [Nat.zero_add] at hm ⊢; exact hl m c hm hc
      rw [show ff j 0 = 1 from rfl, Int.one_mul] at this
      have h2 := Int.dvd_sub z this
      rwa [show nest 0 cs j - (nest ((0 : Nat) : Int) cs j - d * fac j) = d * fac j by show nest 0 cs j - (nest 0 cs j - d * fac j) = _; omega] at h2
    · have := nest_low (n := n) hx cs 0 fun m c hc hm => by rw [Nat.zero_add] at hm ⊢; exact hl m c hm hc
      rwa [show ff x 0 = 1 from rfl, Int.one_mul] at this
theorem fac_small : ∀ i : Nat, i ≤ 100 → (fac i).natAbs < 2 ^ (7 * i + 1)
  | 0, _ => by decide
  | i + 1, h => by
    have ih := fac_small i (by omega)
    show (fac i * ((i + 1 : Nat) : Int)).natAbs < _
    rw [Int.natAbs_mul, Int.natAbs_natCast]
    calc (fac i).natAbs * (i + 1) ≤ (fac i).natAbs * 2 ^ 7 := Nat.mul_le_mul_left _ (by show i + 1 ≤ 128; omega)
      _ < 2 ^ (7 * i + 1) * 2 ^ 7 := Nat.mul_lt_mul_of_pos_right ih (by decide)
      _ = 2 ^ (7 * (i + 1) + 1) := by rw [← Nat.pow_add, show 7 * i + 1 + 7 = 7 * (i + 1) + 1 by omega]
def optN : Option Nat → V
  | none => .non
  | some j => .int (j : Int)
theorem trim_mem {xs : List Int} {z : Int} (h : z ∈ trim xs) : z ∈ xs := by
  unfold trim at h
  rw [List.mem_reverse] at h
  exact List.mem_reverse.mp ((List.dropWhile_sublist _).mem h)
theorem trim_len (xs : List Int) : (trim xs).length ≤ xs.length := by
  unfold trim
  rw [List.length_reverse]
  have := (List.dropWhile_sublist (l := xs.reverse) fun x => x == 0).length_le
  rwa [List.length_reverse] at this
theorem psub_mem : ∀ {xs ys : List Int} {z : Int}, z ∈ psub xs ys → ∃ x y, (x ∈ xs ∨ x = 0) ∧ (y ∈ ys ∨ y = 0) ∧ z = x - y
  | [], ys, z, h => by
    obtain ⟨y, hy, e⟩ := List.mem_map.mp (show z ∈ ys.map fun y => 0 - y from h)
    exact ⟨0, y, .inr rfl, .inl hy, e.symm⟩
  | x :: xs, ys, z, h => by
    rcases List.mem_cons.mp (show z ∈ (x - ys.headD 0) :: psub xs ys.tail from h) with e | h
    · refine ⟨x, ys.headD 0, .inl (List.mem_cons_self ..), ?_, e⟩
      cases ys with
      | nil => exact .inr rfl
      | cons y ys => exact .inl (List.mem_cons_self ..)
    · obtain ⟨x', y', h1, h2, e⟩ := psub_mem h
      exact ⟨x', y', h1.imp (List.mem_cons_of_mem _) id, h2.imp List.mem_of_mem_tail id, e⟩
theorem hf_mem {ls : List Int} {z : Int} (h : z ∈ hf ⟨false, 0, false⟩ ls) : z ∈ ls ∨ z = 0 := by
  unfold hf at h
  simp at h
  rcases h with h | h
  · exact .inr h
  · exact .inl h
theorem hf_val (ls : List Int) (x : Int) : hv (hf ⟨false, 0, false⟩ ls) x = hv ls x := by
  unfold hf
  simp only [Bool.false_eq_true, if_false]
  rw [hv_cons, Int.zero_mul, Int.zero_add]
  congr 1
  simp
theorem hv_rep (x : Int) : ∀ n : Nat, hv (List.replicate n 0) x = 0
  | 0 => rfl
  | n + 1 => by rw [List.replicate_succ, hv_cons, hv_rep x n, Int.zero_mul, Int.zero_add]
theorem dif_bound {ls ms : List Int} {b : Nat} (h1 : ∀ z ∈ ls, z.natAbs < 2 ^ b) (h2 : ∀ z ∈ ms, z.natAbs < 2 ^ b) : ∀ z ∈ dif ⟨false, 0, false⟩ ls ms, z.natAbs < 2 ^ (b + 1) := fun z hz => by
  obtain ⟨x, y, hx, hy, rfl⟩ := psub_mem (trim_mem hz)
  have p : 0 < 2 ^ b := Nat.two_pow_pos b
  have f : ∀ {w : Int} {ls : List Int}, (∀ z ∈ ls, z.natAbs < 2 ^ b) → (w ∈ (hf ⟨false, 0, false⟩ ls).reverse ∨ w = 0) → w.natAbs < 2 ^ b := fun {w ls} h e => by
    rcases e with e | e
    · rcases hf_mem (List.mem_reverse.mp e) with e | e
      · exact h w e
      · rw [e]; exact p
    · rw [e]; exact p
  have a1 := f h1 hx
  have a2 := f h2 hy
  rw [Nat.pow_succ]
  omega
/-! #### promises -/
def Sml (b : Nat) (cs : List Int) : Prop := ∀ z ∈ cs, z.natAbs < 2 ^ b
def spFalling : Sp := fun vs H Q _ => ∃ (p : Addr) (cs : List Int) (b : Nat), vs = [.ref p] ∧ H p = some (.lst (cs.map V.int)) ∧ cs.length ≤ 60 ∧ b ≤ 2000 ∧ Sml b cs ∧
  ∀ l (fs : List Int) H', Same H H' → H' l = some (.lst (fs.map V.int)) → fs.length ≤ 60 → Sml 40000 fs → (∀ x : Int, ev cs x = nest 0 fs x) → Q (.ref l) H'
def spPartOf : Sp := fun vs H Q _ => ∃ (p : Addr) (cs : List Int) (b : Nat) (n : Int), vs = [.ref p, .int n] ∧ H p = some (.lst (cs.map V.int)) ∧ cs.length ≤ 60 ∧ b ≤ 2000 ∧ Sml b cs ∧ 0 < n ∧
  ∀ r H', Same H H' → Least n (ev cs) r → Q (optN r) H'
def spPartBase (c : CA) : Sp := fun vs H Q _ => ∃ (v u : V) (m : Addr) (ls ms : List Int) (ps : List (Int × Int)), vs = [v, u, .ref m, .non] ∧ TextAt H v ls ∧ TextAt H u ms ∧ ModAt c H m ps ∧ ls.length ≤ 50 ∧ ms.length ≤ 50 ∧ Sml 1900 ls ∧ Sml 1900 ms ∧
  ∀ r H', Same H H' → Least (num ps) (fun x => hv ls x - hv ms x) r → Q (optN r) H'
def spAlways (c : CA) : Sp := fun vs H Q _ => ∃ (v u : V) (m : Addr) (ls ms : List Int) (ps : List (Int × Int)), vs = [v, u, .ref m, .non] ∧ TextAt H v ls ∧ TextAt H u ms ∧ ModAt c H m ps ∧ ls.length ≤ 50 ∧ ms.length ≤ 50 ∧ Sml 1900 ls ∧ Sml 1900 ms ∧
  ∀ r H', Same H H' → Least (num ps) (fun x => hv ls x - hv ms x) r → Q (.bl (r.isNone)) H'
theorem sml_step {b i : Nat} {k : Nat} {c h : Int} (hk : k ≤ 64) (hc : c.natAbs < 2 ^ (b + 7 * i)) (hh : h.natAbs < 2 ^ b) : (c * (k : Int) + h).natAbs < 2 ^ (b + 7 * (i + 1)) := by
  have e1 : (c * (k : Int) + h).natAbs ≤ c.natAbs * k + h.natAbs := by
    have := Int.natAbs_add_le (c * (k : Int)) h
    rwa [Int.natAbs_mul, Int.natAbs_natCast] at this
  have e2 : c.natAbs * k ≤ c.natAbs * 64 := Nat.mul_le_mul_left _ hk
  have e3 : 2 ^ b ≤ 2 ^ (b + 7 * i) := Nat.pow_le_pow_right (by decide) (by omega)
  rw [show b + 7 * (i + 1) = b + 7 * i + 7 by omega, Nat.pow_add]
  show _ < 2 ^ (b + 7 * i) * 128
  omega
theorem w_pop {l : Addr} {xs : List V} {y : V} {H : Hp} {Q : VK} (h : H l = some (.lst (xs ++ [y]))) (q : Q y (upd H l (.lst xs))) : rPop (.ref l) [] H Q := by
  refine ⟨l, xs ++ [y], y, rfl, rfl, h, ?_, by rw [List.dropLast_concat]; exact q⟩
  rw [List.length_append, List.length_cons, List.length_nil, show xs.length + (0 + 1) - 1 = xs.length by omega, List.getElem?_append_right (Nat.le_refl _), Nat.sub_self]
  rfl
theorem psub_nil : ∀ xs : List Int, psub xs [] = xs
  | [] => rfl
  | x :: xs => by
    show (x - 0) :: psub xs [] = x :: xs
    rw [psub_nil xs, Int.sub_zero]
theorem psub_set : ∀ (xs ys : List Int) (z w : Int), xs[ys.length]? = some w → (psub xs ys)[ys.length]? = some w ∧ (psub xs ys).set ys.length (w - z) = psub xs (ys ++ [z])
  | [], ys, z, w, h => by simp at h
  | x :: xs, [], z, w, h => by
    have e : x = w := by simpa using h
    subst e
    refine ⟨?_, ?_⟩
    · show some (x - 0) = some x
      rw [Int.sub_zero]
    · show (x - z) :: psub xs [] = (x - z) :: psub xs []
      rfl
  | x :: xs, y :: ys, z, w, h => by
    have ih := psub_set xs ys z w (by simpa using h)
    refine ⟨?_, ?_⟩
    · show ((x - y) :: psub xs ys)[ys.length + 1]? = some w
      simpa using ih.1
    · show ((x - y) :: psub xs ys).set (ys.length + 1) (w - z) = (x - y) :: psub xs (ys ++ [z])
      rw [List.set_cons_succ, ih.2]
theorem ev_scale (s b : Int) : ∀ xs : List Int, ev (xs.map fun x => s * x) b = s * ev xs b
  | [] => by simp [ev_nil]
  | x :: xs => by
    rw [List.map_cons, ev_cons, ev_cons, ev_scale s b xs]
    grind
theorem ev_set0 (x z b : Int) (xs : List Int) : ev ((x + z) :: xs) b = ev (x :: xs) b + z := by
  rw [ev_cons, ev_cons]
  omega
theorem nest_drop {fs : List Int} {s : Nat} {c x : Int} (h : fs[s]? = some c) : nest s (fs.drop s) x = c + (x - s) * nest ((s + 1 : Nat) : Int) (fs.drop (s + 1)) x := by
  obtain ⟨hs, e⟩ := List.getElem?_eq_some_iff.mp h
  rw [List.drop_eq_getElem_cons hs, e]
  show c + (x - s) * nestT ((s : Int) + 1) _ x 0 = _
  rw [show ((s + 1 : Nat) : Int) = (s : Int) + 1 by omega]
  rfl
theorem w_iRng3 {as : TA} {σ : L2.St} {H : Hp} {R : It → Hp → Prop} (q : as σ H fun vs H1 => ∃ (i j c : Int) (n : Nat), vs = [.int i, .int j, .int c] ∧ RgC i j c n ∧ R (Itc i c n) H1) : iRng3 as σ H R := q
def spSome7 : Sp := fun vs H Q _ => ∃ (a : Addr) (c : Int), vs = [.ref a] ∧ c < 2 ^ 48 ∧ Purse H a c ∧
  ∀ (l : Addr) (H' : Hp) (ps : List (Int × Int)), Same (rm a H) (rm a H') → Purse H' a (c + 1) → PrL (rm a H') l ps → Asc 0 ps → Small ps → (num ps).natAbs < 2 ^ 700 → ps ≠ [] → Q (.ref l) H'
def spFalls : Sp := fun vs H Q _ => ∃ (a : Addr) (n fg mo c : Int), vs = [.ref a, .int n, .int fg, .int mo] ∧ 0 < n ∧ n.natAbs < 2 ^ 700 ∧ 0 ≤ fg ∧ fg ≤ 15 ∧ 1 ≤ mo ∧ mo ≤ 39 ∧ c < 2 ^ 47 ∧ Purse H a c ∧
  ∀ (l : Addr) (fs : List Int) (H' : Hp), Same (rm a H) (rm a H') → Purse H' a (c + 1000) → rm a H' l = some (.lst (fs.map V.int)) → 1 ≤ fs.length → fs.length ≤ 39 → Sml 800 fs → Q (.ref l) H'
def spSpread : Sp := fun vs H Q _ => ∃ (l : Addr) (fs : List Int), vs = [.ref l] ∧ H l = some (.lst (fs.map V.int)) ∧ fs.length ≤ 60 ∧
  ∀ (p : Addr) (rs : List Int) (H' : Hp), H p = none → Same H H' → H' p = some (.lst (rs.map V.int)) → rs.length = fs.length + 1 → (∀ x : Int, ev rs x = nest 0 fs x) → Q (.ref p) H'
def spValAt : Sp := fun vs H Q _ => ∃ (l : Addr) (cs : List Int) (b n : Int), vs = [.ref l, .int b, .int n] ∧ H l = some (.lst (cs.map V.int)) ∧ cs.length ≤ 1000 ∧ -(2 ^ 64) < b ∧ b < 2 ^ 64 ∧ 0 < n ∧ ∀ H', Same H H' → Q (.int (ev cs b % n)) H'
def spBent : Sp := fun vs H Q _ => ∃ (a l lp : Addr) (n c : Int) (fs : List Int) (ps : List (Int × Int)), vs = [.ref a, .ref l, .ref lp, .int n] ∧ rm a H l = some (.lst (fs.map V.int)) ∧ 1 ≤ fs.length ∧ fs.length ≤ 39 ∧ Sml 800 fs ∧ PrL (rm a H) lp ps ∧ Small ps ∧ ps ≠ [] ∧ 0 < n ∧ n.natAbs < 2 ^ 700 ∧ c < 2 ^ 47 ∧ Purse H a c ∧
  ∀ (l' : Addr) (fs' : List Int) (H' : Hp), Same (rm a H) (rm a H') → Purse H' a (c + 3) → rm a H' l' = some (.lst (fs'.map V.int)) → fs'.length = fs.length → Sml 801 fs' → Q (.ref l') H'
theorem ev_rest (n b : Int) : ∀ rs : List Int, n ∣ ev (rs.map fun x => x % n) b - ev rs b
  | [] => by simp [ev_nil]
  | r :: rs => by
    obtain ⟨t, ht⟩ := ev_rest n b rs
    rw [List.map_cons, ev_cons, ev_cons]
    refine ⟨t * b - r / n, ?_⟩
    have e := Int.emod_add_mul_ediv r n
    generalize ev (rs.map fun x => x % n) b = u at ht ⊢
    generalize ev rs b = v at ht ⊢
    generalize r / n = w at e ⊢
    generalize r % n = z at e ⊢
    grind
theorem scal_optN (r r' : Option Nat) : scal (optN r) (optN r') = true := by cases r <;> cases r' <;> rfl
def BadI (n : Int) (fs : List Int) (i : Nat) : Option Nat → Prop
  | none => ∀ m c, m < i → fs[m]? = some c → n ∣ c * fac m
  | some j => (∃ c, fs[j]? = some c ∧ ¬ n ∣ c * fac j) ∧ ∀ m c, m < j → fs[m]? = some c → n ∣ c * fac m
theorem BadI.bad {n : Int} {fs : List Int} : ∀ {r : Option Nat}, BadI n fs fs.length r → Bad n fs r
  | none, h => fun j c hc => h j c (List.getElem?_eq_some_iff.mp hc).1 hc
  | some _, h => h
theorem fac_step (i : Nat) : fac (i - 1) * (if (i : Int) > 1 then (i : Int) else 1) = fac i := by
  match i with
  | 0 => rfl
  | 1 => rfl
  | i + 2 =>
    rw [if_pos (by omega)]
    rfl
theorem bad_lt {n : Int} {fs : List Int} {j : Nat} (h : Bad n fs (some j)) : j < fs.length := by
  obtain ⟨⟨c, hc, _⟩, _⟩ := h
  exact (List.getElem?_eq_some_iff.mp hc).1
theorem isN_optN (r : Option Nat) : decide (optN r = .non) = r.isNone := by cases r <;> rfl

end Bc
namespace Bc
open PySem PySem.Spec PyProof.Rows L2
/-! ### the least base that parts, found by going through all -/
def Lst (n : Int) (F : Int → Int) (k N : Nat) : Option Nat → Prop
  | none => ∀ x : Nat, k ≤ x → x < N → n ∣ F x
  | some j => (k ≤ j ∧ j < N) ∧ ¬ n ∣ F j ∧ ∀ x : Nat, k ≤ x → x < j → n ∣ F x
theorem Lst.hit {n : Int} {F : Int → Int} {k N : Nat} (hk : k < N) (h : ¬ n ∣ F k) : Lst n F k N (some k) := ⟨⟨Nat.le_refl _, hk⟩, h, fun x h1 h2 => by omega⟩
theorem Lst.miss {n : Int} {F : Int → Int} {k N : Nat} (h : n ∣ F k) : ∀ {r : Option Nat}, Lst n F (k + 1) N r → Lst n F k N r
  | none, l => fun x h1 h2 => by
    by_cases e : x = k
    · rw [e]; exact h
    · exact l x (by omega) h2
  | some j, l => ⟨⟨by have := l.1.1; omega, l.1.2⟩, l.2.1, fun x h1 h2 => by
    by_cases e : x = k
    · rw [e]; exact h
    · exact l.2.2 x (by omega) h2⟩
theorem Lst.least {n : Int} {F : Int → Int} {N : Nat} (hN : 0 < N) (hp : ∀ x : Nat, n ∣ F x ↔ n ∣ F ((x % N : Nat) : Int)) : ∀ {r : Option Nat}, Lst n F 0 N r → Least n F r
  | none, l => fun x => (hp x).mpr (l (x % N) (Nat.zero_le _) (Nat.mod_lt _ hN))
  | some j, l => ⟨l.2.1, fun x hx => l.2.2 x (Nat.zero_le _) hx⟩
theorem hv_per {n : Int} {N : Nat} (e : n = N) (A B : List Int) (x : Nat) : n ∣ hv A x - hv B x ↔ n ∣ hv A ((x % N : Nat) : Int) - hv B ((x % N : Nat) : Int) := by
  rw [show ((x % N : Nat) : Int) = (x : Int) % n by rw [e]; rfl, Int.dvd_iff_emod_eq_zero, Int.dvd_iff_emod_eq_zero, Int.sub_emod, Int.sub_emod (hv A _), hv_mod, hv_mod]
theorem hf_memG {y : Sty} {ls : List Int} {b : Nat} {z : Int} (h : ∀ z ∈ ls, z.natAbs < 2 ^ b) (hs : y.shift.natAbs < 2 ^ b) (hz : z ∈ hf y ls) : z.natAbs < 2 ^ (b + 1) := by
  rw [Nat.pow_succ]
  have p : 0 < 2 ^ b := Nat.two_pow_pos b
  have f : ∀ w ∈ ls.map (· + y.shift), w.natAbs < 2 ^ b * 2 := fun w hw => by
    obtain ⟨v, hv, rfl⟩ := List.mem_map.mp hw
    have := h v hv
    have := Int.natAbs_add_le v y.shift
    show (v + y.shift).natAbs < _
    omega
  unfold hf at hz
  rcases List.mem_cons.mp hz with e | e
  · rw [e]
    split
    · show 1 < _
      omega
    · show 0 < _
      omega
  · split at e
    · exact f z (List.mem_reverse.mp e)
    · exact f z e
theorem dif_boundG {y : Sty} {ls ms : List Int} {b : Nat} (h1 : ∀ z ∈ ls, z.natAbs < 2 ^ b) (h2 : ∀ z ∈ ms, z.natAbs < 2 ^ b) (hs : y.shift.natAbs < 2 ^ b) : ∀ z ∈ dif y ls ms, z.natAbs < 2 ^ (b + 2) := fun z hz => by
  obtain ⟨x, w, hx, hw, rfl⟩ := psub_mem (trim_mem hz)
  have p : 0 < 2 ^ (b + 1) := Nat.two_pow_pos _
  have f : ∀ {v : Int} {l : List Int}, (∀ z ∈ l, z.natAbs < 2 ^ b) → (v ∈ (hf y l).reverse ∨ v = 0) → v.natAbs < 2 ^ (b + 1) := fun {v l} h e => by
    rcases e with e | e
    · exact hf_memG h hs (List.mem_reverse.mp e)
    · rw [e]; exact p
  have a1 := f h1 hx
  have a2 := f h2 hw
  rw [show b + 2 = b + 1 + 1 from rfl, Nat.pow_succ]
  omega
theorem hf_sum (y : Sty) (x : Int) (ls : List Int) : hv (hf y ls) x = (if y.lead then 1 else 0) * x ^ ls.length + hv (if y.low then ls.reverse else ls) x + y.shift * geo x ls.length := by
  unfold hf
  rw [hv_cons]
  by_cases h : y.low = true
  · rw [if_pos h, if_pos h, ← List.map_reverse, hv_map, List.length_map, List.length_reverse, Int.add_assoc]
  · rw [if_neg h, if_neg h, hv_map, List.length_map, Int.add_assoc]
theorem hv_add (x : Int) : ∀ {a b : List Int}, a.length = b.length → hv (List.zipWith (fun u v => u + v) a b) x = hv a x + hv b x
  | [], [], _ => by simp [hv]
  | [], _ :: _, h => by cases h
  | _ :: _, [], h => by cases h
  | u :: a, v :: b, h => by
    have h' : a.length = b.length := by simpa using h
    have el : (List.zipWith (fun u v => u + v) a b).length = a.length := by rw [List.length_zipWith]; omega
    rw [List.zipWith_cons_cons, hv_cons, hv_cons, hv_cons, hv_add x h', el, ← h']
    grind
/-- a text that differs from another one by a row -/
theorem row_dif (y : Sty) (x : Int) {ws ms : List Int} (h : ws.length = ms.length) : hv (hf y (List.zipWith (fun u v => u + v) ws ms)) x - hv (hf y ms) x = hv (if y.low then ws.reverse else ws) x := by
  have el : (List.zipWith (fun u v => u + v) ws ms).length = ms.length := by rw [List.length_zipWith]; omega
  rw [hf_sum, hf_sum, el]
  have e : hv (if y.low then (List.zipWith (fun u v => u + v) ws ms).reverse else List.zipWith (fun u v => u + v) ws ms) x = hv (if y.low then ws.reverse else ws) x + hv (if y.low then ms.reverse else ms) x := by
    by_cases hl : y.low = true
    · rw [if_pos hl, if_pos hl, if_pos hl, List.reverse_zipWith h, hv_add x (by simpa using h)]
    · rw [if_neg hl, if_neg hl, if_neg hl, hv_add x h]
  rw [e]
  omega
def spSome21 : Sp := fun vs H Q _ => ∃ (a : Addr) (c : Int), vs = [.ref a] ∧ c < 2 ^ 48 ∧ Purse H a c ∧
  ∀ (l : Addr) (H' : Hp) (ps : List (Int × Int)), Same (rm a H) (rm a H') → Purse H' a (c + 1) → PrL (rm a H') l ps → Asc 0 ps → Small ps → num ps < 2 ^ 20 → Q (.ref l) H'
def spSpread2 : Sp := fun vs H Q _ => ∃ (l : Addr) (fs : List Int) (b : Nat), vs = [.ref l] ∧ H l = some (.lst (fs.map V.int)) ∧ fs.length ≤ 60 ∧ Sml b fs ∧
  ∀ (p : Addr) (rs : List Int) (H' : Hp), H p = none → Same H H' → H' p = some (.lst (rs.map V.int)) → rs.length = fs.length + 1 → Sml (b + 7 * fs.length) rs → Q (.ref p) H'
def spReqModX (K : PySem.W.Frag) (c : CA) (Cq : Addr) : Sp := fun vs H Q E => ∃ v : V, vs = [v] ∧ ((∃ (m : Addr) (ps : List (Int × Int)), v = .ref m ∧ ModAt c H m ps ∧ Q .non H) ∨ (∃ t, TyX K H v t ∧ PySem.W.kitOne K t (.ref c.md) = some false ∧ ErrTo E Cq "place" .non H))
def spPBX (K : PySem.W.Frag) (c : CA) (Ct Cq Ck : Addr) (R : Option Nat → V) : Sp := fun vs H Q E => ∃ v u q m : V, vs = [v, u, q, m] ∧
  ((TextB K H v false ∧ ErrTo E Ct "thing" v H) ∨
   (∃ ls, TextAt H v ls ∧ TextB K H u false ∧ ErrTo E Ct "thing" u H) ∨
   (∃ ls ms t, TextAt H v ls ∧ TextAt H u ms ∧ TyX K H q t ∧ PySem.W.kitOne K t (.ref c.md) = some false ∧ ErrTo E Cq "place" .non H) ∨
   (∃ ls ms p ps t, TextAt H v ls ∧ TextAt H u ms ∧ q = .ref p ∧ ModAt c H p ps ∧ m ≠ .non ∧ TyX K H m t ∧ PySem.W.kitOne K t (.ref c.kg) = some false ∧ ErrTo E Ck "name" .non H) ∨
   (∃ ls ms p ps y, TextAt H v ls ∧ TextAt H u ms ∧ q = .ref p ∧ ModAt c H p ps ∧ ls.length ≤ 50 ∧ ms.length ≤ 50 ∧ Sml 1500 ls ∧ Sml 1500 ms ∧ y.shift.natAbs < 2 ^ 1500 ∧ ((m = .non ∧ y = ⟨false, 0, false⟩) ∨ ∃ k, m = .ref k ∧ MkAt c H k y.low y.shift y.lead) ∧
     ∀ r H', Same H H' → Least (num ps) (fun x => hv (hf y ls) x - hv (hf y ms) x) r → Q (R r) H'))
def rB (r : Option Nat) : V := .bl r.isNone
theorem Least.swap {n : Int} {A B : Int → Int} {r : Option Nat} (h : Least n (fun x => A x - B x) r) : Least n (fun x => B x - A x) r := h.congr fun x => by
  rw [← Int.dvd_neg, show -(A x - B x) = B x - A x by omega]
def spCaughtP (K : PySem.W.Frag) (c : CA) : Sp := fun vs H Q _ => ∃ (k : Int) (v u q m : V), vs = [.int k, v, u, q, m] ∧ (k = 0 ∨ k = 1) ∧
  ((TextB K H v false ∧ ∀ l H', l ≠ sysModules → H l = none → Same H H' → H' l = some (.lst [.str "text", v]) → Q (.ref l) H') ∨
   (∃ ls, TextAt H v ls ∧ TextB K H u false ∧ ∀ l H', l ≠ sysModules → H l = none → Same H H' → H' l = some (.lst [.str "text", u]) → Q (.ref l) H') ∨
   (∃ ls ms t, TextAt H v ls ∧ TextAt H u ms ∧ TyX K H q t ∧ PySem.W.kitOne K t (.ref c.md) = some false ∧ ∀ l H', l ≠ sysModules → H l = none → Same H H' → H' l = some (.lst [.str "modulus", .non]) → Q (.ref l) H') ∨
   (∃ ls ms p ps t, TextAt H v ls ∧ TextAt H u ms ∧ q = .ref p ∧ ModAt c H p ps ∧ m ≠ .non ∧ TyX K H m t ∧ PySem.W.kitOne K t (.ref c.kg) = some false ∧ ∀ l H', l ≠ sysModules → H l = none → Same H H' → H' l = some (.lst [.str "marking", .non]) → Q (.ref l) H'))
structure NoQ (K : PySem.W.Frag) (c : CA) : Prop where
  non : PySem.W.kitOne K (.type "NoneType") (.ref c.md) = some false
  int : PySem.W.kitOne K (.type "int") (.ref c.md) = some false
  lst : PySem.W.kitOne K (.type "list") (.ref c.md) = some false
  str : PySem.W.kitOne K (.type "str") (.ref c.md) = some false
  wy : PySem.W.kitOne K (.ref c.wy) (.ref c.md) = some false
def spDoorsP (c : CA) : Sp := fun vs H Q _ => ∃ (a : Addr) (v : V) (p : Addr) (ls : List Int) (ps : List (Int × Int)) (cc : Int), vs = [.ref a, v, .ref p] ∧ cc < 2 ^ 47 ∧ Purse H a cc ∧ TextAt (rm a H) v ls ∧ ModAt c (rm a H) p ps ∧ ∀ H', Same (rm a H) (rm a H') → Purse H' a (cc + 10) → Q (.bl true) H'
def rCatB : R2 := fun x y H Q => ∃ l b xs zs, x = .ref l ∧ y = .ref b ∧ H l = some (.lst xs) ∧ H b = some (.lst zs) ∧ xs.length + zs.length ≤ sizeLine ∧ ∀ p, H p = none → p ≠ sysModules → atV Q (.ref p) (upd H p (.lst (xs ++ zs)))
theorem op_catB {X : Cx} : OpR X (binaryOp .Add) rCatB := by
  rintro pins s σ H x y v u Q I rx ry ⟨l, b, xs, zs, rfl, rfl, h1, h2, hz, q⟩
  cases rx
  cases ry
  obtain ⟨_, is, _, r, l1, e1⟩ := I.lstM h1
  obtain ⟨_, js, _, r2, l2, e2⟩ := I.lstM h2
  refine PySem.P.add_list e1 e2 ?_ (by simp only [List.size_toArray]; omega)
  rw [show is.toArray ++ js.toArray = (is ++ js).toArray by simp]
  exact ⟨.ref _, _, I.lnew (t' := s.toks) (r.append r2) (by rw [List.length_append]; omega), rfl, q _ I.fresh (Nat.ne_of_gt I.big)⟩
theorem w_catB {p r : Addr} {xs ys : List V} {H : Hp} {Q : VK} (h : H p = some (.lst xs)) (h2 : H r = some (.lst ys)) (l : xs.length + ys.length ≤ sizeLine) (q : ∀ p, H p = none → p ≠ sysModules → atV Q (.ref p) (upd H p (.lst (xs ++ ys)))) : rCatB (.ref p) (.ref r) H Q := ⟨p, r, xs, ys, rfl, rfl, h, h2, l, q⟩
def spFalls2 : Sp := fun vs H Q _ => ∃ (a : Addr) (n fg mo c : Int), vs = [.ref a, .int n, .int fg, .int mo] ∧ 0 < n ∧ n.natAbs < 2 ^ 700 ∧ 0 ≤ fg ∧ fg ≤ 15 ∧ 1 ≤ mo ∧ mo ≤ 39 ∧ c < 2 ^ 47 ∧ Purse H a c ∧
  ∀ (l : Addr) (fs : List Int) (H' : Hp), H l = none → Same (rm a H) (rm a H') → Purse H' a (c + 1000) → rm a H' l = some (.lst (fs.map V.int)) → 1 ≤ fs.length → fs.length ≤ 39 → Sml 800 fs → Q (.ref l) H'
theorem w_neO {K : PySem.W.Frag} {H : Hp} {a b : Addr} {r : Option Nat} {Q : VK} (ha : H a = some (.lst [optN r, optN r])) (hb : H b = some (.lst [optN r, optN r])) (q : Q (.bl false) H) : rNeD K (.ref a) (.ref b) H Q := by
  cases r with
  | none => exact ⟨.list [.none, .none], .list [.none, .none], .lst (sq ha) (.cons .non (.cons .non .nil)), .lst (sq hb) (.cons .non (.cons .non .nil)), by decide +kernel, by decide +kernel, q⟩
  | some j => exact w_neLL (ls := [(j : Int), (j : Int)]) (ms := [(j : Int), (j : Int)]) (sq ha) (sq hb) (by rw [decide_eq_true (Eq.refl _)]; exact q)
theorem PrL.rmL {H : Hp} {l lf : Addr} {ps : List (Int × Int)} {fs : List Int} (h : PrL H l ps) (hf : H lf = some (.lst (fs.map V.int))) (n : 1 ≤ fs.length) : PrL (Bc.rm lf H) l ps := by
  obtain ⟨ts, h1, h2⟩ := h
  refine ⟨ts, rm_of (fun e => ?_) h1, paired_imp (fun q t z => rm_of (fun e => ?_) z) h2⟩
  · rw [e, hf] at h1
    have h3 : fs.map V.int = ts.map V.ref := by injection h1 with h1; injection h1
    cases fs with
    | nil => simp at n
    | cons f fs =>
      cases ts with
      | nil => cases h3
      | cons t ts => injection h3 with h3 _; cases h3
  · have z : H t = some (.tup [.int q.1, .int q.2]) := z
    rw [e, hf] at z
    cases z
def perm4P {α : Type} (us _ds ws : List α) : List α := us ++ (match ws with | [o, t, m, q] => [t, o, q, m] | z => z)
theorem perm4_vals {vs ds zs : List V} {us its ws : List Value} (r1 : Vals vs us) (_r : Vals ds its) (r2 : Vals zs ws) : Vals (perm4P vs ds zs) (perm4P us its ws) := by
  unfold perm4P
  refine r1.append ?_
  match r2 with
  | .nil => exact .nil
  | .cons a .nil => exact .cons a .nil
  | .cons a (.cons b .nil) => exact .cons a (.cons b .nil)
  | .cons a (.cons b (.cons c .nil)) => exact .cons a (.cons b (.cons c .nil))
  | .cons a (.cons b (.cons c (.cons d .nil))) => exact .cons b (.cons a (.cons d (.cons c .nil)))
  | .cons a (.cons b (.cons c (.cons d (.cons e t)))) => exact .cons a (.cons b (.cons c (.cons d (.cons e t))))
abbrev perm4 (vs zs : List V) : List V := perm4P vs [V.non] zs
def rev4P {α : Type} (us _ds ws : List α) : List α := us ++ ws.reverse
abbrev rev4 (vs zs : List V) : List V := rev4P vs [V.non] zs
theorem ten31' {z : Int} (h : z.natAbs < 10 ^ 31) : z.natAbs < 2 ^ 1500 := Nat.lt_trans h (Nat.lt_of_lt_of_le (show 10 ^ 31 < 2 ^ 104 by decide) (Nat.pow_le_pow_right (by decide) (by decide)))

end Bc
namespace Bc
open PySem PySem.Spec PyProof.Rows L2
/-! ### errors made as values -/
section
open PySem.W PySem.Calls
variable {prog : Program} {w : World} {A : Around} {E : Value → Shared → Prop} {s : Shared} {K : Frag} {x D : Addr} {ox od : Obj}
theorem kin_classD {Q : Option Value → Shared → Prop} (c : ExcC K D) (X : K.In s.heap) (I : InstAt s.heap x ox D (some od)) (h : Q (some (.ref D)) { s with toks := s.toks + 1 }) : wpAny (model prog w) A (getAttr? (.ref x) "__class__") Q E s := by
  obtain ⟨hga, hgt, hsub, hdct, ha, hn, htk, hm⟩ := c
  have hf := findObj_data (K := K) (C := D) (od := od) (by obtain ⟨cd, hc, _⟩ := any_some hdct; rw [hc]; rfl) ha hn htk
  obtain ⟨hp, g, d, t, os⟩ := s
  have L0 := I.type (M := model prog w)
  have L1 := looks_findIn (M := model prog w) X hga
  have L2 := looks_findIn (M := model prog w) X hgt
  have L3 := looks_find (M := model prog w) X I hf
  have sub : Looks (model prog w) hp (isInstance (.ref x) (.type "BaseException")) true := L0.andThen (looks_subIn X hsub)
  have hx0 : (false && onTheHeap (Value.builtin "BaseException.__getattribute__")) = false := rfl
  have hx2 : (Value.builtin "BaseException.__getattribute__" == Value.builtin "object.__getattribute__") = false := by decide +kernel
  have hx1 : (onTheHeap (Value.ref D) && Value.builtin "BaseException.__getattribute__" == Value.builtin "object.__getattribute__") = false := by rw [hx2]; rfl
  unfold getAttr? getAttrBy? getAttrBy
  refine wpAny_bind (wpAny_mkText (wpAny_bind (wpAny_attempt (wpAny_holding (wpAny_bind (L0.at (wpAny_bind (L1.at ?_))))))))
  show wpAny _ _ (if (onTheHeap (Value.ref D) && Value.builtin "BaseException.__getattribute__" == Value.builtin "object.__getattribute__") = true then _ else _) _ _ _
  rw [hx1, if_neg Bool.false_ne_true]
  unfold getAttrByItsOwn hookBefore
  refine wpAny_bind ?_
  rw [if_pos (show onTheHeap (Value.ref D) = true from rfl)]
  refine L2.at ?_
  refine wpAny_bind (wpAny_attempt (wpAny_holding ?_))
  unfold callGetattribute
  rw [hx0, if_neg Bool.false_ne_true]
  unfold boundAndCalled
  rw [PySem.F.excAttr_ValueError.ga.bind (.ref x)]
  refine wpAny_bind (wpAny_pure ?_)
  show wpAny _ _ (call (.builtin "BaseException.__getattribute__") [.ref x, .str "__class__" t]) _ _ _
  refine wpAny_call (codeAny_call_builtin PySem.F.excAttr_ValueError.ga.plain PySem.F.entry_bexc_ga ?_)
  refine @check_slot (model prog w) _ _ ⟨hp, g, d, t + 1, os⟩ "BaseException.__getattribute__" "BaseException" "__getattribute__" (.ref x) [.str "__class__" t] [] _ (by decide +kernel) (by decide +kernel) sub (PySem.F.args_bexc_ga (.ref x) (.str "__class__" t)) ?_
  unfold Builtin.«object.__getattribute__»
  refine wpAny_bind (wpAny_of_eq (a := ((Value.ref x : Value), [Value.str "__class__" t])) (by first | rfl | (simp only [slotArgs]; rfl)) ?_)
  refine wpAny_bind (wpAny_pure (wpAny_bind (L0.at (wpAny_bind (L3.at ?_)))))
  show wpAny _ _ (holding [Value.builtin "object.__class__"] (call (.builtin "getset_descriptor.__get__") [.builtin "object.__class__", .ref x, .ref D]) >>= ret) _ _ _
  refine wpAny_bind (wpAny_holding (wpAny_call (class_get (s := ⟨hp, g, d, t + 1, os⟩) (ox := ox) (od := some od) X I hm ?_)))
  refine wpAny_pure ?_
  show wpAny _ _ (handedOut (.ref D)) _ _ _
  rw [handedOut_of (v := .ref D) rfl]
  first
    | exact wpAny_pure (wpAny_pure h)
    | exact wpAny_pure h
    | exact wpAny_pure (wpAny_bind (wpAny_pure (wpAny_pure h)))
theorem kitx_excD (c : ExcC K D) : KitX K (.ref x) (.ref D) (fun h => ∃ ox od, InstAt h x ox D (some od)) where
  ty := fun _ _ _ I => by obtain ⟨ox, od, I⟩ := I; exact I.type
  it := fun _ _ X _ => by
    obtain ⟨cdD, hcD, _⟩ := any_some c.hd
    unfold clsIn at hcD
    split at hcD
    · rename_i c' d' cd' sl' ho
      intro A' Q' E' s' k q
      unfold isType loadHead
      exact wpAny_bind (wpAny_loadPart (k _ _ (X _ _ ho)) (wpAny_pure q))
    · cases hcD
  ne := fun h tp dd its n sl X htp => by
    obtain ⟨cdD, hcD, _⟩ := any_some c.hd
    refine Bool.eq_false_iff.mpr fun q => ?_
    have e : D = tp := Value.ref.inj (beq_iff_eq.mp q)
    subst e
    unfold clsIn at hcD
    split at hcD
    · rename_i c' d' cd' sl' ho
      have z := (X _ _ ho).symm.trans htp
      cases z
    · cases hcD
  ca := fun X I k => by obtain ⟨ox, od, I⟩ := I; exact kin_classD c X I k
end
/-- the type of a thing, errors among them -/
inductive TyE (K : PySem.W.Frag) (H : Hp) : V → Value → Prop
  | x {v : V} {t : Value} (h : TyX K H v t) : TyE K H v t
  | e {a C d : Addr} {fs : List (Str × V)} (h : H a = some (exo a C (some d))) (hd : H d = some (exd d fs)) (c : ExcC K C) : TyE K H (.ref a) (.ref C)
theorem TyE.same {K : PySem.W.Frag} {H H' : Hp} {v : V} {t : Value} (h : TyE K H v t) (s : Same H H') : TyE K H' v t := by
  cases h with
  | x h => exact .x (tyx_same h s)
  | e h hd c => exact .e (s _ _ h) (s _ _ hd) c
section
variable {X : Cx} {pins : List (Addr × Obj)} {σ : L2.St} {H : Hp} {s : Shared}
theorem kit_ofE {x : V} {u t : Value} (I : Inv X pins σ H s) (rx : RelV x u) (ty : TyE X.K H x t) : ∃ P : Heap → Prop, PySem.W.KitX X.K u t P ∧ P s.heap ∧ u ≠ .builtin "__main__.__loader__#opaque" := by
  cases ty with
  | x h => exact kit_of I rx h
  | @e a C d fs h hd c =>
    cases (show u = Value.ref a from rx)
    obtain ⟨t1, ha⟩ := exo_at I.hok h
    obtain ⟨mA, hns, hr⟩ := exd_at I.hok hd
    obtain ⟨od, ho, hl⟩ := lookIn_ns hns
    exact ⟨_, kitx_excD c, ⟨_, od, ha, rfl, rfl, ho⟩, fun z => nomatch z⟩
def rIsiE (K : PySem.W.Frag) : List V → Hp → VK → Prop := fun xs H Q => ∃ (x c : V) (t u : Value) (b : Bool), xs = [x, c] ∧ ClsV c u ∧ TyE K H x t ∧ PySem.W.kitOne K t u = some b ∧ Q (.bl b) H
theorem call_isiE : CallR X (.builtin "isinstance") (rIsiE X.K) := by
  intro pins s σ H xs us Q I r h
  obtain ⟨x, c, t, u, b, rfl, hc, ty, e, q⟩ := h
  cases r with
  | cons rx rr =>
    cases rr with
    | cons rt rr =>
      cases rr
      have ec := hc.eq rt
      subst ec
      obtain ⟨P, kx, hp, hne⟩ := kit_ofE I rx ty
      exact PySem.W.kia_one kx I.kIn hp e hne fun tk => ⟨.bl b, H, I.kept (t' := tk) fun _ _ z => z, rfl, q⟩
end
theorem w_isiE {K : PySem.W.Frag} {H : Hp} {Q : VK} {x : V} {C : Addr} {t : Value} {b : Bool} (ty : TyE K H x t) (e : PySem.W.kitOne K t (.ref C) = some b) (q : Q (.bl b) H) : rIsiE K [x, .ref C] H Q := ⟨x, .ref C, t, _, b, rfl, .own C, ty, e, q⟩
section
variable {X : Cx} {k j : Nat} {x f : Str} {C : Addr} {p pos : Pos} {e : Expr} {es : List Expr} {ta : TA}
def tMkV (C : Addr) (sp : Sp) (dvs : List V) (ta : TA) : TE := fun σ H Q => ta σ H fun vs H1 => vs.length ≤ 1000 ∧ ∀ a, H1 a = none → sp (.ref a :: (vs ++ dvs)) (upd H1 a (exo a C none)) (fun v H2 => v = .non ∧ Q (.ref a) H2) (fun _ _ _ => False)
theorem pe_oexV {sp : Sp} {ds : List Value} {dvs : List V} {CX : CXT} {fI : Addr} {fd : FuncData} {ps : List Str} (T : OexC X.K C) (iC : PySem.W.findIn X.K (.ref C) "__init__" = some (some (.ref fI))) (tI : PySem.W.typeIn X.K (.ref fI) = some (.type "function"))
    (F1 : FnOk X.prog X.w X.K X.mg X.base CX k fI fd ps sp) (hr : Room (k + 1) X.A) (hb : Binds X.K fd ps ds) (hd : Vals dvs ds) (hx : Passes CX X (fun _ _ _ => False)) (hg : Gl X x) (hm : X.mg x = some (.ref C)) (ha : PA X (e :: es) ta)
    (hdb : (x == ("__debug__" : Str)) = false := by decide) (he : starEach (e :: es) X.env = (false, eval e X.env) :: starEach es X.env := by rfl) (hpl : (backTo pos (starEach es X.env)).any (·.1) = false := by rfl) :
    PE X (.Call (.Name x p) (e :: es) [] pos) (tMkV C sp dvs ta) := by
  refine ⟨fun pins s σ H Q I h => ?_⟩
  obtain ⟨nm, q, N, bs, bm, sn, sub, ab, col, dd, k0, k1, k2, k3, k5, hC, hbm⟩ := T.cls
  refine wpAny_Call_Name_kw (ld_glob I hg hm ?_ hdb)
  refine PySem.W.callWith_K (h₀ := X.base) I.ok.mod.kin T.kC (thn (ha.run pos pins s σ H _ I h) fun us s1 ⟨vs, H1, I1, r1, hz, q1⟩ => ⟨I1.kIn, ?_⟩) he hpl
  show wpAny _ _ (call (.ref C) us) _ _ _
  obtain ⟨hp, g, dr, tk, os⟩ := s1
  have hsz : hp.objs.size ≤ hp.objs.size + 1 := Nat.le_succ _
  have hn : H1 (hp.objs.size + 1) = none := I1.hok.fresh hsz
  have hq := q1 (hp.objs.size + 1) hn
  have kk : ∀ b o, hp.get? b = some o → ((hp.push (PySem.W.kdv_tup us)).push (PySem.HandSPX.excO C hp.objs.size)).get? b = some o := fun b o e => Heap.get?_push_of_some _ (Heap.get?_push_of_some _ e)
  have hget : ((hp.push (PySem.W.kdv_tup us)).push (PySem.HandSPX.excO C hp.objs.size)).get? (hp.objs.size + 1) = some (PySem.HandSPX.excO C hp.objs.size) := by heap_get
  have I2 : Inv X pins σ (upd H1 (hp.objs.size + 1) (exo (hp.objs.size + 1) C none)) ⟨(hp.push (PySem.W.kdv_tup us)).push (PySem.HandSPX.excO C hp.objs.size), g, dr, tk, os⟩ :=
    I1.laid (t' := tk) (a := hp.objs.size + 1) (o := exo (hp.objs.size + 1) C none) (h' := (hp.push (PySem.W.kdv_tup us)).push (PySem.HandSPX.excO C hp.objs.size)) kk hsz (exo_ok hget)
  have r2 : Vals (V.ref (hp.objs.size + 1) :: (vs ++ dvs)) (Value.ref (hp.objs.size + 1) :: (us ++ ds)) := .cons rfl (r1.append hd)
  have hl : (Value.ref (hp.objs.size + 1) :: us ++ ds).length = ps.length := by
    have e := r2.length
    rw [F1.len _ _ _ _ hq] at e
    exact e.symm
  have hus : us.length ≤ sizeLine := by
    rw [← Paired.length r1, sizeLine_eq]
    omega
  refine wpAny_call (PySem.HandSPX.call_own F.excBase_ValueError (fun Y => PySem.HandSPX.refsVE_contains Y bm hbm) (I1.kIn _ _ hC) (PySem.W.looks_findIn I1.kIn iC) (fun self => PySem.W.bind_fn I1.kIn self tI) hus
    (codeAny_mono (F1.run _ X.stack _ _ ⟨Value.ref (hp.objs.size + 1) :: us, []⟩ (Value.ref (hp.objs.size + 1) :: (us ++ ds)) _ _ (fun _ _ _ => False) (hr.make C us []) (I2.env0.make C us []) (hb _ (Value.ref (hp.objs.size + 1) :: us) I2.kIn hl) r2 hq) fun r s' hq' => ?_))
  cases r with
  | error er => exact hx pins σ _ _ er s' I2 hq'
  | ok fl =>
    cases fl with
    | ret u =>
      obtain ⟨v, H', I3, rv, ev, q3⟩ := I2.after hq'
      subst ev
      exact ⟨rv, V.ref (hp.objs.size + 1), H', I3, rfl, q3⟩
    | next => exact False.elim hq'
    | brk => exact False.elim hq'
    | cont => exact False.elim hq'
theorem pe_errV (c : Err X.prog X.w X.K X.mg X.base k x C f) (hr : Room j X.A) (hk : k + 1 ≤ j) (hg : Gl X x) (ha : PA X (e :: es) ta)
    (hdb : (x == ("__debug__" : Str)) = false := by decide) (he : starEach (e :: es) X.env = (false, eval e X.env) :: starEach es X.env := by rfl) (hpl : (backTo pos (starEach es X.env)).any (·.1) = false := by rfl) :
    PE X (.Call (.Name x p) (e :: es) [] pos) (tMkV C (spErr C f) [] ta) := by
  obtain ⟨fI, fd, ps, T, iC, tI, F, b, hm⟩ := c.ex
  exact pe_oexV T iC tI F (hr.mono hk) b .nil (fun _ _ _ _ _ _ _ h => h.elim) hg hm ha hdb he hpl
end
theorem w_mkV {C : Addr} {sp : Sp} {ta : TA} {σ : L2.St} {H : Hp} {Q : VK} (q : ta σ H fun vs H1 => vs.length ≤ 1000 ∧ ∀ a, H1 a = none → sp (.ref a :: (vs ++ [])) (upd H1 a (exo a C none)) (fun v H2 => v = .non ∧ Q (.ref a) H2) (fun _ _ _ => False)) : tMkV C sp [] ta σ H Q := q
theorem use_errV {C : Addr} {f : Str} {v : V} {H : Hp} {Q : Addr → Hp → Prop} {E : XK} (q : ∀ a d H2, H a = none → Same H H2 → H2 a = some (exo a C (some d)) → H2 d = some (exd d [(f, v)]) → Q a H2) :
    [v].length ≤ 1000 ∧ ∀ a, H a = none → spErr C f (.ref a :: ([v] ++ [])) (upd H a (exo a C none)) (fun u H2 => u = .non ∧ Q a H2) E :=
  ⟨by show 1 ≤ 1000; decide, fun a na => ⟨a, v, rfl, upd_same, fun dx nd ne => ⟨rfl, q a dx _ na (fun b o h => by
    have nb : b ≠ a := ne_of_none h na
    have nb2 : b ≠ dx := ne_of_none h (by rw [upd_ne ne] at nd; exact nd)
    rw [upd_ne nb, upd_ne nb2, upd_ne nb]
    exact h) upd_same (by rw [upd_ne ne, upd_same])⟩⟩⟩

end Bc
namespace Bc
open PySem PySem.Spec PyProof.Rows L2
/-! ### constructors and methods that may raise, at the caller's slots -/
section
variable {X : Cx} {CX : CXT} {k j : Nat} {f C : Addr} {fd : FuncData} {ps : List Str} {sp : Sp} {dvs : List V} {ds : List Value} {E : L2.St → XK} {x m : Str} {p pos apos : Pos} {e o : Expr} {es : List Expr} {ta : TE} {t tk' : TA} {W : WX}
def tMakeSD (C : Addr) (sp : Sp) (dvs : List V) (E : L2.St → XK) (t : TA) : TE := fun σ H Q => t σ H fun vs H1 => ∀ x dx, H1 x = none → H1 dx = none → dx ≠ x →
  sp (.ref x :: (vs ++ dvs)) (upd (upd H1 dx (.own x)) x (.ins C dx [])) (fun v H2 => v = .non ∧ Q (.ref x) H2) (E σ)
theorem run_makeSD {pins : List (Addr × Obj)} {σ : L2.St} {H : Hp} {s : Shared} {Q : VK} {us : List Value} {vs : List V} (M : Mk X.K C f) (F : FnOk X.prog X.w X.K X.mg X.base CX k f fd ps sp) (hr : Room (k + 1) X.A) (hb : Binds X.K fd ps ds) (hd : Vals dvs ds)
    (hx : PassesAt CX X σ (E σ)) (I : Inv X pins σ H s) (r : Vals vs us)
    (h : ∀ x dx, H x = none → H dx = none → dx ≠ x → sp (.ref x :: (vs ++ dvs)) (upd (upd H dx (.own x)) x (.ins C dx [])) (fun v H2 => v = .non ∧ Q (.ref x) H2) (E σ)) :
    wpAny (model X.prog X.w) X.A (call (.ref C) us) (EP X pins σ Q) X.xe s := by
  have hq := h (s.heap.objs.size + 1) s.heap.objs.size (I.hok.fresh (Nat.le_succ _)) (I.hok.fresh (Nat.le_refl _)) (Nat.ne_of_lt (Nat.lt_succ_self _))
  have I2 := Inv.made (C := C) I
  have r2 : Vals (V.ref (s.heap.objs.size + 1) :: (vs ++ dvs)) (Value.ref (s.heap.objs.size + 1) :: (us ++ ds)) := .cons rfl (r.append hd)
  have hl : (Value.ref (s.heap.objs.size + 1) :: us ++ ds).length = ps.length := by
    have e := r2.length
    rw [F.len _ _ _ _ hq] at e
    exact e.symm
  refine wpAny_call (make_map (f := f) I.kIn M.makes M.init (beq_iff_eq.mp M.fn) (codeAny_mono (F.run _ X.stack _ _ ⟨Value.ref (s.heap.objs.size + 1) :: us, []⟩ (Value.ref (s.heap.objs.size + 1) :: (us ++ ds)) _ _ (E σ) (hr.make C us [])
    (I2.env0.make C us []) (hb _ (Value.ref (s.heap.objs.size + 1) :: us) I2.kIn hl) r2 hq) fun r s' hq' => ?_))
  cases r with
  | error e => exact hx pins _ _ e s' I2 hq'
  | ok fl =>
    cases fl with
    | ret u =>
      obtain ⟨v, H', I3, rv, ev, q3⟩ := I2.after hq'
      subst ev
      exact ⟨rv, ⟨V.ref (s.heap.objs.size + 1), H', I3, rfl, q3⟩⟩
    | next => exact False.elim hq'
    | brk => exact False.elim hq'
    | cont => exact False.elim hq'
structure MakX (P : Program) (w : World) (K : PySem.W.Frag) (mg : Str → Option Value) (base : Heap) (k : Nat) (x : Str) (C : Addr) (sp : Sp) (dvs : List V) : Prop where
  ex : ∃ (f : Addr) (fd : FuncData) (ps : List Str) (ds : List Value), Mk K C f ∧ FnOk P w K mg base (L2.CX P w) k f fd ps sp ∧ mg x = some (.ref C) ∧ Binds K fd ps ds ∧ Vals dvs ds
theorem pe_mkX (c : MakX X.prog X.w X.K X.mg X.base k x C sp dvs) (hr : Room j X.A) (hk : k + 1 ≤ j) (hg : Gl X x) (tk : Takes X W) (ha : PA X (e :: es) t)
    (hdb : (x == ("__debug__" : Str)) = false := by decide) (he : starEach (e :: es) X.env = (false, eval e X.env) :: starEach es X.env := by rfl) (hpl : (backTo pos (starEach es X.env)).any (·.1) = false := by rfl) :
    PE X (.Call (.Name x p) (e :: es) [] pos) (tMakeSD C sp dvs (WE W) t) := by
  obtain ⟨f, fd, ps, ds, M, F, hm, b, d⟩ := c.ex
  refine ⟨fun pins s σ H Q I h => ?_⟩
  refine wpAny_Call_Name_kw (ld_glob I hg hm ?_ hdb)
  refine PySem.W.callWith_K (h₀ := X.base) I.ok.mod.kin M.kp (thn (ha.run pos pins s σ H _ I h) fun us s1 ⟨vs, H1, I1, r, q⟩ => ⟨I1.kIn, ?_⟩) he hpl
  exact run_makeSD M F (hr.mono hk) b d (passAt tk σ) I1 r q
/-- a call of it that raises nothing -/
theorem pe_mkL (c : MakX X.prog X.w X.K X.mg X.base k x C sp dvs) (hr : Room j X.A) (hk : k + 1 ≤ j) (hg : Gl X x) (ha : PA X (e :: es) t)
    (hdb : (x == ("__debug__" : Str)) = false := by decide) (he : starEach (e :: es) X.env = (false, eval e X.env) :: starEach es X.env := by rfl) (hpl : (backTo pos (starEach es X.env)).any (·.1) = false := by rfl) :
    PE X (.Call (.Name x p) (e :: es) [] pos) (tMake C sp dvs L2.E0 t) := by
  obtain ⟨f, fd, ps, ds, M, F, hm, b, d⟩ := c.ex
  exact pe_make M F (hr.mono hk) hg hm b d passL ha hdb he hpl
theorem pe_mkL0 (c : MakX X.prog X.w X.K X.mg X.base k x C sp dvs) (hr : Room j X.A) (hk : k + 1 ≤ j) (hg : Gl X x) (hdb : (x == ("__debug__" : Str)) = false := by decide) : PE X (.Call (.Name x p) [] [] pos) (tMake C sp dvs L2.E0 tNil) := by
  obtain ⟨f, fd, ps, ds, M, F, hm, b, d⟩ := c.ex
  exact pe_make0 M F (hr.mono hk) hg hm b d passL hdb
theorem w_makeX {σ : L2.St} {H : Hp} {Q : VK} (q : t σ H fun vs H1 => ∀ x dx, H1 x = none → H1 dx = none → dx ≠ x → sp (.ref x :: (vs ++ dvs)) (upd (upd H1 dx (.own x)) x (.ins C dx [])) (fun v H2 => v = .non ∧ Q (.ref x) H2) fun cls d H2 => W cls d σ H2) : tMakeSD C sp dvs (WE W) t σ H Q := q
/-! with keywords alone -/
def tMakeKS (C : Addr) (m : Nat) (sp : Sp) (gV : List V → List V → List V) (E : L2.St → XK) (tk : TA) : TE := fun σ H Q => tk σ H fun zs H2 => zs.length = m ∧ ∀ x dx, H2 x = none → H2 dx = none → dx ≠ x →
  sp (gV [.ref x] zs) (upd (upd H2 dx (.own x)) x (.ins C dx [])) (fun v H3 => v = .non ∧ Q (.ref x) H3) (E σ)
structure MakXK (P : Program) (w : World) (K : PySem.W.Frag) (mg : Str → Option Value) (base : Heap) (k : Nat) (x : Str) (C : Addr) (ks : List Str) (sp : Sp) (gV : List V → List V → List V) : Prop where
  ex : ∃ (f : Addr) (fd : FuncData) (ps : List Str) (g : List Value → List Value → List Value), Mk K C f ∧ FnOk P w K mg base (L2.CX P w) k f fd ps sp ∧ mg x = some (.ref C) ∧ KBn K fd ps 1 ks g gV
theorem run_makeKS {pins : List (Addr × Obj)} {σ : L2.St} {H : Hp} {s : Shared} {Q : VK} {ks : List Str} {ws : List Value} {zs : List V} {g : List Value → List Value → List Value} {gV : List V → List V → List V} (M : Mk X.K C f) (F : FnOk X.prog X.w X.K X.mg X.base CX k f fd ps sp) (hr : Room (k + 1) X.A) (hb : KBn X.K fd ps 1 ks g gV) (hx : PassesAt CX X σ (E σ))
    (I : Inv X pins σ H s) (rz : Vals zs ws) (l2 : zs.length = ks.length)
    (h : ∀ x dx, H x = none → H dx = none → dx ≠ x → sp (gV [.ref x] zs) (upd (upd H dx (.own x)) x (.ins C dx [])) (fun v H2 => v = .non ∧ Q (.ref x) H2) (E σ)) :
    wpAny (model X.prog X.w) X.A (call (.ref C) [] (ks.zip ws)) (EP X pins σ Q) X.xe s := by
  have hq := h (s.heap.objs.size + 1) s.heap.objs.size (I.hok.fresh (Nat.le_succ _)) (I.hok.fresh (Nat.le_refl _)) (Nat.ne_of_lt (Nat.lt_succ_self _))
  have I2 := Inv.made (C := C) I
  have r1 : Vals [V.ref (s.heap.objs.size + 1)] [Value.ref (s.heap.objs.size + 1)] := .cons rfl .nil
  have r2 := hb.rel r1 rz
  refine wpAny_call (make_map (f := f) I.kIn M.makes M.init (beq_iff_eq.mp M.fn) (codeAny_mono (F.run _ X.stack _ _ ⟨[Value.ref (s.heap.objs.size + 1)], ks.zip ws⟩ (g [Value.ref (s.heap.objs.size + 1)] ws) _ _ (E σ) (hr.make C [] (ks.zip ws))
    (I2.env0.make C [] (ks.zip ws)) (hb.to _ [Value.ref (s.heap.objs.size + 1)] ws I2.kIn rfl (rz.length.symm.trans l2)) r2 hq) fun r s' hq' => ?_))
  cases r with
  | error e => exact hx pins _ _ e s' I2 hq'
  | ok fl =>
    cases fl with
    | ret u =>
      obtain ⟨v, H', I3, rv, ev, q3⟩ := I2.after hq'
      subst ev
      exact ⟨rv, ⟨V.ref (s.heap.objs.size + 1), H', I3, rfl, q3⟩⟩
    | next => exact False.elim hq'
    | brk => exact False.elim hq'
    | cont => exact False.elim hq'
theorem pe_mkXK {ks : List Str} {gV : List V → List V → List V} {kws : List Keyword} {tk : TA} (c : MakXK X.prog X.w X.K X.mg X.base k x C ks sp gV) (hr : Room j X.A) (hk : k + 1 ≤ j) (hg : Gl X x) (tk' : Takes X W) (hkw : PK X kws tk)
    (hall : (backToKw pos (keywordEach kws X.env)).all (·.1.isSome) = true := by rfl) (hks : (backToKw pos (keywordEach kws X.env)).filterMap (·.1) = ks := by rfl) (hdb : (x == ("__debug__" : Str)) = false := by decide)
    (hpl : ((backTo pos (starEach [] X.env)).any (·.1) || (backToKw pos (keywordEach kws X.env)).any (·.1.isNone)) = false := by rfl) :
    PE X (.Call (.Name x p) [] kws pos) (tMakeKS C ks.length sp gV (WE W) tk) := by
  obtain ⟨f, fd, ps, g, M, F, hm, b⟩ := c.ex
  refine ⟨fun pins s σ H Q I h => ?_⟩
  refine wpAny_Call_Name_kw (ld_glob I hg hm ?_ hdb)
  refine PySem.W.callWith_KW0 (h₀ := X.base) I.ok.mod.kin M.kp hall ?_ hpl
  refine thn (hkw.run pos pins s σ H _ I h) fun ws s2 ⟨zs, H2, I2, rz, l2, q2⟩ => ⟨I2.kIn, ?_⟩
  rw [hks]
  exact run_makeKS M F (hr.mono hk) b (passAt tk' σ) I2 rz l2 q2
theorem pe_mkLK {ks : List Str} {gV : List V → List V → List V} {kws : List Keyword} {tk : TA} (c : MakXK X.prog X.w X.K X.mg X.base k x C ks sp gV) (hr : Room j X.A) (hk : k + 1 ≤ j) (hg : Gl X x) (hkw : PK X kws tk)
    (hall : (backToKw pos (keywordEach kws X.env)).all (·.1.isSome) = true := by rfl) (hks : (backToKw pos (keywordEach kws X.env)).filterMap (·.1) = ks := by rfl) (hdb : (x == ("__debug__" : Str)) = false := by decide)
    (hpl : ((backTo pos (starEach [] X.env)).any (·.1) || (backToKw pos (keywordEach kws X.env)).any (·.1.isNone)) = false := by rfl) :
    PE X (.Call (.Name x p) [] kws pos) (tMakeK C 0 ks.length sp gV L2.E0 tNil tk) := by
  obtain ⟨f, fd, ps, g, M, F, hm, b⟩ := c.ex
  exact pe_makeK0 M F (hr.mono hk) hg hm b passL hkw hall hks hdb hpl
theorem w_makeKS {σ : L2.St} {H : Hp} {Q : VK} {n : Nat} {gV : List V → List V → List V} {tk : TA} (q : tk σ H fun zs H2 => zs.length = n ∧ ∀ x dx, H2 x = none → H2 dx = none → dx ≠ x → sp (gV [.ref x] zs) (upd (upd H2 dx (.own x)) x (.ins C dx [])) (fun v H3 => v = .non ∧ Q (.ref x) H3) fun cls d H2 => W cls d σ H2) : tMakeKS C n sp gV (WE W) tk σ H Q := q
/-! methods -/
def tMethSD (C : Addr) (m : Str) (sp : Sp) (dvs : List V) (E : L2.St → XK) (ta : TE) (t : TA) : TE := fun σ H Q => ta σ H fun x H1 => ∃ a dx fs, x = .ref a ∧ H1 a = some (.ins C dx fs) ∧ fs.lookup m = none ∧
  t σ H1 fun vs H2 => sp (x :: (vs ++ dvs)) H2 Q (E σ)
structure MetX (P : Program) (w : World) (K : PySem.W.Frag) (mg : Str → Option Value) (base : Heap) (k : Nat) (C : Addr) (m : Str) (sp : Sp) (dvs : List V) : Prop where
  ex : ∃ (f : Addr) (fd : FuncData) (ps : List Str) (ds : List Value), Cls K C ∧ Meth K C m f ∧ FnOk P w K mg base (L2.CX P w) k f fd ps sp ∧ Binds K fd ps ds ∧ Vals dvs ds
theorem pe_mtX {pl : Sem Bool} (c : MetX X.prog X.w X.K X.mg X.base k C m sp dvs) (hr : Room j X.A) (hk : k ≤ j) (tk : Takes X W) (he : PE X o ta) (ha : PA X (e :: es) t)
    (hst : starEach (e :: es) X.env = (false, eval e X.env) :: starEach es X.env := by rfl) (hpl : (backTo pos (starEach es X.env)).any (·.1) = false := by rfl)
    (ht : eval (.Call (.Attribute o m apos) (e :: es) [] pos) X.env = (do
      let ov ← eval o X.env
      standAt apos.atName
      let (f, first) ← holding [ov] (getMethod ov m pl)
      callWith pos f first (backTo pos (starEach (e :: es) X.env)) (backToKw pos (keywordEach [] X.env))) := by rfl) :
    PE X (.Call (.Attribute o m apos) (e :: es) [] pos) (tMethSD C m sp dvs (WE W) ta t) := by
  obtain ⟨f, fd, ps, ds, cl, hm, F, b, d⟩ := c.ex
  refine ⟨fun pins s σ H Q I h => ?_⟩
  refine PySem.W.methodCall_KW (pl := pl) (thn (he.run pins s σ H _ I h) fun u s1 ⟨x, H1, I1, rx, a, dx, fs, ex, ea, l, q⟩ => ?_) ht
  subst ex
  obtain rfl : u = Value.ref a := rx
  refine getmeth_ok I1 ea cl hm l ?_
  refine PySem.W.callWith_K (first := [.ref a]) (h₀ := X.base) I.ok.mod.kin hm.kp (thn (ha.run pos pins s1 σ H1 _ I1 q) fun us s2 ⟨vs, H2, I2, r, q2⟩ => ⟨I2.kIn, ?_⟩) hst hpl
  exact run_fnSD (us := .ref a :: us) (vs := .ref a :: vs) F (hr.mono hk) b d (passAt tk σ) I2 (.cons rfl r) q2
theorem pe_mtL {pl : Sem Bool} (c : MetX X.prog X.w X.K X.mg X.base k C m sp dvs) (hr : Room j X.A) (hk : k ≤ j) (he : PE X o ta) (ha : PA X (e :: es) t)
    (hst : starEach (e :: es) X.env = (false, eval e X.env) :: starEach es X.env := by rfl) (hpl : (backTo pos (starEach es X.env)).any (·.1) = false := by rfl)
    (ht : eval (.Call (.Attribute o m apos) (e :: es) [] pos) X.env = (do
      let ov ← eval o X.env
      standAt apos.atName
      let (f, first) ← holding [ov] (getMethod ov m pl)
      callWith pos f first (backTo pos (starEach (e :: es) X.env)) (backToKw pos (keywordEach [] X.env))) := by rfl) :
    PE X (.Call (.Attribute o m apos) (e :: es) [] pos) (tMeth C m sp dvs L2.E0 ta t) := by
  obtain ⟨f, fd, ps, ds, cl, hm, F, b, d⟩ := c.ex
  exact pe_meth he cl hm F (hr.mono hk) b d passL ha hst hpl ht
theorem w_methX {σ : L2.St} {H : Hp} {Q : VK} (q : ta σ H fun x H1 => ∃ a dx fs, x = .ref a ∧ H1 a = some (.ins C dx fs) ∧ fs.lookup m = none ∧ t σ H1 fun vs H2 => sp (x :: (vs ++ dvs)) H2 Q fun cls d H3 => W cls d σ H3) : tMethSD C m sp dvs (WE W) ta t σ H Q := q
end
/-! ### == and != by an own __eq__ -/
structure EqO (P : Program) (w : World) (K : PySem.W.Frag) (mg : Str → Option Value) (base : Heap) (k : Nat) (C : Addr) (sp : Sp) : Prop where
  ex : ∃ (f : Addr) (fd : FuncData) (ps : List Str), PySem.W.findIn K (.ref C) "__eq__" = some (some (.ref f)) ∧ PySem.W.isFn K (.ref f) = true ∧ PySem.W.findIn K (.ref C) "__ne__" = some (some (.builtin "object.__ne__")) ∧ PySem.W.mroIn K C (.type "object") = some true ∧ FnOk P w K mg base L2.CX0 k f fd ps sp ∧ Binds K fd ps []
def rEqO (K : PySem.W.Frag) (C : Addr) (sp : Sp) : R2 := fun x y H Q => ∃ a dx fs t, x = .ref a ∧ H a = some (.ins C dx fs) ∧ TyE K H y t ∧ PySem.W.notFirst K C t = true ∧ sp [x, y] H (fun v H' => ∃ b, v = .bl b ∧ Q (.bl b) H') L2.E0
def rNeO (K : PySem.W.Frag) (C : Addr) (sp : Sp) : R2 := fun x y H Q => ∃ a dx fs t, x = .ref a ∧ H a = some (.ins C dx fs) ∧ TyE K H y t ∧ PySem.W.notFirst K C t = true ∧ sp [x, y] H (fun v H' => ∃ b, v = .bl b ∧ Q (.bl (!b)) H') L2.E0
section
variable {M : Model} {prog : Program} {w : World} {A : Around} {E : Value → Shared → Prop} {s : Shared} {K : PySem.W.Frag} {x C f : Addr} {ox : Obj} {od : Option Obj} {b tb : Value}
theorem ifBound_objNe {args : List Value} {Q : Option Value → Shared → Prop} (X : K.In s.heap) (I : PySem.W.InstAt s.heap x ox C od) (hs : PySem.W.findIn K (.ref C) "__ne__" = some (some (.builtin "object.__ne__")))
    (h : wpAny M A (call (.builtin "object.__ne__") (.ref x :: args)) (fun v => Q (some v)) E s) : wpAny M A (callSpecialIfBound? (.ref x) "__ne__" args) Q E s := by
  simp only [callSpecialIfBound?, bindSpecialIfBound?]
  refine wpAny_holding (wpAny_bind (wpAny_bind (wpAny_bind (I.type.here ((PySem.W.looks_findIn X hs).here ?_)))))
  refine wpAny_bind (wpAny_askSetting (wpAny_ite ?_))
  have fin : wpAny M A (call (.builtin "object.__ne__") ([.ref x] ++ args) >>= fun v => pure (some v)) Q E s := wpAny_bind (wpAny_mono h (fun v s' h' => wpAny_pure h') fun _ _ h' => h')
  split
  · exact wpAny_bind (wpAny_of_eq (F.cmp_object.ne.bind _) (wpAny_pure (by exact fin)))
  · exact wpAny_tryCatch (wpAny_bind (wpAny_of_eq (F.cmp_object.ne.bind _) (wpAny_pure (by exact fin))))
theorem objNe_entry_K (X : K.In s.heap) (I : PySem.W.InstAt s.heap x ox C od) (hs : PySem.W.findIn K (.ref C) "__eq__" = some (some (.ref f))) (hf : PySem.W.isFn K (.ref f) = true) (hu : A.units < cLine) {Q : Fin → Shared → Prop}
    (hcall : wpAny (model prog w) A (call (.ref f) [.ref x, b]) (fun v s' => ∃ r, v = .bool r ∧ Q (.done (.ret (.bool (!r)))) s') E s) :
    wpAny (model prog w) A (Builtin.«object.__ne__» ⟨[.ref x, b], []⟩) Q E s := by
  unfold Builtin.«object.__ne__»
  repeat (first
    | with_reducible refine wpAny_cRoomFor hu ?_
    | (refine wpAny_bind (m := callSpecialIfBound? (.ref x) (Str.ofString "__eq__") [b])
        (PySem.W.ifBound_K X I hs hf (wpAny_mono hcall (fun r s' hr => by
          obtain ⟨b, rfl, hq⟩ := hr
          repeat (first | exact hq | exact wpAny_pure hq | exact wpAny_truthy_bool hq | (refine wpAny_bind (m := truthy (.bool _)) (wpAny_truthy_bool ?_)) | wp_step)) fun _ _ e => e)))
    | wp_step)
theorem ne_K {Q : Value → Shared → Prop} (hu : A.units + 1 < cLine) (X : K.In s.heap) (I : PySem.W.InstAt s.heap x ox C od) (hb : PySem.W.Looks (model prog w) s.heap (typeOf b) tb) (hn : PySem.W.notFirst K C tb = true)
    (hs : PySem.W.findIn K (.ref C) "__eq__" = some (some (.ref f))) (hf : PySem.W.isFn K (.ref f) = true) (hne : PySem.W.findIn K (.ref C) "__ne__" = some (some (.builtin "object.__ne__"))) (hm : PySem.W.mroIn K C (.type "object") = some true)
    (h : wpAny (model prog w) A.in1 (call (.ref f) [.ref x, b]) (fun v s' => ∃ r, v = .bool r ∧ Q (.bool (!r)) s') E s) : wpAny (model prog w) A (richCompare .NotEq (.ref x) b) Q E s := by
  have one : wpAny (model prog w) A (tryCompare (.ref x) (cmpInfo .NotEq).2.1 b) (fun r s' => ∃ v, r = some v ∧ Q v s') E s := by
    show wpAny (model prog w) A (tryCompare (.ref x) "__ne__" b) _ E s
    unfold tryCompare
    refine wpAny_bind (ifBound_objNe X I hne (wpAny_call (codeAny_call_builtin F.cmp_object.ne.plain F.cmpEntry_ne (PySem.W.check_slot F.cmpKind_ne F.cmpSplit_ne (I.type.andThen (PySem.W.looks_mroIn X hm)) (F.cmpArgs_ne _ _)
      (objNe_entry_K (A := A.in1) X I hs hf hu (wpAny_mono h (fun v s' hv => ?_) fun _ _ e => e))))))
    obtain ⟨r, rfl, hq⟩ := hv
    first | exact ⟨r, rfl, wpAny_pure ⟨_, rfl, hq⟩⟩ | exact ⟨r, rfl, wpAny_pure (wpAny_pure ⟨_, rfl, hq⟩)⟩ | exact ⟨r, rfl, _, rfl, hq⟩
  unfold richCompare
  simp only [oneThing_ref]
  refine wpAny_holding (wpAny_bind (wpAny_cRoomFor (Nat.lt_of_succ_lt hu) ?_))
  refine wpAny_bind (I.type.here (wpAny_bind (hb.here ?_)))
  split
  · rename_i q
    have e : PySem.W.subIn K tb (.ref C) = some false := by
      rcases Bool.or_eq_true_iff.mp hn with e | e
      · rw [beq_iff_eq.mp e] at q; simp at q
      · exact beq_iff_eq.mp e
    refine wpAny_bind ((PySem.W.looks_subIn X e).here ?_)
    simp only [Bool.false_eq_true, if_false]
    refine wpAny_bind (wpAny_mono one (fun r s' z => ?_) fun _ _ e => e)
    obtain ⟨v, rfl, hq⟩ := z
    exact wpAny_pure hq
  · refine wpAny_bind (wpAny_pure ?_)
    simp only [Bool.false_eq_true, if_false]
    refine wpAny_bind (wpAny_mono one (fun r s' z => ?_) fun _ _ e => e)
    obtain ⟨v, rfl, hq⟩ := z
    exact wpAny_pure hq
end
section
variable {X : Cx} {k j : Nat} {C : Addr} {sp : Sp}
theorem run_eqO {A : Around} {pins : List (Addr × Obj)} {σ : L2.St} {H : Hp} {s : Shared} {Q : VK} {f : Addr} {fd : FuncData} {ps : List Str} {a : Addr} {y : V} {u : Value} (F : FnOk X.prog X.w X.K X.mg X.base L2.CX0 k f fd ps sp) (hb : Binds X.K fd ps []) (hr : Room k A) (hfr : A.frames = X.A.frames) (I : Inv X pins σ H s) (ry : RelV y u)
    (h : sp [.ref a, y] H Q L2.E0) : wpAny (model X.prog X.w) A (call (.ref f) [.ref a, u]) (EP X pins σ Q) X.xe s := by
  have e0 : Env0 X.prog X.w X.K X.mg X.base A X.stack s H := by
    have e := I.env0
    exact ⟨by rw [hfr]; exact e.frames, e.mod, e.bs, e.bsz, e.funs, e.frf, e.hok, e.bare⟩
  have hl := F.len _ _ _ _ h
  have r2 : Vals [V.ref a, y] [Value.ref a, u] := .cons rfl (.cons ry .nil)
  refine wpAny_call (codeAny_mono (F.run A X.stack s H ⟨[.ref a, u], []⟩ [.ref a, u] [.ref a, y] Q L2.E0 hr e0 (by
    have := hb s [.ref a, u] I.kIn (by simpa using hl)
    simpa using this) r2 h) fun r s' hq => ?_)
  cases r with
  | error e => exact hq.elim
  | ok fl =>
    cases fl with
    | ret w => exact I.after hq
    | next => exact False.elim hq
    | brk => exact False.elim hq
    | cont => exact False.elim hq
theorem op_eqO (c : EqO X.prog X.w X.K X.mg X.base k C sp) (hr : Room j X.A) (hk : k ≤ j) : OpR X (compareOp .Eq) (rEqO X.K C sp) := by
  intro pins s σ H x y v u Q I rx ry h
  obtain ⟨f, fd, ps, hs, hf, _, _, F, b⟩ := c.ex
  obtain ⟨a, dx, fs, t, rfl, ha, ty, nf, q⟩ := h
  cases rx
  obtain ⟨mA, O, _⟩ := ins_get I.hok ha
  obtain ⟨od, J, _⟩ := O.look
  obtain ⟨m, hF⟩ := I.fr
  obtain ⟨P, kx, hp, _⟩ := kit_ofE I ry ty
  show wpAny (model X.prog X.w) X.A (richCompare .Eq (.ref a) u) (EP X pins σ Q) X.xe s
  refine PySem.W.cmp_K (op := .Eq) (tb := t) hr.units0 hF I.ok.mod.kin J (kx.ty _ _ I.kIn hp) nf hs hf ?_
  refine wpAny_mono (run_eqO F b (hr.mono hk) rfl I ry q) (fun v' s' hv => ?_) fun _ _ e => e
  obtain ⟨z, H', I', rz, r, ez, qz⟩ := hv
  subst ez
  cases rz
  exact ⟨.bl r, H', I', rfl, qz⟩
theorem op_neO (c : EqO X.prog X.w X.K X.mg X.base k C sp) (hr : Room j X.A) (hk : k + 1 ≤ j) : OpR X (compareOp .NotEq) (rNeO X.K C sp) := by
  intro pins s σ H x y v u Q I rx ry h
  obtain ⟨f, fd, ps, hs, hf, hne, hm, F, b⟩ := c.ex
  obtain ⟨a, dx, fs, t, rfl, ha, ty, nf, q⟩ := h
  cases rx
  obtain ⟨mA, O, _⟩ := ins_get I.hok ha
  obtain ⟨od, J, _⟩ := O.look
  obtain ⟨P, kx, hp, _⟩ := kit_ofE I ry ty
  show wpAny (model X.prog X.w) X.A (richCompare .NotEq (.ref a) u) (EP X pins σ Q) X.xe s
  refine ne_K (tb := t) (by have := hr.units; omega) I.kIn J (kx.ty _ _ I.kIn hp) nf hs hf hne hm ?_
  refine wpAny_mono (run_eqO F b (hr.mono hk).in1 rfl I ry q) (fun v' s' hv => ?_) fun _ _ e => e
  obtain ⟨z, H', I', rz, r, ez, qz⟩ := hv
  subst ez
  cases rz
  exact ⟨r, rfl, .bl (!r), H', I', rfl, qz⟩
end

end Bc
namespace Bc
open PySem PySem.Spec PyProof.Rows L2
/-! ### roots modulo a prime -/
inductive SeqV (H : Hp) : V → List V → Prop where
  | lst (a : Addr) (xs : List V) (h : H a = some (.lst xs)) : SeqV H (.ref a) xs
  | tup (a : Addr) (xs : List V) (h : H a = some (.tup xs)) : SeqV H (.ref a) xs
theorem SeqV.same {H H' : Hp} {v : V} {xs : List V} (h : SeqV H v xs) (s : Same H H') : SeqV H' v xs := by
  cases h with
  | lst a _ h => exact .lst a _ (s _ _ h)
  | tup a _ h => exact .tup a _ (s _ _ h)
def spTrimX : Sp := fun vs H Q _ => ∃ (v : V) (cs : List Int), vs = [v] ∧ SeqV H v (cs.map V.int) ∧ cs.length ≤ 100000 ∧ ∀ l H', H l = none → Same H H' → H' l = some (.lst ((trim cs).map V.int)) → Q (.ref l) H'
def spReqCo (K : PySem.W.Frag) (Cc : Addr) : Sp := fun vs H Q E => ∃ v : V, vs = [v] ∧
  ((∃ t, TyX K H v t ∧ PySem.W.kitAny K t [.type "list", .type "tuple"] = some false ∧ ErrTo E Cc "place" .non H) ∨
   (∃ (cs : List Int) (x : V) (xs : List V), SeqV H v (cs.map V.int ++ x :: xs) ∧ cs.length + xs.length ≤ 100000 ∧ IntB K H x false ∧ ErrTo E Cc "place" (.int cs.length) H) ∨
   (∃ cs : List Int, SeqV H v (cs.map V.int) ∧ cs.length ≤ 100000 ∧ ∀ l H', H l = none → Same H H' → H' l = some (.lst ((trim cs).map V.int)) → Q (.ref l) H'))
inductive PrB (K : PySem.W.Frag) (H : Hp) : V → Prop where
  | oth {v : V} (h : IntB K H v false) : PrB K H v
  | int (n : Int) (hn : n < 2 ^ 60) (h : ¬ Pr n) : PrB K H (.int n)
theorem PrB.same {K : PySem.W.Frag} {H H' : Hp} {v : V} (h : PrB K H v) (s : Same H H') : PrB K H' v := by
  cases h with
  | oth h => exact .oth (h.same s)
  | int n hn h => exact .int n hn h
def spReqPr (K : PySem.W.Frag) (Cp : Addr) : Sp := fun vs H Q E => ∃ v : V, vs = [v] ∧ ((∃ n : Int, v = .int n ∧ n < 2 ^ 60 ∧ Pr n ∧ Q .non H) ∨ (PrB K H v ∧ ErrTo E Cp "prime" v H))
def rmd (n : Int) (cs : List Int) : List Int := trim (cs.map fun x => x % n)
def spRmd : Sp := fun vs H Q _ => ∃ (l : Addr) (cs : List Int) (n : Int), vs = [.ref l, .int n] ∧ H l = some (.lst (cs.map V.int)) ∧ cs.length ≤ 1000 ∧ 0 < n ∧ n < 2 ^ 60 ∧ ∀ l' H', Same H H' → H' l' = some (.lst ((rmd n cs).map V.int)) → Q (.ref l') H'
def spValP : Sp := fun vs H Q _ => ∃ (l : Addr) (cs : List Int) (x n : Int), vs = [.ref l, .int x, .int n] ∧ H l = some (.lst (cs.map V.int)) ∧ Sml 60 cs ∧ cs.length ≤ 1000 ∧ 0 ≤ x ∧ x < 2 ^ 60 ∧ 0 < n ∧ n < 2 ^ 60 ∧ ∀ H', Same H H' → Q (.int (ev cs x % n)) H'
def rts (n : Int) (cs : List Int) : List Int := ((List.range n.toNat).filter fun x : Nat => decide (ev cs (x : Int) % n = 0)).map fun x : Nat => (x : Int)
def spRootsOf : Sp := fun vs H Q _ => ∃ (l : Addr) (cs : List Int) (n : Int), vs = [.ref l, .int n] ∧ H l = some (.lst (cs.map V.int)) ∧ cs.length ≤ 1000 ∧ Pr n ∧ n ≤ 100000 ∧ ∀ l' H', Same H H' → H' l' = some (.lst ((rts n cs).map V.int)) → Q (.ref l') H'
def spRoots (K : PySem.W.Frag) (Cc Cp Ca : Addr) : Sp := fun vs H Q E => ∃ v q : V, vs = [v, q] ∧
  ((∃ t, TyX K H v t ∧ PySem.W.kitAny K t [.type "list", .type "tuple"] = some false ∧ ErrTo E Cc "place" .non H) ∨
   (∃ (cs : List Int) (x : V) (xs : List V), SeqV H v (cs.map V.int ++ x :: xs) ∧ cs.length + xs.length ≤ 1000 ∧ IntB K H x false ∧ ErrTo E Cc "place" (.int cs.length) H) ∨
   (∃ cs : List Int, SeqV H v (cs.map V.int) ∧ cs.length ≤ 1000 ∧ PrB K H q ∧ ErrTo E Cp "prime" q H) ∨
   (∃ (cs : List Int) (n : Int), SeqV H v (cs.map V.int) ∧ cs.length ≤ 1000 ∧ q = .int n ∧ Pr n ∧ n ≤ 100000 ∧ (∀ x ∈ cs, n ∣ x) ∧ ∀ H', Same H H' → E (.ref Ca) none H') ∨
   (∃ (cs : List Int) (n : Int), SeqV H v (cs.map V.int) ∧ cs.length ≤ 1000 ∧ q = .int n ∧ Pr n ∧ n ≤ 100000 ∧ ¬ (∀ x ∈ cs, n ∣ x) ∧ ∀ t H', Same H H' → H' t = some (.tup ((rts n cs).map V.int)) → Q (.ref t) H'))
theorem trim_all : ∀ (k : Nat) (xs : List Int), xs.length ≤ k → (trim xs = [] ↔ ∀ x ∈ xs, x = 0)
  | 0, xs, h => by
    have : xs = [] := List.length_eq_zero_iff.mp (by omega)
    subst this
    simp [trim_nil]
  | k + 1, xs, h => by
    rcases List.eq_nil_or_concat xs with e | ⟨ds, z, e⟩
    · subst e
      simp [trim_nil]
    · rw [List.concat_eq_append] at e
      subst e
      rw [List.length_append] at h
      by_cases hz : z = 0
      · subst hz
        rw [trim_zero, trim_all k ds (by simp at h; omega)]
        constructor
        · intro g x hx
          rcases List.mem_append.mp hx with hx | hx
          · exact g x hx
          · simpa using hx
        · intro g x hx
          exact g x (List.mem_append_left _ hx)
      · rw [trim_snoc _ hz]
        constructor
        · intro g
          simp at g
        · intro g
          exact absurd (g z (by simp)) hz
theorem trim_last : ∀ (k : Nat) (xs : List Int), xs.length ≤ k → ∀ {ys : List Int} {z : Int}, trim xs = ys ++ [z] → z ≠ 0
  | 0, xs, h, ys, z, e => by
    have : xs = [] := List.length_eq_zero_iff.mp (by omega)
    subst this
    rw [trim_nil] at e
    simp at e
  | k + 1, xs, h, ys, z, e => by
    rcases List.eq_nil_or_concat xs with e' | ⟨ds, w, e'⟩
    · subst e'
      rw [trim_nil] at e
      simp at e
    · rw [List.concat_eq_append] at e'
      subst e'
      rw [List.length_append] at h
      by_cases hz : w = 0
      · subst hz
        rw [trim_zero] at e
        exact trim_last k ds (by simp at h; omega) e
      · rw [trim_snoc _ hz] at e
        have := List.append_inj_right' e rfl
        simp at this
        rw [← this]
        exact hz
theorem mem_trim : ∀ (k : Nat) (xs : List Int), xs.length ≤ k → ∀ x ∈ xs, x = 0 ∨ x ∈ trim xs
  | 0, xs, h, x, hx => by
    have : xs = [] := List.length_eq_zero_iff.mp (by omega)
    subst this
    cases hx
  | k + 1, xs, h, x, hx => by
    rcases List.eq_nil_or_concat xs with e' | ⟨ds, w, e'⟩
    · subst e'
      cases hx
    · rw [List.concat_eq_append] at e'
      subst e'
      rw [List.length_append] at h
      by_cases hz : w = 0
      · subst hz
        rw [trim_zero]
        rcases List.mem_append.mp hx with hx | hx
        · exact mem_trim k ds (by simp at h; omega) x hx
        · exact .inl (by simpa using hx)
      · rw [trim_snoc _ hz]
        exact .inr hx
theorem rmd_nil {n : Int} {cs : List Int} : rmd n (trim cs) = [] ↔ ∀ x ∈ cs, n ∣ x := by
  unfold rmd
  rw [trim_all _ _ (Nat.le_refl _)]
  constructor
  · intro g x hx
    rcases mem_trim _ cs (Nat.le_refl _) x hx with e | e
    · rw [e]; exact Int.dvd_zero _
    · exact Int.dvd_of_emod_eq_zero (g _ (List.mem_map.mpr ⟨x, e, rfl⟩))
  · intro g y hy
    obtain ⟨x, hx, rfl⟩ := List.mem_map.mp hy
    exact Int.emod_eq_zero_of_dvd (g x (trim_mem hx))
theorem rmd_ev (n : Int) (cs : List Int) (x : Int) : ev (rmd n cs) x % n = ev cs x % n := by
  unfold rmd
  rw [ev_trim]
  exact Int.emod_eq_emod_iff_emod_sub_eq_zero.mpr (Int.emod_eq_zero_of_dvd (ev_rest n x cs))
theorem rts_rmd (n : Int) (cs : List Int) : rts n (rmd n cs) = rts n cs := by
  unfold rts
  congr 1
  refine List.filter_congr fun x _ => ?_
  rw [rmd_ev]
theorem rts_trim (n : Int) (cs : List Int) : rts n (trim cs) = rts n cs := by
  unfold rts
  congr 1
  refine List.filter_congr fun x _ => ?_
  rw [ev_trim]
theorem Pr.cop {n r : Int} (h : Pr n) (h1 : 0 < r) (h2 : r < n) : Int.gcd r n = 1 := by
  obtain ⟨h0, hd⟩ := h
  obtain ⟨a, ha⟩ := Int.gcd_dvd_left r n
  obtain ⟨b, hb⟩ := Int.gcd_dvd_right r n
  have hg : Int.gcd r n ≠ 0 := fun z => by
    rw [z] at ha
    simp at ha
    omega
  generalize Int.gcd r n = g at ha hb hg
  by_cases e : g = 1
  · exact e
  exfalso
  have g2 : (2 : Int) ≤ (g : Int) := by omega
  have a1 : 1 ≤ a := by
    by_cases q : a ≤ 0
    · have := Int.mul_le_mul_of_nonneg_left q (show (0 : Int) ≤ (g : Int) by omega)
      rw [Int.mul_zero] at this
      omega
    · omega
  have gn : (g : Int) < n := by
    have := Int.mul_le_mul_of_nonneg_left a1 (show (0 : Int) ≤ (g : Int) by omega)
    rw [Int.mul_one] at this
    omega
  have b2 : 2 ≤ b := by
    by_cases q : b ≤ 1
    · have := Int.mul_le_mul_of_nonneg_left q (show (0 : Int) ≤ (g : Int) by omega)
      rw [Int.mul_one] at this
      omega
    · omega
  by_cases q : (g : Int) ≤ b
  · refine hd g g2 ?_ ?_
    · rw [hb]
      exact Int.mul_le_mul_of_nonneg_left q (by omega)
    · exact Int.emod_eq_zero_of_dvd ⟨b, hb⟩
  · refine hd b b2 ?_ ?_
    · rw [hb]
      exact Int.mul_le_mul_of_nonneg_right (by omega) (by omega)
    · exact Int.emod_eq_zero_of_dvd ⟨g, by rw [hb, Int.mul_comm]⟩
theorem filt_one : ∀ (n k : Nat), k < n → (List.range n).filter (fun x => decide (x = k)) = [k]
  | 0, k, h => by omega
  | n + 1, k, h => by
    rw [List.range_succ, List.filter_append]
    by_cases e : k = n
    · subst e
      have : (List.range k).filter (fun x => decide (x = k)) = [] := List.filter_eq_nil_iff.mpr fun x hx => by
        have := List.mem_range.mp hx
        simp
        omega
      rw [this]
      simp
    · rw [filt_one n k (by omega)]
      have : ¬ n = k := fun z => e z.symm
      simp [this]
theorem rts_two {n r0 r1 i : Int} (hn : 1 < n) (hi : r1 * i % n = 1 % n) : rts n [r0, r1] = [(0 - r0) * i % n] := by
  have h1 := Int.emod_nonneg ((0 - r0) * i) (show n ≠ 0 by omega)
  have h2 := Int.emod_lt_of_pos ((0 - r0) * i) (show 0 < n by omega)
  have d1 : n ∣ r1 * i - 1 := Int.dvd_of_emod_eq_zero (Int.emod_eq_emod_iff_emod_sub_eq_zero.mp hi)
  obtain ⟨z, hz⟩ := Int.eq_ofNat_of_zero_le h1
  have d2 : n ∣ (z : Int) + r0 * i := by
    have e := Int.emod_add_mul_ediv ((0 - r0) * i) n
    rw [hz] at e
    refine ⟨0 - (0 - r0) * i / n, ?_⟩
    rw [Int.mul_sub, Int.mul_zero]
    rw [Int.sub_mul, Int.zero_mul] at e
    rw [Int.sub_mul, Int.zero_mul]
    omega
  have key : ∀ x : Nat, x < n.toNat → (decide (ev [r0, r1] (x : Int) % n = 0) = decide (x = z)) := fun x hx => by
    refine decide_eq_decide.mpr ?_
    have ee : ev [r0, r1] (x : Int) = r1 * (x : Int) + r0 := by
      rw [ev_cons, ev_cons, ev_nil, Int.zero_mul, Int.zero_add]
    rw [ee]
    constructor
    · intro g
      have g1 := Int.dvd_of_emod_eq_zero g
      have g2 : n ∣ (x : Int) + r0 * i := by
        have q1 := Int.dvd_mul_of_dvd_left g1 (c := i)
        have q2 := Int.dvd_mul_of_dvd_left d1 (c := (x : Int))
        have q3 := Int.dvd_sub q1 q2
        rw [show (r1 * (x : Int) + r0) * i - (r1 * i - 1) * (x : Int) = (x : Int) + r0 * i by grind] at q3
        exact q3
      have g3 := Int.dvd_sub g2 d2
      rw [show (x : Int) + r0 * i - ((z : Int) + r0 * i) = (x : Int) - z by omega] at g3
      have g4 := Int.emod_eq_zero_of_dvd g3
      have g5 := Int.emod_eq_emod_iff_emod_sub_eq_zero.mpr g4
      rw [Int.emod_eq_of_lt (by omega) (by omega), Int.emod_eq_of_lt (by omega) (by omega)] at g5
      omega
    · intro g
      subst g
      refine Int.emod_eq_zero_of_dvd ?_
      have q1 := Int.dvd_mul_of_dvd_left d2 (c := r1)
      have q2 := Int.dvd_mul_of_dvd_left d1 (c := r0)
      have q3 := Int.dvd_sub q1 q2
      rw [show ((x : Int) + r0 * i) * r1 - (r1 * i - 1) * r0 = r1 * (x : Int) + r0 by grind] at q3
      exact q3
  unfold rts
  rw [List.filter_congr (fun x hx => key x (List.mem_range.mp hx)), filt_one _ _ (by omega), hz]
  rfl

end Bc
namespace Bc
open PySem PySem.Spec PyProof.Rows L2
def spTimes : Sp := fun vs H Q _ => ∃ (l m : Addr) (cs ms : List Int), vs = [.ref l, .ref m] ∧ H l = some (.lst (cs.map V.int)) ∧ H m = some (.lst (ms.map V.int)) ∧ 1 ≤ cs.length ∧ cs.length ≤ 100 ∧ 1 ≤ ms.length ∧ ms.length ≤ 100 ∧ (∀ z ∈ ms, z.natAbs < 2 ^ 60) ∧
  ∀ (p : Addr) (rs : List Int) (H' : Hp), H p = none → Same H H' → H' p = some (.lst (rs.map V.int)) → rs.length = cs.length + ms.length - 1 → Q (.ref p) H'
def spDrawnRow : Sp := fun vs H Q _ => ∃ (a : Addr) (p c : Int), vs = [.ref a, .int p] ∧ 1 < p ∧ p < 1000 ∧ c < 2 ^ 47 ∧ Purse H a c ∧
  ∀ (l : Addr) (rs : List Int) (H' : Hp), Same (rm a H) (rm a H') → Purse H' a (c + 1000) → rm a H' l = some (.lst (rs.map V.int)) → rs.length ≤ 20 → Q (.ref l) H'
def spCaughtR (K : PySem.W.Frag) : Sp := fun vs H Q _ => ∃ v q : V, vs = [v, q] ∧
  ((∃ t, TyX K H v t ∧ PySem.W.kitAny K t [.type "list", .type "tuple"] = some false ∧ ∀ l H', l ≠ sysModules → H l = none → Same H H' → H' l = some (.lst [.str "row", .non]) → Q (.ref l) H') ∨
   (∃ (cs : List Int) (x : V) (xs : List V), SeqV H v (cs.map V.int ++ x :: xs) ∧ cs.length + xs.length ≤ 1000 ∧ IntB K H x false ∧ ∀ l H', l ≠ sysModules → H l = none → Same H H' → H' l = some (.lst [.str "row", .int cs.length]) → Q (.ref l) H') ∨
   (∃ cs : List Int, SeqV H v (cs.map V.int) ∧ cs.length ≤ 1000 ∧ PrB K H q ∧ ∀ l H', l ≠ sysModules → H l = none → Same H H' → H' l = some (.lst [.str "prime", q]) → Q (.ref l) H') ∨
   (∃ (cs : List Int) (n : Int), SeqV H v (cs.map V.int) ∧ cs.length ≤ 1000 ∧ q = .int n ∧ Pr n ∧ n ≤ 100000 ∧ (∀ x ∈ cs, n ∣ x) ∧ ∀ l H', l ≠ sysModules → H l = none → Same H H' → H' l = some (.lst [.str "all"]) → Q (.ref l) H'))
def spDoorsR : Sp := fun vs H Q _ => ∃ (a l : Addr) (cs : List Int) (p cc : Int), vs = [.ref a, .ref l, .int p] ∧ cc < 2 ^ 47 ∧ Purse H a cc ∧ rm a H l = some (.lst (cs.map V.int)) ∧ cs.length ≤ 20 ∧ Pr p ∧ p < 1000 ∧ ∀ H', Same (rm a H) (rm a H') → Purse H' a (cc + 10) → Q (.bl true) H'

end Bc
namespace Bc
open PySem PySem.Spec PyProof.Rows L2
theorem np {n d : Int} (h1 : 2 ≤ d) (h2 : d * d ≤ n) (h3 : n % d = 0) : ¬ Pr n := fun h => h.2 d h1 h2 h3
theorem np1 {n : Int} (h : n ≤ 1) : ¬ Pr n := fun z => by have := z.1; omega

end Bc
namespace Bc
open PySem PySem.Spec PyProof.Rows L2
/-! ### comprehensions by a relation -/
section
variable {J : It} {G : Hp → Prop} {te : TE} {vs : List Nat} {σ : L2.St} {H : Hp} {D : Addr} {Qd : Hp → Prop} {j : Nat}
/-- what is made of each item, by a relation that new things leave alone -/
theorem lc_rel (xs : List V) (R : V → V → Hp → Prop) (mono : ∀ x y G G', Same G G' → R x y G → R x y G') (w : Walk J xs.length G (YAt xs)) (hD : H D = none) (hG : ∀ H', Same H H' → G H') (sz : xs.length ≤ 100000)
    (wp : ∀ v, wipe ((wipe σ vs).set j v) vs = wipe σ vs)
    (step : ∀ (i : Nat) (x : V) (H' : Hp), xs[i]? = some x → Same H H' → (∃ acc, H' D = some (.lst acc)) → ∀ Q' : VK, (∀ (y : V) (H'' : Hp), Same H' H'' → R x y (rm D H'') → Q' y H'') → te ((wipe σ vs).set j (some x)) H' Q')
    (q : ∀ (H' : Hp) (ys : List V), Same H H' → H' D = some (.lst ys) → Paired (fun x y => R x y H') xs ys → Qd H') :
    ∃ W : Nat → Nat → Hp → Prop, (∃ m, W 0 m (upd H D (.lst []))) ∧ ∀ i m H, W i m H →
      (J.stop i H ∧ Qd H) ∨ (J.go i H ∧ ∃ Nx : Hp → Prop, (∀ H', Nx H' → ∃ m', m' < m ∧ W (i + 1) m' H') ∧ ∀ x H', J.yld i H x H' → gName j x (wipe σ vs) H' fun σ2 H2 => wipe σ2 vs = wipe σ vs ∧ tYes σ2 H2 fun b H3 =>
        if b = true then te σ2 H3 fun y H4 => ∃ acc, H4 D = some (.lst acc) ∧ acc.length < sizeLine ∧ Nx (upd H4 D (.lst (acc ++ [y]))) else Nx H3) := by
  refine lc_it w (fun i H' => ∃ ys : List V, Same H (rm D H') ∧ H' D = some (.lst ys) ∧ Paired (fun x y => R x y (rm D H')) (xs.take i) ys) ⟨[], ?_, upd_same, .nil⟩ (fun i H' _ h => by obtain ⟨_, k, _⟩ := h; exact hG H' (k.trans rm_le)) ?_ ?_
  · rw [rm_updS]
    exact rm_in hD (Same.refl _)
  · rintro i x H1 H' hi ⟨ys, h1, h3, h4⟩ ⟨rfl, hx⟩
    refine ⟨wp _, w_yes ?_⟩
    rw [if_pos rfl]
    have el := h4.length
    rw [List.length_take] at el
    refine step i x H' hx (h1.trans rm_le) ⟨_, h3⟩ _ fun y H2 s2 r => ?_
    have e : xs[i] = x := by rw [List.getElem?_eq_getElem hi] at hx; exact Option.some.inj hx
    refine ⟨ys, s2 _ _ h3, ?_, ys ++ [y], ?_, upd_same, ?_⟩
    · have : (100000 : Nat) < sizeLine := by decide
      omega
    · rw [rm_updS]
      exact h1.trans s2.rm
    · rw [rm_updS, List.take_succ_eq_append_getElem hi, e]
      exact Paired.snoc (paired_imp (fun _ _ z => mono _ _ _ _ s2.rm z) h4) r
  · rintro H' ⟨ys, h1, h3, h4⟩
    rw [List.take_length] at h4
    exact q H' ys (h1.trans rm_le) h3 (paired_imp (fun _ _ z => mono _ _ _ _ rm_le z) h4)
end

end Bc
namespace Bc
open PySem PySem.Spec PyProof.Rows L2
/-! ### lists with the same things in them, told to be equal -/
theorem alk_eq {K : PySem.W.Frag} {H : Hp} {n : Nat} : ∀ {xs : List V}, (∀ x ∈ xs, plainV x = true) → Paired (Alk K H n) xs xs
  | [], _ => .nil
  | x :: r, h => .cons (by cases n with | zero => exact ⟨rfl, h x List.mem_cons_self⟩ | succ n => exact .inl ⟨rfl, h x List.mem_cons_self⟩) (alk_eq fun z hz => h z (List.mem_cons_of_mem _ hz))
theorem alk_l {K : PySem.W.Frag} {H : Hp} {p q : Addr} {xs : List V} (h1 : H p = some (.lst xs)) (h2 : H q = some (.lst xs)) (h : ∀ x ∈ xs, plainV x = true) : Alk K H 1 (.ref p) (.ref q) := .inr ⟨p, q, xs, xs, rfl, rfl, sq h1, sq h2, alk_eq h⟩
theorem w_neA {K : PySem.W.Frag} {H : Hp} {p q : Addr} {xs ys : List V} {Q : VK} (h1 : H p = some (.lst xs)) (h2 : H q = some (.lst ys)) (h : Paired (Alk K H 1) xs ys) (k : Q (.bl false) H) : rNeA K (.ref p) (.ref q) H Q := ⟨1, p, q, xs, ys, rfl, rfl, by decide, sq h1, sq h2, h, k⟩
theorem w_eqA {K : PySem.W.Frag} {H : Hp} {p q : Addr} {xs ys : List V} {Q : VK} (h1 : H p = some (.lst xs)) (h2 : H q = some (.lst ys)) (h : Paired (Alk K H 1) xs ys) (k : Q (.bl true) H) : rEqA K (.ref p) (.ref q) H Q := ⟨1, p, q, xs, ys, rfl, rfl, by decide, sq h1, sq h2, h, k⟩
theorem paired_rep {α β : Type} {R : α → β → Prop} {y : β} : ∀ {xs : List α}, (∀ x ∈ xs, R x y) → Paired R xs (List.replicate xs.length y)
  | [], _ => .nil
  | x :: r, h => .cons (h x List.mem_cons_self) (paired_rep fun z hz => h z (List.mem_cons_of_mem _ hz))
theorem paired_mem {α β : Type} {R : α → β → Prop} : ∀ {xs : List α} {ys : List β} {y : β}, Paired R xs ys → y ∈ ys → ∃ x, R x y
  | _, _, _, .cons r t, h => by
    rcases List.mem_cons.mp h with e | e
    · exact ⟨_, e ▸ r⟩
    · exact paired_mem t e

end Bc
namespace Bc
open PySem PySem.Spec PyProof.Rows L2
/-! ### classes of roots: the plain law -/
/-- the values of the list's tails at r: Horner's partial sums, the last one first -/
def suf (r : Int) : List Int → List Int
  | [] => []
  | c :: cs => ev (c :: cs) r :: suf r cs
theorem suf_len (r : Int) : ∀ cs : List Int, (suf r cs).length = cs.length
  | [] => rfl
  | c :: cs => by
    show (suf r cs).length + 1 = cs.length + 1
    rw [suf_len r cs]
/-- division by x - r -/
theorem ev_suf (r x : Int) : ∀ (c : Int) (cs : List Int), ev (c :: cs) x = ev (c :: cs) r + (x - r) * ev (suf r cs) x
  | c, [] => by
    show _ = _ + (x - r) * ev [] x
    rw [ev_cons, ev_cons, ev_nil, ev_nil, Int.mul_zero, Int.zero_mul, Int.zero_mul, Int.add_zero]
  | c, d :: ds => by
    have ih := ev_suf r x d ds
    rw [show suf r (d :: ds) = ev (d :: ds) r :: suf r ds from rfl, ev_cons c, ev_cons c, ev_cons (ev (d :: ds) r), ih]
    generalize ev (suf r ds) x = S
    generalize ev (d :: ds) r = g
    simp only [Int.add_mul, Int.mul_add, Int.sub_mul, Int.mul_sub, Int.mul_assoc, Int.mul_comm, Int.mul_left_comm]
    omega
/-- the coefficients of f(r + p y), times fac, each one's rest -/
def mvd (r p w : Int) : Nat → Int → List Int → List Int
  | 0, _, _ => []
  | _ + 1, _, [] => []
  | n + 1, fac, c :: cs => ev (c :: cs) r * fac % w :: mvd r p w n (fac * p) (suf r cs)
theorem mvd_len (r p w : Int) : ∀ (n : Nat) (fac : Int) (cs : List Int), cs.length = n → (mvd r p w n fac cs).length = n
  | 0, _, [], _ => rfl
  | n + 1, fac, c :: cs, h => by
    show (mvd r p w n (fac * p) (suf r cs)).length + 1 = n + 1
    rw [mvd_len r p w n (fac * p) (suf r cs) (by rw [suf_len]; simpa using h)]
theorem mvd_ev (r p w y : Int) : ∀ (n : Nat) (fac : Int) (cs : List Int), cs.length = n → w ∣ ev (mvd r p w n fac cs) y - fac * ev cs (r + p * y)
  | 0, fac, [], _ => by
    show w ∣ ev [] y - fac * ev [] _
    rw [ev_nil, ev_nil, Int.mul_zero]
    exact ⟨0, by omega⟩
  | n + 1, fac, c :: cs, h => by
    have ih := mvd_ev r p w y n (fac * p) (suf r cs) (by rw [suf_len]; simpa using h)
    rw [show mvd r p w (n + 1) fac (c :: cs) = ev (c :: cs) r * fac % w :: mvd r p w n (fac * p) (suf r cs) from rfl, ev_cons, ev_suf r (r + p * y) c cs]
    obtain ⟨k, hk⟩ := ih
    have hm := Int.mul_ediv_add_emod (ev (c :: cs) r * fac) w
    generalize ev (c :: cs) r = e at *
    generalize ev (suf r cs) (r + p * y) = S at *
    generalize ev (mvd r p w n (fac * p) (suf r cs)) y = M at *
    refine ⟨k * y - e * fac / w, ?_⟩
    have hM : M = fac * p * S + w * k := by omega
    have e1 : M * y = fac * p * S * y + w * k * y := by rw [hM, Int.add_mul]
    have e2 : fac * (e + (r + p * y - r) * S) = e * fac + fac * p * S * y := by
      rw [show r + p * y - r = p * y by omega]
      simp only [Int.mul_add, Int.mul_assoc, Int.mul_comm, Int.mul_left_comm]
    rw [e1, e2, Int.mul_sub, ← Int.mul_assoc]
    omega
theorem mvd_dvd (r p w : Int) (hw : p ∣ w) : ∀ (n : Nat) (fac : Int) (cs : List Int), p ∣ fac → ∀ z ∈ mvd r p w n fac cs, p ∣ z
  | 0, _, _, _, z, h => by cases h
  | _ + 1, _, [], _, z, h => by cases h
  | n + 1, fac, c :: cs, hf, z, h => by
    rcases List.mem_cons.mp h with e | e
    · rw [e, Int.emod_def]
      exact Int.dvd_sub (Int.dvd_trans hf (Int.dvd_mul_left _ _)) (Int.dvd_trans hw (Int.dvd_mul_right _ _))
    · exact mvd_dvd r p w hw n (fac * p) (suf r cs) (Int.dvd_mul_left _ _) z e
/-- at a root, all coefficients are multiples of the prime -/
theorem mvd_root {r p w : Int} {cs : List Int} (hw : p ∣ w) (hr : p ∣ ev cs r) : ∀ z ∈ mvd r p w cs.length 1 cs, p ∣ z := fun z h => by
  cases cs with
  | nil => cases h
  | cons c cs =>
    rcases List.mem_cons.mp h with e | e
    · rw [e, Int.mul_one, Int.emod_def]
      exact Int.dvd_sub hr (Int.dvd_trans hw (Int.dvd_mul_right _ _))
    · exact mvd_dvd r p w hw _ _ _ (Int.dvd_mul_left _ _) z e
/-! #### no more roots than the degree -/
theorem pr_mul {p a b : Int} (hp : Pr p) (h : p ∣ a * b) : p ∣ a ∨ p ∣ b := by
  rcases cop_or hp a.natAbs with c | c
  · exact .inl (Int.natAbs_dvd_natAbs.mp c)
  · right
    rw [← Int.natAbs_dvd_natAbs, Int.natAbs_mul] at h
    exact Int.natAbs_dvd_natAbs.mp (Nat.Coprime.dvd_of_dvd_mul_left (Nat.coprime_comm.mp c) h)
theorem suf_zero {p r : Int} : ∀ {cs : List Int}, (∀ z ∈ suf r cs, p ∣ z) → ∀ z ∈ cs, p ∣ z
  | [], _, z, h => by cases h
  | c :: cs, hs, z, h => by
    have ih := suf_zero (cs := cs) fun z hz => hs z (List.mem_cons_of_mem _ hz)
    rcases List.mem_cons.mp h with e | e
    · rw [e]
      have h1 := hs _ (List.mem_cons_self ..)
      rw [ev_cons] at h1
      have h2 : p ∣ ev cs r := by
        cases cs with
        | nil => exact ⟨0, by rw [ev_nil]; omega⟩
        | cons d ds => exact hs _ (List.mem_cons_of_mem _ (List.mem_cons_self ..))
      have := Int.dvd_sub h1 (Int.dvd_trans h2 (Int.dvd_mul_right _ r))
      rwa [show ev cs r * r + c - ev cs r * r = c by omega] at this
    · exact ih z e
theorem filt_le {P Q : Nat → Bool} {r : Nat} : ∀ {l : List Nat}, l.Nodup → (∀ x ∈ l, P x = true → x = r ∨ Q x = true) → (l.filter P).length ≤ (l.filter Q).length + 1 ∧ (r ∉ l → (l.filter P).length ≤ (l.filter Q).length)
  | [], _, _ => ⟨by simp, fun _ => by simp⟩
  | x :: l, hn, h => by
    rw [List.nodup_cons] at hn
    obtain ⟨i1, i2⟩ := filt_le hn.2 fun y hy => h y (List.mem_cons_of_mem _ hy)
    have hx := h x (List.mem_cons_self ..)
    cases hP : P x with
    | false =>
      rw [List.filter_cons_of_neg (by rw [hP]; decide)]
      cases hQ : Q x with
      | false =>
        rw [List.filter_cons_of_neg (by rw [hQ]; decide)]
        exact ⟨i1, fun hr => i2 fun z => hr (List.mem_cons_of_mem _ z)⟩
      | true =>
        rw [List.filter_cons_of_pos hQ, List.length_cons]
        exact ⟨by omega, fun hr => by have := i2 fun z => hr (List.mem_cons_of_mem _ z); omega⟩
    | true =>
      rw [List.filter_cons_of_pos hP, List.length_cons]
      cases hQ : Q x with
      | true =>
        rw [List.filter_cons_of_pos hQ, List.length_cons]
        exact ⟨by omega, fun hr => by have := i2 fun z => hr (List.mem_cons_of_mem _ z); omega⟩
      | false =>
        rw [List.filter_cons_of_neg (by rw [hQ]; decide)]
        have e : x = r := (hx hP).resolve_right (by rw [hQ]; decide)
        refine ⟨?_, fun hr => absurd (by rw [e]; exact List.mem_cons_self ..) hr⟩
        have := i2 (by rw [← e]; exact hn.1)
        omega
theorem rts_len {p : Int} (hp : Pr p) : ∀ (n : Nat) (cs : List Int), cs.length = n → (∃ z ∈ cs, ¬ p ∣ z) → (rts p cs).length + 1 ≤ n
  | 0, [], _, h => by
    obtain ⟨z, hz, _⟩ := h
    cases hz
  | n + 1, c :: cs, hl, h => by
    unfold rts
    rw [List.length_map]
    by_cases hr : ∃ r ∈ List.range p.toNat, ev (c :: cs) ((r : Nat) : Int) % p = 0
    · obtain ⟨r, hr, he⟩ := hr
      have hrp := List.mem_range.mp hr
      have hno : ∃ z ∈ suf r cs, ¬ p ∣ z := by
        apply Classical.byContradiction
        intro hn
        have hall : ∀ z ∈ suf (r : Int) cs, p ∣ z := fun z hz => Classical.byContradiction fun hz2 => hn ⟨z, hz, hz2⟩
        obtain ⟨z, hz, hz2⟩ := h
        refine hz2 (suf_zero (r := (r : Int)) (cs := c :: cs) (fun z hz => ?_) z hz)
        rcases List.mem_cons.mp hz with e | e
        · rw [e]
          exact Int.dvd_of_emod_eq_zero he
        · exact hall z e
      have ih := rts_len hp n (suf r cs) (by rw [suf_len]; simpa using hl) hno
      unfold rts at ih
      rw [List.length_map] at ih
      have := (filt_le (P := fun x : Nat => decide (ev (c :: cs) (x : Int) % p = 0)) (Q := fun x : Nat => decide (ev (suf r cs) (x : Int) % p = 0)) (r := r) (List.nodup_range (n := p.toNat)) fun x hx hP => ?_).1
      · omega
      · have hxp := List.mem_range.mp hx
        have hP := of_decide_eq_true hP
        by_cases e : x = r
        · exact .inl e
        · right
          have e1 := ev_suf (r : Int) (x : Int) c cs
          have h1 : p ∣ ((x : Int) - r) * ev (suf r cs) x := by
            have := Int.dvd_sub (Int.dvd_of_emod_eq_zero hP) (Int.dvd_of_emod_eq_zero he)
            rwa [e1, show ∀ u v : Int, u + v - u = v from fun u v => by omega] at this
          rcases pr_mul hp h1 with h2 | h2
          · exfalso
            obtain ⟨k, hk⟩ := h2
            have hp1 := hp.1
            have hb : (x : Int) - r < p ∧ -p < (x : Int) - r := by omega
            have hk0 : k = 0 := by
              rcases Int.lt_trichotomy k 0 with q | q | q
              · have := Int.mul_le_mul_of_nonneg_left (show k ≤ -1 by omega) (show 0 ≤ p by omega)
                omega
              · exact q
              · have := Int.mul_le_mul_of_nonneg_left (show (1 : Int) ≤ k by omega) (show 0 ≤ p by omega)
                omega
            rw [hk0, Int.mul_zero] at hk
            omega
          · exact decide_eq_true (Int.emod_eq_zero_of_dvd h2)
    · rw [List.filter_eq_nil_iff.mpr fun x hx => by
        intro hP
        exact hr ⟨x, hx, of_decide_eq_true hP⟩]
      simp
/-! #### taking the prime out; the paper; its leaves -/
def tk (p : Int) : Nat → List Int → Nat × List Int × Nat
  | 0, cs => (0, cs, 0)
  | k + 1, cs => if cs.all (fun z => decide (z % p = 0)) then ((tk p k (cs.map fun z => z / p)).1 + 1, (tk p k (cs.map fun z => z / p)).2) else (0, cs, k + 1)
theorem tk_le (p : Int) : ∀ (k : Nat) (cs : List Int), (tk p k cs).2.2 ≤ k ∧ (tk p k cs).1 + (tk p k cs).2.2 = k
  | 0, _ => ⟨Nat.le_refl _, rfl⟩
  | k + 1, cs => by
    have ih := tk_le p k (cs.map fun z => z / p)
    unfold tk
    split
    · show (tk p k (cs.map fun z => z / p)).2.2 ≤ k + 1 ∧ (tk p k (cs.map fun z => z / p)).1 + 1 + (tk p k (cs.map fun z => z / p)).2.2 = k + 1
      omega
    · exact ⟨Nat.le_refl _, Nat.zero_add _⟩
theorem tk_less {p : Int} {k : Nat} {cs : List Int} (h : ∀ z ∈ cs, p ∣ z) : (tk p (k + 1) cs).2.2 ≤ k := by
  have e : (cs.all fun z => decide (z % p = 0)) = true := List.all_eq_true.mpr fun z hz => decide_eq_true (Int.emod_eq_zero_of_dvd (h z hz))
  unfold tk
  rw [if_pos e]
  exact (tk_le p k _).1
theorem tk_len (p : Int) : ∀ (k : Nat) (cs : List Int), (tk p k cs).2.1.length = cs.length
  | 0, _ => rfl
  | k + 1, cs => by
    unfold tk
    split
    · show (tk p k (cs.map fun z => z / p)).2.1.length = _
      rw [tk_len p k, List.length_map]
    · rfl
/-- where something is left, a coefficient is no multiple -/
theorem tk_unit (p : Int) : ∀ (k : Nat) (cs : List Int), 0 < (tk p k cs).2.2 → ∃ z ∈ (tk p k cs).2.1, ¬ p ∣ z
  | 0, _, h => absurd h (Nat.lt_irrefl 0)
  | k + 1, cs, h => by
    unfold tk at h ⊢
    split
    · rename_i e
      rw [if_pos e] at h
      exact tk_unit p k _ h
    · rename_i e
      apply Classical.byContradiction
      intro hn
      refine e (List.all_eq_true.mpr fun z hz => decide_eq_true (Int.emod_eq_zero_of_dvd ?_))
      exact Classical.byContradiction fun hz2 => hn ⟨z, hz, hz2⟩
theorem ev_div {p : Int} (x : Int) : ∀ {cs : List Int}, (∀ z ∈ cs, p ∣ z) → ev cs x = p * ev (cs.map fun z => z / p) x
  | [], _ => by rw [List.map_nil, ev_nil, Int.mul_zero]
  | c :: cs, h => by
    have ih := ev_div (p := p) x (cs := cs) fun z hz => h z (List.mem_cons_of_mem _ hz)
    have hc := Int.mul_ediv_cancel' (h c (List.mem_cons_self ..))
    rw [List.map_cons, ev_cons, ev_cons, ih, Int.mul_add, hc, Int.mul_assoc]
theorem tk_ev (p x : Int) : ∀ (k : Nat) (cs : List Int), ev cs x = p ^ (tk p k cs).1 * ev (tk p k cs).2.1 x
  | 0, cs => by
    show ev cs x = p ^ 0 * ev cs x
    rw [Int.pow_zero, Int.one_mul]
  | k + 1, cs => by
    unfold tk
    split
    · rename_i e
      have hall : ∀ z ∈ cs, p ∣ z := fun z hz => Int.dvd_of_emod_eq_zero (of_decide_eq_true (List.all_eq_true.mp e z hz))
      show ev cs x = p ^ ((tk p k (cs.map fun z => z / p)).1 + 1) * ev (tk p k (cs.map fun z => z / p)).2.1 x
      rw [ev_div x hall, tk_ev p x k, Int.pow_succ, Int.mul_comm (p ^ _) p, Int.mul_assoc]
    · show ev cs x = p ^ 0 * ev cs x
      rw [Int.pow_zero, Int.one_mul]
/-- what a paper says -/
inductive Tr where
  | all
  | node (c : Nat) (ks : List (Int × Tr))
/-- the paper of cs modulo p ^ k; n: turns -/
def paperT (p : Int) : Nat → Nat → List Int → Tr
  | 0, _, _ => .all
  | n + 1, k, cs => if (tk p k cs).2.2 = 0 then .all else
      .node (tk p k cs).1 ((rts p (tk p k cs).2.1).map fun r => (r, paperT p n (tk p k cs).2.2 (trim (mvd r p (p ^ (tk p k cs).2.2) (tk p k cs).2.1.length 1 (tk p k cs).2.1))))
/-- x is told by the paper -/
def In (p : Int) : Nat → Tr → Int → Prop
  | _, .all, _ => True
  | 0, _, _ => False
  | n + 1, .node _ ks, x => ∃ q ∈ ks, ∃ y, x = q.1 + p * y ∧ In p n q.2 y
theorem root_of {p x : Int} {cs : List Int} (hp : 0 < p) (h : p ∣ ev cs x) : x % p ∈ rts p cs := by
  unfold rts
  have h0 := Int.emod_nonneg x (show p ≠ 0 by omega)
  have h1 := Int.emod_lt_of_pos x hp
  refine List.mem_map.mpr ⟨(x % p).toNat, List.mem_filter.mpr ⟨List.mem_range.mpr (by omega), decide_eq_true ?_⟩, by omega⟩
  rw [show (((x % p).toNat : Nat) : Int) = x % p by omega]
  have e1 := hv_mod x p cs.reverse
  have e2 : ev cs (x % p) % p = ev cs x % p := by
    have := hv_mod x p cs.reverse
    exact this
  rw [e2]
  exact Int.emod_eq_zero_of_dvd h
/-- what is told is just where the values vanish modulo p ^ k -/
theorem paper_in {p : Int} (hp : Pr p) : ∀ (n k : Nat) (cs : List Int) (x : Int), k ≤ n → (k = n → n = 0 ∨ ∀ z ∈ cs, p ∣ z) → (In p n (paperT p n k cs) x ↔ p ^ k ∣ ev cs x)
  | 0, k, cs, x, hk, _ => by
    have e : k = 0 := by omega
    rw [e, Int.pow_zero]
    exact ⟨fun _ => Int.one_dvd _, fun _ => trivial⟩
  | n + 1, k, cs, x, hk, hd => by
    have hp1 := hp.1
    have hle := tk_le p k cs
    have hev := tk_ev p x k cs
    unfold paperT
    by_cases h0 : (tk p k cs).2.2 = 0
    · rw [if_pos h0]
      refine ⟨fun _ => ?_, fun _ => trivial⟩
      rw [hev, show (tk p k cs).1 = k by omega]
      exact Int.dvd_mul_right _ _
    · rw [if_neg h0]
      have hk1 : (tk p k cs).2.2 ≤ n := by
        by_cases e : k = n + 1
        · have h := (hd e).resolve_left (by omega)
          subst e
          exact tk_less h
        · omega
      generalize (tk p k cs).1 = c at *
      generalize (tk p k cs).2.1 = f at *
      generalize (tk p k cs).2.2 = k' at *
      have hpk : p ^ k = p ^ c * p ^ k' := by rw [← Int.pow_add, hle.2]
      have hpc : p ^ c ≠ 0 := Int.pow_ne_zero (by omega)
      have e1 : p ^ k ∣ ev cs x ↔ p ^ k' ∣ ev f x := by
        rw [hpk, hev]
        exact ⟨fun h => Int.dvd_of_mul_dvd_mul_left hpc h, fun h => Int.mul_dvd_mul_left _ h⟩
      have hpw : p ∣ p ^ k' := by
        obtain ⟨j, rfl⟩ : ∃ j, k' = j + 1 := ⟨k' - 1, by omega⟩
        rw [Int.pow_succ]
        exact Int.dvd_mul_left _ _
      have sub : ∀ r : Int, p ∣ ev f r → ∀ y, (In p n (paperT p n k' (trim (mvd r p (p ^ k') f.length 1 f))) y ↔ p ^ k' ∣ ev f (r + p * y)) := fun r hr y => by
        rw [paper_in hp n k' _ y hk1 fun _ => .inr fun z hz => mvd_root hpw hr z (trim_mem hz), ev_trim]
        have h := mvd_ev r p (p ^ k') y f.length 1 f rfl
        rw [Int.one_mul] at h
        constructor
        · intro h2
          have := Int.dvd_sub h2 h
          rwa [show ∀ u v : Int, u - (u - v) = v from fun u v => by omega] at this
        · intro h2
          have := Int.dvd_add h h2
          rwa [show ∀ u v : Int, u - v + v = u from fun u v => by omega] at this
      rw [e1]
      constructor
      · rintro ⟨q, hq, y, rfl, hy⟩
        obtain ⟨r, hr, rfl⟩ := List.mem_map.mp hq
        have hr2 : p ∣ ev f r := by
          unfold rts at hr
          obtain ⟨j, hj, rfl⟩ := List.mem_map.mp hr
          exact Int.dvd_of_emod_eq_zero (of_decide_eq_true (List.mem_filter.mp hj).2)
        exact (sub r hr2 y).mp hy
      · intro h
        have hx : p ∣ ev f x := Int.dvd_trans hpw h
        have hm := root_of (by omega) hx
        refine ⟨_, List.mem_map.mpr ⟨x % p, hm, rfl⟩, x / p, ?_, ?_⟩
        · show x = x % p + p * (x / p)
          have := Int.mul_ediv_add_emod x p
          omega
        · have hr2 : p ∣ ev f (x % p) := by
            unfold rts at hm
            obtain ⟨j, hj, ej⟩ := List.mem_map.mp hm
            rw [← ej]
            exact Int.dvd_of_emod_eq_zero (of_decide_eq_true (List.mem_filter.mp hj).2)
          refine (sub _ hr2 _).mpr ?_
          rw [show x % p + p * (x / p) = x by have := Int.mul_ediv_add_emod x p; omega]
          exact h
/-! #### leaves -/
def lv (p : Int) : Nat → Tr → Int → Int → List (Int × Int)
  | _, .all, r, w => [(r, w)]
  | 0, .node _ _, _, _ => []
  | n + 1, .node _ ks, r, w => ks.reverse.flatMap fun q => lv p n q.2 (r + w * q.1) (w * p)
theorem lv_sub (p : Int) : ∀ (n : Nat) (t : Tr) (r w : Int) (q : Int × Int), q ∈ lv p n t r w → w ∣ q.2 ∧ w ∣ q.1 - r
  | 0, .all, r, w, q, h => by
    rw [List.mem_singleton.mp h]
    exact ⟨Int.dvd_refl _, by rw [Int.sub_self]; exact Int.dvd_zero _⟩
  | _ + 1, .all, r, w, q, h => by
    rw [List.mem_singleton.mp h]
    exact ⟨Int.dvd_refl _, by rw [Int.sub_self]; exact Int.dvd_zero _⟩
  | 0, .node _ _, _, _, _, h => by cases h
  | n + 1, .node _ ks, r, w, q, h => by
    obtain ⟨a, ha, hq⟩ := List.mem_flatMap.mp h
    obtain ⟨h1, h2⟩ := lv_sub p n a.2 (r + w * a.1) (w * p) q hq
    refine ⟨Int.dvd_trans (Int.dvd_mul_right _ _) h1, ?_⟩
    have := Int.dvd_add (Int.dvd_trans (Int.dvd_mul_right w p) h2) (Int.dvd_mul_right w a.1)
    rwa [show q.1 - (r + w * a.1) + w * a.1 = q.1 - r by omega] at this
theorem lv_in {p : Int} (hp : 0 < p) : ∀ (n : Nat) (t : Tr) (r w y : Int), 0 < w → ((∃ q ∈ lv p n t r w, q.2 ∣ r + w * y - q.1) ↔ In p n t y)
  | 0, .all, r, w, y, _ => ⟨fun _ => trivial, fun _ => ⟨(r, w), List.mem_singleton.mpr rfl, ⟨y, by show r + w * y - r = w * y; omega⟩⟩⟩
  | _ + 1, .all, r, w, y, _ => ⟨fun _ => trivial, fun _ => ⟨(r, w), List.mem_singleton.mpr rfl, ⟨y, by show r + w * y - r = w * y; omega⟩⟩⟩
  | 0, .node _ _, _, _, _, _ => ⟨fun h => (by obtain ⟨_, h, _⟩ := h; cases h), fun h => False.elim h⟩
  | n + 1, .node c ks, r, w, y, hw => by
    have hwp : 0 < w * p := Int.mul_pos hw hp
    have ex : ∀ (a y' : Int), r + w * (a + p * y') = r + w * a + w * p * y' := fun a y' => by rw [Int.mul_add, Int.mul_assoc]; omega
    constructor
    · rintro ⟨q, hq, hd⟩
      obtain ⟨a, ha, hq⟩ := List.mem_flatMap.mp hq
      obtain ⟨h1, h2⟩ := lv_sub p n a.2 (r + w * a.1) (w * p) q hq
      have h3 := Int.dvd_add (Int.dvd_trans h1 hd) h2
      rw [show r + w * y - q.1 + (q.1 - (r + w * a.1)) = w * y - w * a.1 by omega, ← Int.mul_sub] at h3
      obtain ⟨y', hy'⟩ := Int.dvd_of_mul_dvd_mul_left (show w ≠ 0 by omega) h3
      have ey : y = a.1 + p * y' := by omega
      refine ⟨a, List.mem_reverse.mp ha, y', ey, (lv_in hp n a.2 (r + w * a.1) (w * p) y' hwp).mp ⟨q, hq, ?_⟩⟩
      rwa [ey, ex] at hd
    · rintro ⟨a, ha, y', rfl, hy⟩
      obtain ⟨q, hq, hd⟩ := (lv_in hp n a.2 (r + w * a.1) (w * p) y' hwp).mpr hy
      refine ⟨q, List.mem_flatMap.mpr ⟨a, List.mem_reverse.mpr ha, hq⟩, ?_⟩
      rwa [ex]
/-- classes without a common member -/
def Apart (q q' : Int × Int) : Prop := ∀ x : Int, q.2 ∣ x - q.1 → ¬ q'.2 ∣ x - q'.1
/-- the roots at each place of the paper are other ones, below the prime -/
inductive Good (p : Int) : Tr → Prop
  | all : Good p .all
  | node {c : Nat} {ks : List (Int × Tr)} (nd : (ks.map (·.1)).Nodup) (rg : ∀ q ∈ ks, 0 ≤ q.1 ∧ q.1 < p) (sub : ∀ q ∈ ks, Good p q.2) : Good p (.node c ks)
theorem rts_nd (p : Int) (cs : List Int) : (rts p cs).Nodup ∧ ∀ r ∈ rts p cs, 0 ≤ r ∧ r < p := by
  unfold rts
  constructor
  · refine List.Pairwise.map _ (fun a b h => ?_) (List.nodup_range.filter _)
    exact fun e => h (by omega)
  · intro r hr
    obtain ⟨j, hj, rfl⟩ := List.mem_map.mp hr
    have := List.mem_range.mp (List.mem_filter.mp hj).1
    omega
theorem paper_good (p : Int) : ∀ (n k : Nat) (cs : List Int), Good p (paperT p n k cs)
  | 0, _, _ => .all
  | n + 1, k, cs => by
    unfold paperT
    split
    · exact .all
    · obtain ⟨h1, h2⟩ := rts_nd p (tk p k cs).2.1
      refine .node ?_ ?_ ?_
      · rw [List.map_map]
        have : (rts p (tk p k cs).2.1).map ((fun x : Int × Tr => x.1) ∘ fun r => (r, paperT p n (tk p k cs).2.2 (trim (mvd r p (p ^ (tk p k cs).2.2) (tk p k cs).2.1.length 1 (tk p k cs).2.1)))) = rts p (tk p k cs).2.1 := by
          conv => rhs; rw [← List.map_id (rts p (tk p k cs).2.1)]
          exact List.map_congr_left fun r _ => rfl
        rw [this]
        exact h1
      · intro q hq
        obtain ⟨r, hr, rfl⟩ := List.mem_map.mp hq
        exact h2 r hr
      · intro q hq
        obtain ⟨r, hr, rfl⟩ := List.mem_map.mp hq
        exact paper_good p n _ _
theorem lv_rng {p : Int} (hp : 0 < p) : ∀ (n : Nat) (t : Tr) (r w : Int), Good p t → 0 ≤ r → r < w → ∀ q ∈ lv p n t r w, 0 ≤ q.1 ∧ q.1 < q.2
  | 0, .all, r, w, _, h0, h1, q, h => by rw [List.mem_singleton.mp h]; exact ⟨h0, h1⟩
  | _ + 1, .all, r, w, _, h0, h1, q, h => by rw [List.mem_singleton.mp h]; exact ⟨h0, h1⟩
  | 0, .node _ _, _, _, _, _, _, q, h => by cases h
  | n + 1, .node _ ks, r, w, g, h0, h1, q, h => by
    cases g with
    | node nd rg sub =>
      obtain ⟨a, ha, hq⟩ := List.mem_flatMap.mp h
      have ha := List.mem_reverse.mp ha
      have hr := rg a ha
      refine lv_rng hp n a.2 (r + w * a.1) (w * p) (sub a ha) ?_ ?_ q hq
      · have := Int.mul_nonneg (show 0 ≤ w by omega) hr.1
        omega
      · have := Int.mul_le_mul_of_nonneg_left (show a.1 ≤ p - 1 by omega) (show 0 ≤ w by omega)
        rw [Int.mul_sub, Int.mul_one] at this
        omega
theorem lv_apart {p : Int} (hp : 0 < p) : ∀ (n : Nat) (t : Tr) (r w : Int), 0 < w → Good p t → (lv p n t r w).Pairwise Apart
  | 0, .all, _, _, _, _ => List.pairwise_singleton _ _
  | _ + 1, .all, _, _, _, _ => List.pairwise_singleton _ _
  | 0, .node _ _, _, _, _, _ => List.Pairwise.nil
  | n + 1, .node _ ks, r, w, hw, g => by
    cases g with
    | node nd rg sub =>
      have hwp : 0 < w * p := Int.mul_pos hw hp
      show (ks.reverse.flatMap fun q => lv p n q.2 (r + w * q.1) (w * p)).Pairwise Apart
      rw [List.pairwise_flatMap]
      refine ⟨fun a ha => lv_apart hp n a.2 _ _ hwp (sub a (List.mem_reverse.mp ha)), ?_⟩
      have hnd : ks.reverse.Pairwise fun a b => a.1 ≠ b.1 := by
        rw [List.pairwise_reverse]
        exact (List.pairwise_map.mp nd).imp fun h => fun e => h e.symm
      refine hnd.imp_of_mem fun {a b} ha hb hab q hq q' hq' x hx hx' => ?_
      have ha := rg a (List.mem_reverse.mp ha)
      have hb := rg b (List.mem_reverse.mp hb)
      obtain ⟨h1, h2⟩ := lv_sub p n a.2 (r + w * a.1) (w * p) q hq
      obtain ⟨h3, h4⟩ := lv_sub p n b.2 (r + w * b.1) (w * p) q' hq'
      have d1 := Int.dvd_add (Int.dvd_trans h1 hx) h2
      have d2 := Int.dvd_add (Int.dvd_trans h3 hx') h4
      have d3 := Int.dvd_sub d2 d1
      rw [show x - q'.1 + (q'.1 - (r + w * b.1)) - (x - q.1 + (q.1 - (r + w * a.1))) = w * a.1 - w * b.1 by omega, ← Int.mul_sub] at d3
      obtain ⟨k, hk⟩ := Int.dvd_of_mul_dvd_mul_left (show w ≠ 0 by omega) d3
      have hk0 : k = 0 := by
        rcases Int.lt_trichotomy k 0 with z | z | z
        · have := Int.mul_le_mul_of_nonneg_left (show k ≤ -1 by omega) (show 0 ≤ p by omega)
          omega
        · exact z
        · have := Int.mul_le_mul_of_nonneg_left (show (1 : Int) ≤ k by omega) (show 0 ≤ p by omega)
          omega
      rw [hk0, Int.mul_zero] at hk
      exact hab (by omega)
theorem lv_pow (p : Int) : ∀ (n : Nat) (t : Tr) (r w : Int) (q : Int × Int), q ∈ lv p n t r w → ∃ j, j ≤ n ∧ q.2 = w * p ^ j
  | 0, .all, r, w, q, h => by rw [List.mem_singleton.mp h]; exact ⟨0, Nat.le_refl _, by rw [Int.pow_zero, Int.mul_one]⟩
  | n + 1, .all, r, w, q, h => by rw [List.mem_singleton.mp h]; exact ⟨0, Nat.zero_le _, by rw [Int.pow_zero, Int.mul_one]⟩
  | 0, .node _ _, _, _, _, h => by cases h
  | n + 1, .node _ ks, r, w, q, h => by
    obtain ⟨a, ha, hq⟩ := List.mem_flatMap.mp h
    obtain ⟨j, hj, e⟩ := lv_pow p n a.2 _ _ q hq
    exact ⟨j + 1, by omega, by rw [e, Int.pow_succ, Int.mul_assoc, Int.mul_comm p]⟩
/-- the classes of a row modulo p ^ k, as the leaves tell them -/
def cls (p : Int) (k : Nat) (cs : List Int) : List (Int × Int) := lv p (k + 1) (paperT p (k + 1) k cs) 0 1
theorem cls_in {p : Int} (hp : Pr p) (k : Nat) (cs : List Int) (x : Int) : (∃ q ∈ cls p k cs, q.2 ∣ x - q.1) ↔ p ^ k ∣ ev cs x := by
  have hp1 := hp.1
  have h := lv_in (p := p) (by omega) (k + 1) (paperT p (k + 1) k cs) 0 1 x (by decide)
  rw [show (0 : Int) + 1 * x = x by omega] at h
  exact h.trans (paper_in hp (k + 1) k cs x (by omega) fun e => by omega)
theorem cls_apart {p : Int} (hp : 0 < p) (k : Nat) (cs : List Int) : (cls p k cs).Pairwise Apart := lv_apart hp _ _ 0 1 (by decide) (paper_good p _ _ _)
theorem cls_rng {p : Int} (hp : 0 < p) (k : Nat) (cs : List Int) : ∀ q ∈ cls p k cs, 0 ≤ q.1 ∧ q.1 < q.2 := lv_rng hp _ _ 0 1 (paper_good p _ _ _) (by decide) (by decide)
theorem cls_pow (p : Int) (k : Nat) (cs : List Int) : ∀ q ∈ cls p k cs, ∃ j, j ≤ k + 1 ∧ q.2 = p ^ j := fun q hq => by
  obtain ⟨j, hj, e⟩ := lv_pow p _ _ 0 1 q hq
  exact ⟨j, hj, by rw [e, Int.one_mul]⟩

end Bc
namespace Bc
open PySem PySem.Spec PyProof.Rows L2
/-! ### the widest classes: the plain law -/
/-- x lies in the class r modulo p ^ e -/
def Lie (p : Int) (q : Int × Nat) (x : Int) : Prop := p ^ q.2 ∣ x - q.1
def Whole (p : Int) (S : Int → Prop) (q : Int × Nat) : Prop := ∀ x, Lie p q x → S x
/-- the class a step wider -/
def par (p : Int) (q : Int × Nat) : Int × Nat := (q.1 % p ^ (q.2 - 1), q.2 - 1)
def Mx (p : Int) (S : Int → Prop) (q : Int × Nat) : Prop := Whole p S q ∧ (q.2 = 0 ∨ ¬ Whole p S (par p q))
def Rg (p : Int) (q : Int × Nat) : Prop := 0 ≤ q.1 ∧ q.1 < p ^ q.2
def Ap (p : Int) (q q' : Int × Nat) : Prop := ∀ x, Lie p q x → ¬ Lie p q' x
theorem pow_dvd_le (p : Int) {i j : Nat} (h : i ≤ j) : p ^ i ∣ p ^ j := by
  have e : j = i + (j - i) := by omega
  rw [e, Int.pow_add]
  exact Int.dvd_mul_right _ _
theorem Lie.self (p : Int) (q : Int × Nat) : Lie p q q.1 := by
  show p ^ q.2 ∣ q.1 - q.1
  rw [Int.sub_self]
  exact Int.dvd_zero _
/-- classes with a common member are nested -/
theorem Lie.nest {p : Int} {q q' : Int × Nat} {x y : Int} (h : q'.2 ≤ q.2) (hx : Lie p q x) (hx' : Lie p q' x) (hy : Lie p q y) : Lie p q' y := by
  have d := Int.dvd_trans (pow_dvd_le p h) (Int.dvd_sub hy hx)
  have := Int.dvd_add d hx'
  show p ^ q'.2 ∣ y - q'.1
  rwa [show y - q.1 - (x - q.1) + (x - q'.1) = y - q'.1 by omega] at this
theorem Lie.par {p : Int} {q : Int × Nat} : Lie p (par p q) q.1 := by
  show p ^ (q.2 - 1) ∣ q.1 - q.1 % p ^ (q.2 - 1)
  rw [Int.emod_def]
  exact ⟨q.1 / p ^ (q.2 - 1), by omega⟩
theorem Rg.eq {p : Int} {q q' : Int × Nat} {x : Int} (r : Rg p q) (r' : Rg p q') (e : q.2 = q'.2) (h : Lie p q x) (h' : Lie p q' x) : q = q' := by
  have d : p ^ q.2 ∣ q.1 - q'.1 := by
    have h' : p ^ q.2 ∣ x - q'.1 := by rw [e]; exact h'
    have := Int.dvd_sub h' h
    rwa [show x - q'.1 - (x - q.1) = q.1 - q'.1 by omega] at this
  have r' : 0 ≤ q'.1 ∧ q'.1 < p ^ q.2 := by rw [e]; exact r'
  have e2 := Int.emod_eq_emod_iff_emod_sub_eq_zero.mpr (Int.emod_eq_zero_of_dvd d)
  rw [Int.emod_eq_of_lt r.1 r.2, Int.emod_eq_of_lt r'.1 r'.2] at e2
  exact Prod.ext e2 e
/-- what is cut into maximal classes is cut into all maximal classes -/
theorem max_all {p : Int} {S : Int → Prop} {W : List (Int × Nat)} (cov : ∀ x, S x → ∃ q ∈ W, Lie p q x) (mx : ∀ q ∈ W, Mx p S q) (rg : ∀ q ∈ W, Rg p q) {q : Int × Nat} (hq : Mx p S q) (r : Rg p q) : q ∈ W := by
  obtain ⟨q', hq', hc⟩ := cov q.1 (hq.1 _ (Lie.self p q))
  have hself := Lie.self p q
  rcases Nat.lt_trichotomy q'.2 q.2 with h | h | h
  · exfalso
    refine (hq.2.resolve_left (by omega)) fun x hx => (mx q' hq').1 x ?_
    exact Lie.nest (q := par p q) (show q'.2 ≤ q.2 - 1 by omega) Lie.par hc hx
  · rw [Rg.eq r (rg q' hq') h.symm hself hc]
    exact hq'
  · exfalso
    refine ((mx q' hq').2.resolve_left (by omega)) fun x hx => hq.1 x ?_
    have h1 : Lie p q q'.1 := Lie.nest (q := q') (show q.2 ≤ q'.2 by omega) hc hself (Lie.self p q')
    exact Lie.nest (q := par p q') (show q.2 ≤ q'.2 - 1 by omega) Lie.par h1 hx
theorem nd_le {α : Type} [DecidableEq α] : ∀ {l m : List α}, l.Nodup → (∀ x ∈ l, x ∈ m) → l.length ≤ m.length
  | [], _, _, _ => Nat.zero_le _
  | a :: t, m, hn, h => by
    rw [List.nodup_cons] at hn
    have ha := h a (List.mem_cons_self ..)
    have ih := nd_le (l := t) (m := m.erase a) hn.2 fun x hx => (List.mem_erase_of_ne fun e => hn.1 (by rw [← e]; exact hx)).mpr (h x (List.mem_cons_of_mem _ hx))
    rw [List.length_erase_of_mem ha] at ih
    have := List.length_pos_of_mem ha
    rw [List.length_cons]
    omega
theorem nd_all {α : Type} [DecidableEq α] {l m : List α} (hn : l.Nodup) (h : ∀ x ∈ l, x ∈ m) (hl : m.length ≤ l.length) : ∀ y ∈ m, y ∈ l := fun y hy => Classical.byContradiction fun hno => by
  have := nd_le (l := y :: l) (m := m) (List.nodup_cons.mpr ⟨hno, hn⟩) fun x hx => by
    rcases List.mem_cons.mp hx with e | e
    · rw [e]; exact hy
    · exact h x e
  rw [List.length_cons] at this
  omega
/-- the rests with that rest a step wider -/
def same1 (p : Int) (j : Nat) (here : List Int) (v : Int) : List Int := here.filter fun r => decide (r % p ^ j = v)
/-- the p rests below p ^ (j + 1) that are v modulo p ^ j -/
def kidsOf (p : Int) (j : Nat) (v : Int) : List Int := (List.range p.toNat).map fun i : Nat => v + p ^ j * (i : Int)
theorem kids_in {p : Int} (hp : 0 < p) {j : Nat} {r : Int} (h0 : 0 ≤ r) (h1 : r < p ^ (j + 1)) : r ∈ kidsOf p j (r % p ^ j) := by
  have hpj : 0 < p ^ j := Int.pow_pos hp
  have hd0 := Int.ediv_nonneg h0 (Int.le_of_lt hpj)
  have hd1 : r / p ^ j < p := Int.ediv_lt_of_lt_mul hpj (by rw [Int.pow_succ, Int.mul_comm] at h1; exact h1)
  refine List.mem_map.mpr ⟨(r / p ^ j).toNat, List.mem_range.mpr (by omega), ?_⟩
  rw [show (((r / p ^ j).toNat : Nat) : Int) = r / p ^ j by omega]
  have := Int.mul_ediv_add_emod r (p ^ j)
  omega
theorem kids_len (p : Int) (j : Nat) (v : Int) : (kidsOf p j v).length = p.toNat := by
  unfold kidsOf
  rw [List.length_map, List.length_range]
theorem kids_rg {p : Int} (hp : 0 < p) {j : Nat} {v c : Int} (h0 : 0 ≤ v) (h1 : v < p ^ j) (h : c ∈ kidsOf p j v) : Rg p (c, j + 1) ∧ c % p ^ j = v := by
  have hpj : 0 < p ^ j := Int.pow_pos hp
  obtain ⟨i, hi, rfl⟩ := List.mem_map.mp h
  have hi := List.mem_range.mp hi
  refine ⟨⟨?_, ?_⟩, ?_⟩
  · have := Int.mul_nonneg (Int.le_of_lt hpj) (show (0 : Int) ≤ (i : Int) by omega)
    show 0 ≤ v + p ^ j * i
    omega
  · show v + p ^ j * i < p ^ (j + 1)
    have := Int.mul_le_mul_of_nonneg_left (show (i : Int) ≤ p - 1 by omega) (Int.le_of_lt hpj)
    rw [Int.mul_sub, Int.mul_one] at this
    rw [Int.pow_succ]
    omega
  · rw [Int.add_mul_emod_self_left, Int.emod_eq_of_lt h0 h1]
/-! #### level by level -/
def full (p : Int) (j : Nat) (here : List Int) (r : Int) : Bool := decide (p ≤ ((same1 p j here (r % p ^ j)).length : Int))
def fnd (p : Int) (j : Nat) (here : List Int) : List Int := here.filter fun r => !full p j here r
def ups (p : Int) (j : Nat) (here : List Int) : List Int := here.filter fun r => full p j here r && decide (r = r % p ^ j)
def nxt (p : Int) (j : Nat) (P : Nat → List Int) : Nat → List Int := fun i => if i = j then P j ++ ups p j (P (j + 1)) else P i
def run (p : Int) : Nat → (Nat → List Int) → List (Int × Nat)
  | 0, P => (P 0).map fun r => (r, 0)
  | j + 1, P => ((fnd p j (P (j + 1))).map fun r => (r, j + 1)) ++ run p j (nxt p j P)
/-- the classes found and those that wait, at a level -/
structure Lvl (p : Int) (S : Int → Prop) (F : List (Int × Nat)) (P : Nat → List Int) (j : Nat) : Prop where
  cov : ∀ x, S x ↔ (∃ q ∈ F, Lie p q x) ∨ ∃ i, i ≤ j ∧ ∃ r ∈ P i, Lie p (r, i) x
  mx : ∀ q ∈ F, Mx p S q ∧ Rg p q ∧ j < q.2
  rg : ∀ i, i ≤ j → ∀ r ∈ P i, Rg p (r, i)
  ap : ∀ i i', i ≤ j → i' ≤ j → ∀ r ∈ P i, ∀ r' ∈ P i', (r, i) ≠ (r', i') → Ap p (r, i) (r', i')
  nd : ∀ i, i ≤ j → (P i).Nodup
theorem same_kids {p : Int} (hp : 0 < p) {j : Nat} {here : List Int} {v : Int} (rg : ∀ r ∈ here, Rg p (r, j + 1)) : ∀ r ∈ same1 p j here v, r ∈ kidsOf p j v := fun r hr => by
  obtain ⟨h1, h2⟩ := List.mem_filter.mp hr
  have h2 := of_decide_eq_true h2
  have h3 := rg r h1
  rw [← h2]
  exact kids_in hp h3.1 h3.2
theorem full_all {p : Int} (hp : 0 < p) {j : Nat} {here : List Int} {r : Int} (rg : ∀ r ∈ here, Rg p (r, j + 1)) (nd : here.Nodup) (h : full p j here r = true) : ∀ c ∈ kidsOf p j (r % p ^ j), c ∈ here := fun c hc => by
  have h := of_decide_eq_true h
  exact (List.mem_filter.mp (nd_all (nd.filter _) (same_kids hp rg) (by rw [kids_len]; unfold same1 at h; omega) c hc)).1
theorem all_full {p : Int} (hp : 0 < p) {j : Nat} {here : List Int} {r : Int} (h0 : 0 ≤ r % p ^ j) (h1 : r % p ^ j < p ^ j) (h : ∀ c ∈ kidsOf p j (r % p ^ j), c ∈ here) : full p j here r = true := by
  refine decide_eq_true ?_
  have hpj : 0 < p ^ j := Int.pow_pos hp
  have hn : (kidsOf p j (r % p ^ j)).Nodup := by
    unfold kidsOf
    refine List.Pairwise.map _ (fun a b hab e => hab ?_) (List.nodup_range (n := p.toNat))
    have := Int.eq_of_mul_eq_mul_left (show p ^ j ≠ 0 by omega) (show p ^ j * (a : Int) = p ^ j * (b : Int) by omega)
    omega
  have := nd_le (m := same1 p j here (r % p ^ j)) hn fun c hc => List.mem_filter.mpr ⟨h c hc, decide_eq_true (kids_rg hp h0 h1 hc).2⟩
  rw [kids_len] at this
  omega
theorem kid_lie {p : Int} (hp : 0 < p) {j : Nat} {v x : Int} (hv : 0 ≤ v ∧ v < p ^ j) (h : Lie p (v, j) x) : ∃ c ∈ kidsOf p j v, Lie p (c, j + 1) x := by
  have hpj : 0 < p ^ (j + 1) := Int.pow_pos hp
  have h0 := Int.emod_nonneg x (show p ^ (j + 1) ≠ 0 by omega)
  have h1 := Int.emod_lt_of_pos x hpj
  have hd : p ^ (j + 1) ∣ x - x % p ^ (j + 1) := by rw [Int.emod_def]; exact ⟨x / p ^ (j + 1), by omega⟩
  refine ⟨x % p ^ (j + 1), ?_, hd⟩
  have hk := kids_in hp h0 h1
  have e : x % p ^ (j + 1) % p ^ j = v := by
    rw [Int.emod_emod_of_dvd x (pow_dvd_le p (Nat.le_succ j))]
    have := Int.emod_eq_emod_iff_emod_sub_eq_zero.mpr (Int.emod_eq_zero_of_dvd h)
    rw [this]
    exact Int.emod_eq_of_lt hv.1 hv.2
  rwa [e] at hk
theorem lie_kid {p : Int} {j : Nat} {v c x : Int} (hc : c % p ^ j = v) (h : Lie p (c, j + 1) x) : Lie p (v, j) x := by
  have h1 : p ^ j ∣ x - c := Int.dvd_trans (pow_dvd_le p (Nat.le_succ j)) h
  have h2 : p ^ j ∣ c - v := by rw [← hc, Int.emod_def]; exact ⟨c / p ^ j, by omega⟩
  have := Int.dvd_add h1 h2
  show p ^ j ∣ x - v
  rwa [show x - c + (c - v) = x - v by omega] at this
theorem Lvl.step {p : Int} (hp : 0 < p) {S : Int → Prop} {F : List (Int × Nat)} {P : Nat → List Int} {j : Nat} (L : Lvl p S F P (j + 1)) :
    Lvl p S (F ++ (fnd p j (P (j + 1))).map fun r => (r, j + 1)) (nxt p j P) j := by
  have hpj : 0 < p ^ j := Int.pow_pos hp
  have rgH := L.rg (j + 1) (Nat.le_refl _)
  have ndH := L.nd (j + 1) (Nat.le_refl _)
  have emr : ∀ r : Int, 0 ≤ r % p ^ j ∧ r % p ^ j < p ^ j := fun r => ⟨Int.emod_nonneg _ (by omega), Int.emod_lt_of_pos _ hpj⟩
  have upK : ∀ v ∈ ups p j (P (j + 1)), v % p ^ j = v ∧ v ∈ P (j + 1) ∧ ∀ c ∈ kidsOf p j v, c ∈ P (j + 1) := fun v hv => by
    obtain ⟨h1, h2⟩ := List.mem_filter.mp hv
    rw [Bool.and_eq_true, decide_eq_true_eq] at h2
    have h3 := full_all hp rgH ndH h2.1
    rw [← h2.2] at h3
    exact ⟨h2.2.symm, h1, h3⟩
  have nin : ∀ {i : Nat} {r : Int}, i ≤ j → r ∈ nxt p j P i → r ∈ P i ∨ (i = j ∧ r ∈ ups p j (P (j + 1))) := fun {i r} hi h => by
    unfold nxt at h
    split at h
    · rename_i e
      subst e
      exact (List.mem_append.mp h).imp id fun z => ⟨rfl, z⟩
    · exact .inl h
  have inn : ∀ {i : Nat} {r : Int}, r ∈ P i → r ∈ nxt p j P i := fun {i r} h => by
    unfold nxt
    split
    · rename_i e
      subst e
      exact List.mem_append_left _ h
    · exact h
  have upn : ∀ {r : Int}, r ∈ ups p j (P (j + 1)) → r ∈ nxt p j P j := fun {r} h => by
    unfold nxt
    rw [if_pos rfl]
    exact List.mem_append_right _ h
  refine ⟨fun x => ?_, fun q hq => ?_, fun i hi r hr => ?_, fun i i' hi hi' r hr r' hr' hne => ?_, fun i hi => ?_⟩
  · rw [L.cov x]
    constructor
    · rintro (⟨q, hq, hx⟩ | ⟨i, hi, r, hr, hx⟩)
      · exact .inl ⟨q, List.mem_append_left _ hq, hx⟩
      · by_cases e : i = j + 1
        · subst e
          cases hf : full p j (P (j + 1)) r with
          | false => exact .inl ⟨(r, j + 1), List.mem_append_right _ (List.mem_map.mpr ⟨r, List.mem_filter.mpr ⟨hr, by rw [hf]; rfl⟩, rfl⟩), hx⟩
          | true =>
            right
            have hall := full_all hp rgH ndH hf
            have hv := emr r
            have hvk : r % p ^ j ∈ kidsOf p j (r % p ^ j) := List.mem_map.mpr ⟨0, List.mem_range.mpr (by omega), by simp⟩
            have hvv : r % p ^ j % p ^ j = r % p ^ j := Int.emod_eq_of_lt hv.1 hv.2
            refine ⟨j, Nat.le_refl _, r % p ^ j, upn (List.mem_filter.mpr ⟨hall _ hvk, ?_⟩), lie_kid rfl hx⟩
            rw [Bool.and_eq_true, decide_eq_true_eq]
            refine ⟨?_, hvv.symm⟩
            unfold full at hf ⊢
            rwa [hvv]
        · exact .inr ⟨i, by omega, r, inn hr, hx⟩
    · rintro (⟨q, hq, hx⟩ | ⟨i, hi, r, hr, hx⟩)
      · rcases List.mem_append.mp hq with h | h
        · exact .inl ⟨q, h, hx⟩
        · obtain ⟨r, hr, rfl⟩ := List.mem_map.mp h
          exact .inr ⟨j + 1, Nat.le_refl _, r, (List.mem_filter.mp hr).1, hx⟩
      · rcases nin hi hr with h | ⟨rfl, h⟩
        · exact .inr ⟨i, by omega, r, h, hx⟩
        · obtain ⟨e, _, hk⟩ := upK r h
          have := emr r
          obtain ⟨c, hc, hcx⟩ := kid_lie hp (by rw [← e]; exact this) hx
          exact .inr ⟨i + 1, Nat.le_refl _, c, hk c hc, hcx⟩
  · rcases List.mem_append.mp hq with h | h
    · obtain ⟨a, b, c⟩ := L.mx q h
      exact ⟨a, b, by omega⟩
    · obtain ⟨r, hr, rfl⟩ := List.mem_map.mp h
      obtain ⟨hr, hf⟩ := List.mem_filter.mp hr
      refine ⟨⟨fun x hx => (L.cov x).mpr (.inr ⟨j + 1, Nat.le_refl _, r, hr, hx⟩), .inr fun hw => ?_⟩, rgH r hr, Nat.lt_succ_self j⟩
      have hv := emr r
      have hful : full p j (P (j + 1)) r = true := all_full hp hv.1 hv.2 fun c hc => by
        obtain ⟨hcr, hcv⟩ := kids_rg hp hv.1 hv.2 hc
        have hcl : Lie p (r % p ^ j, j) c := lie_kid hcv (Lie.self p (c, j + 1))
        rcases (L.cov c).mp (hw c hcl) with ⟨q', hq', hx⟩ | ⟨i, hi, r', hr', hx⟩
        · exfalso
          obtain ⟨⟨_, hm⟩, _, hlt⟩ := L.mx q' hq'
          refine hm.resolve_left (by omega) fun x hx2 => hw x ?_
          have h1 : Lie p (r % p ^ j, j) q'.1 := Lie.nest (q := q') (show j ≤ q'.2 by omega) hx hcl (Lie.self p q')
          exact Lie.nest (q := par p q') (show j ≤ q'.2 - 1 by omega) Lie.par h1 hx2
        · by_cases e : i = j + 1
          · subst e
            have := Rg.eq hcr (rgH r' hr') rfl (Lie.self p (c, j + 1)) hx
            cases this
            exact hr'
          · exfalso
            have h1 : Lie p (r', i) r := Lie.nest (q := (r % p ^ j, j)) (show i ≤ j by omega) hcl hx (lie_kid rfl (Lie.self p (r, j + 1)))
            exact L.ap (j + 1) i (Nat.le_refl _) hi r hr r' hr' (fun z => e (congrArg Prod.snd z).symm) r (Lie.self p (r, j + 1)) h1
      rw [hful] at hf
      cases hf
  · rcases nin hi hr with h | ⟨rfl, h⟩
    · exact L.rg i (by omega) r h
    · have := emr r
      rw [(upK r h).1] at this
      exact this
  · have key : ∀ {i : Nat} {v r' : Int}, v ∈ ups p j (P (j + 1)) → i ≤ j → r' ∈ P i → ∀ x, Lie p (v, j) x → ¬ Lie p (r', i) x := fun {i v r'} hv hi hr' x hx hx' => by
      obtain ⟨e, _, hk⟩ := upK v hv
      have := emr v
      obtain ⟨c, hc, hcx⟩ := kid_lie hp (by rw [← e]; exact this) hx
      exact L.ap (j + 1) i (Nat.le_refl _) (by omega) c (hk c hc) r' hr' (fun z => by have : j + 1 = i := congrArg Prod.snd z; omega) x hcx hx'
    intro x hx hx'
    rcases nin hi hr with h | ⟨rfl, h⟩
    · rcases nin hi' hr' with h' | ⟨rfl, h'⟩
      · exact L.ap i i' (by omega) (by omega) r h r' h' hne x hx hx'
      · exact key h' hi h x hx' hx
    · rcases nin hi' hr' with h' | ⟨e', h'⟩
      · exact key h hi' h' x hx hx'
      · subst e'
        have a := emr r
        rw [(upK r h).1] at a
        have b := emr r'
        rw [(upK r' h').1] at b
        exact hne (Rg.eq a b rfl hx hx')
  · unfold nxt
    split
    · rename_i e
      subst e
      rw [List.nodup_append]
      refine ⟨L.nd i (by omega), ndH.filter _, fun a ha b hb hab => ?_⟩
      subst hab
      exact L.ap (i + 1) i (Nat.le_refl _) (by omega) a (upK a hb).2.1 a ha (fun z => by have : i + 1 = i := congrArg Prod.snd z; omega) a (Lie.self p (a, i + 1)) (Lie.self p (a, i))
    · exact L.nd i (by omega)
theorem run_ok {p : Int} (hp : 0 < p) {S : Int → Prop} : ∀ (j : Nat) (F : List (Int × Nat)) (P : Nat → List Int), Lvl p S F P j →
    (∀ x, S x → ∃ q ∈ F ++ run p j P, Lie p q x) ∧ ∀ q ∈ F ++ run p j P, Mx p S q ∧ Rg p q
  | 0, F, P, L => by
    refine ⟨fun x hx => ?_, fun q hq => ?_⟩
    · rcases (L.cov x).mp hx with ⟨q, hq, h⟩ | ⟨i, hi, r, hr, h⟩
      · exact ⟨q, List.mem_append_left _ hq, h⟩
      · have e : i = 0 := by omega
        subst e
        exact ⟨(r, 0), List.mem_append_right _ (List.mem_map.mpr ⟨r, hr, rfl⟩), h⟩
    · rcases List.mem_append.mp hq with h | h
      · exact ⟨(L.mx q h).1, (L.mx q h).2.1⟩
      · obtain ⟨r, hr, rfl⟩ := List.mem_map.mp h
        exact ⟨⟨fun x hx => (L.cov x).mpr (.inr ⟨0, Nat.le_refl _, r, hr, hx⟩), .inl rfl⟩, L.rg 0 (Nat.le_refl _) r hr⟩
  | j + 1, F, P, L => by
    have h := run_ok hp j _ _ (L.step hp)
    rw [List.append_assoc] at h
    exact h

end Bc
namespace Bc
open PySem PySem.Spec PyProof.Rows L2
/-! ### zip of a list and a tuple -/
section
open PySem.SeqAt
abbrev zm1 (h : Heap) (a : Addr) : Heap := h.push { cls := .type "list_iterator", data := .fields #[.ref a, .int 0 0] }
abbrev zm2 (h : Heap) (a b : Addr) : Heap := (zm1 h a).push { cls := .type "tuple_iterator", data := .fields #[.ref b, .int 0 0] }
abbrev zm3 (h : Heap) (a b : Addr) : Heap := (zm2 h a b).push { cls := .type "tuple", data := .seq #[.ref h.objs.size, .ref (zm1 h a).objs.size] }
abbrev zm4 (h : Heap) (a b : Addr) : Heap := (zm3 h a b).push { cls := .type "tuple", data := .seq #[.none, .none] }
abbrev zm5 (h : Heap) (a b : Addr) : Heap := (zm4 h a b).push { cls := .type "zip", data := .fields #[.none, .bool false, .bool false, .ref (zm2 h a b).objs.size, .ref (zm3 h a b).objs.size] }
theorem zm_new (a b : Addr) (xs ys : Array Value) : Meets (Builtin.«zip.__new__» ⟨[.type "zip", .ref a, .ref b], []⟩) (fun _ R s => s.heap.IsList a xs ∧ s.heap.IsTuple b ys ∧ R (.ok (.ret (.ref (zm4 s.heap a b).objs.size))) { s with heap := zm5 s.heap a b }) :=
  .of_wp fun prog w A R s hh => by
    obtain ⟨hp, g, d, tk, os⟩ := s
    obtain ⟨ha, hb, hh⟩ := hh
    have zs := sub_zip
    have za : Heap.IsList (Shared.heap ⟨hp, g, d, tk, os⟩) a xs := ha
    have zb : Heap.IsTuple (Shared.heap ⟨hp.push { cls := .type "list_iterator", data := .fields #[.ref a, .int 0 0] }, g, d, tk, os⟩) b ys := Heap.IsTuple.push hb _
    wp_walk using wpAny_pyIter_list za, wpAny_pyIter_tuple zb
    exact ⟨_, rfl, hh⟩
theorem call_zipM {prog : Program} {w : World} {A : Around} {E : Value → Shared → Prop} {s : Shared} {a b : Addr} {xs ys : Array Value} {Q : Value → Shared → Prop} (ha : s.heap.IsList a xs) (hb : s.heap.IsTuple b ys)
    (q : ∀ h', IsZip h' (s.heap.objs.size + 4) (s.heap.objs.size + 2) (s.heap.objs.size + 3) .none → IsPair h' (s.heap.objs.size + 2) (.ref s.heap.objs.size) (.ref (s.heap.objs.size + 1)) → IsPair h' (s.heap.objs.size + 3) .none .none →
      h'.IsListIter s.heap.objs.size a 0 → h'.IsTupleIter (s.heap.objs.size + 1) b 0 → (∀ c o, s.heap.get? c = some o → h'.get? c = some o) → Q (.ref (s.heap.objs.size + 4)) { s with heap := h' }) : wpAny (model prog w) A (call (.type "zip") [.ref a, .ref b]) Q E s := by
  refine callType_new F.called_zip (by decide) (F.typeCall_zip_2 _ _) (F.newCall_zip_2 _ _) (fun o => F.args_object_init_3 o _ _) F.entry_zip_new (zm_new a b xs ys) ⟨ha, hb, ?_⟩
  have e1 : (zm1 s.heap a).objs.size = s.heap.objs.size + 1 := Heap.size_push ..
  have e2 : (zm2 s.heap a b).objs.size = s.heap.objs.size + 2 := (Heap.size_push ..).trans (by rw [e1])
  have e3 : (zm3 s.heap a b).objs.size = s.heap.objs.size + 3 := (Heap.size_push ..).trans (by rw [e2])
  have e4 : (zm4 s.heap a b).objs.size = s.heap.objs.size + 4 := (Heap.size_push ..).trans (by rw [e3])
  have up : ∀ {h : Heap} {o o' : Obj} {c : Addr}, h.get? c = some o → (h.push o').get? c = some o := fun e => Heap.get?_push_of_some _ e
  have k1 : (zm5 s.heap a b).get? s.heap.objs.size = some _ := up (up (up (up (Heap.get?_push_size _ rfl))))
  have k2 : (zm5 s.heap a b).get? (zm1 s.heap a).objs.size = some _ := up (up (up (Heap.get?_push_size _ rfl)))
  have k3 : (zm5 s.heap a b).get? (zm2 s.heap a b).objs.size = some _ := up (up (Heap.get?_push_size _ rfl))
  have k4 : (zm5 s.heap a b).get? (zm3 s.heap a b).objs.size = some _ := up (Heap.get?_push_size _ rfl)
  have k5 : (zm5 s.heap a b).get? (zm4 s.heap a b).objs.size = some _ := Heap.get?_push_size _ rfl
  show _ ∧ _
  rw [e2, e3, e4] at k5
  rw [e3] at k4
  rw [e1, e2] at k3
  rw [e1] at k2
  rw [e4]
  refine ⟨⟨_, k5, rfl⟩, q _ k5 k3 k4 ⟨_, k1, rfl, rfl⟩ ⟨_, k2, rfl, rfl⟩ fun c o e => up (up (up (up (up e))))⟩
end
/-- the list at a and the tuple at b, side by side -/
def Itm (K : PySem.W.Frag) (a b : Addr) : It :=
  ⟨fun i H => ∃ xs ys x y, SqL K H a xs ∧ SqT K H b ys ∧ xs[i]? = some x ∧ ys[i]? = some y,
   fun i H v H' => ∃ T x y, v = .ref T ∧ H T = none ∧ H' = L2.upd H T (.tup [x, y]) ∧ (∀ zs, SqL K H a zs → zs[i]? = some x) ∧ ∀ zs, SqT K H b zs → zs[i]? = some y,
   fun i H => ∃ xs ys, SqL K H a xs ∧ SqT K H b ys ∧ (i = xs.length ∨ i = ys.length) ∧ i ≤ xs.length ∧ i ≤ ys.length⟩
theorem sepM {a b z TI TO i1 i2 : Addr} (D : ZipApart z TI TO i1 i2 a b) : ZipSep2 z TI TO i1 i2 [i1, a] [i2, b] := by
  have nin : ∀ {x y u : Addr}, x ≠ y → x ≠ u → x ∉ [y, u] := fun h1 h2 h => by
    rcases List.mem_cons.mp h with e | e
    · exact h1 e
    · exact h2 (List.mem_singleton.mp e)
  exact ⟨D.TIz, D.TOz, D.TITO, D.TIi1, List.mem_cons_self .., nin D.i1z.symm D.l1z.symm, nin D.TOi1 D.l1TO.symm, D.TIi2, List.mem_cons_self .., nin D.i2z.symm D.l2z.symm, nin D.TOi2 D.l2TO.symm, nin D.i12 D.l2i1.symm, nin D.i12.symm D.l1i2.symm⟩
theorem turn_zipM {P : Program} {w : World} {K : PySem.W.Frag} {elts : List Expr} {kk : Nat} {tpos : Pos} {a b z TI TO i1 i2 : Addr} (D : ZipApart z TI TO i1 i2 a b) :
    Turn P w K (.Tuple elts kk tpos) (Itm K a b) [z, TI, TO, i1, i2] z (fun i h => IsZip h z TI TO .none ∧ IsPair h TI (.ref i1) (.ref i2) ∧ (∃ u v, IsPair h TO u v) ∧ h.IsListIter i1 a i ∧ h.IsTupleIter i2 b i) where
  mem := List.mem_cons_self ..
  obj := fun i h st c hc => by
    obtain ⟨hz, hTI, ⟨u, v, hTO⟩, ⟨o1, e1, _, d1⟩, ⟨o2, e2, _, d2⟩⟩ := st
    have five : c = z ∨ c = TI ∨ c = TO ∨ c = i1 ∨ c = i2 := by simpa using hc
    rcases five with q | q | q | q | q <;> rw [q]
    · exact ⟨_, hz, fun v z => nomatch z⟩
    · exact ⟨_, hTI, fun v z => nomatch z⟩
    · exact ⟨_, hTO, fun v z => nomatch z⟩
    · exact ⟨o1, e1, fun v z => by rw [d1] at z; cases z⟩
    · exact ⟨o2, e2, fun v z => by rw [d2] at z; cases z⟩
  keep := fun i h h' st k => by
    obtain ⟨hz, hTI, ⟨u, v, hTO⟩, h1, h2⟩ := st
    refine ⟨k z (by simp) _ hz, k TI (by simp) _ hTI, ⟨u, v, k TO (by simp) _ hTO⟩, h1.at fun o e => ?_, h2.at fun o e => ?_⟩
    · exact k i1 (by simp) o e
    · exact k i2 (by simp) o e
  item := by
    intro X eP ew eK cm i pins s σ H E I hf st hg
    subst eP ew eK
    obtain ⟨hz, hTI, ⟨u0, v0, hTO⟩, h1, h2⟩ := st
    obtain ⟨xs, ys, x, y, hxs, hys, hx, hy⟩ := hg
    obtain ⟨its, rv, p1, _⟩ := I.list hxs
    obtain ⟨jts, rv2, p2, _⟩ := I.tuple hys
    obtain ⟨u, hu, ru⟩ := rv.get hx
    obtain ⟨v, hv, rv'⟩ := rv2.get hy
    have zlt : z < s.heap.objs.size := Heap.lt_size hz
    have b1 := (List.getElem?_eq_some_iff.mp hu).1
    have b2 := (List.getElem?_eq_some_iff.mp hv).1
    refine wpAny_pyNext_zipD2_item (sepM D) (Draws.list (A := X.A.in1) (I.ok.hd cm) i1 a D.l1i1 its.toArray) (Draws.tuple (A := X.A.in1) (I.ok.hd cm) i2 b D.l2i2 jts.toArray) hz hTI hTO ⟨h1, p1.isList⟩ ⟨h2, p2⟩ (by simpa using b1) (by simpa using b2) fun w1 w2 h' tk e1 e2 z' TO' st1 st2 hT _ hk => ?_
    have e1 : w1 = u := by
      rw [List.getElem?_toArray, hu] at e1
      exact (Option.some.inj e1).symm
    have e2 : w2 = v := by
      rw [List.getElem?_toArray, hv] at e2
      exact (Option.some.inj e2).symm
    subst e1 e2
    refine ⟨_, rfl, wpAny_letOwnedTupleGo_zip (s := { s with heap := h', toks := tk }) z' fun h'' z'' sb => ?_⟩
    have nT : h''.get? s.heap.objs.size = some { cls := .type "tuple", data := .seq #[w1, w2] } := (sb.2 _ (Nat.ne_of_gt zlt)).trans hT
    have five : ∀ {c : Addr}, c ∉ [z, TI, TO, i1, i2] → c ≠ z ∧ c ≠ TI ∧ c ≠ TO ∧ c ≠ i1 ∧ c ≠ i2 := fun {c} h => by simpa using h
    have I1 : Inv X pins σ (L2.upd H s.heap.objs.size (.tup [x, y])) { s with heap := h'', toks := tk } :=
      I.turnedNew (t' := tk) (ch := [z, TI, TO, i1, i2]) (fun c o hb q => by
        obtain ⟨n1, n2, n3, n4, n5⟩ := five hb
        exact (sb.2 c n1).trans (hk c o n1 n3 n4 n5 q)) hf (Nat.le_refl _) (show ObjOk X.prog X.w _ h'' _ (.tup [x, y]) from ⟨by show 2 ≤ sizeLine; decide, [w1, w2], .cons ru (.cons rv' .nil), ⟨_, nT, rfl, _, rfl⟩⟩)
    refine ⟨.ref s.heap.objs.size, _, I1, rfl, ⟨_, x, y, rfl, I.hok.fresh (Nat.le_refl _), rfl, fun l hl => ?_, fun l hl => ?_⟩, ⟨z'', (sb.2 _ D.TIz).trans (hk _ _ D.TIz D.TITO D.TIi1 D.TIi2 hTI), ⟨w1, w2, (sb.2 _ D.TOz).trans TO'⟩, st1.1.at fun o e => (sb.2 _ D.i1z).trans e, st2.1.at fun o e => (sb.2 _ D.i2z).trans e⟩, fun c hc => ?_⟩
    · rw [I.list_inj hl hxs]
      exact hx
    · rw [I.tuple_inj hl hys]
      exact hy
    · have hne : c < s.heap.objs.size := by
        have five : c = z ∨ c = TI ∨ c = TO ∨ c = i1 ∨ c = i2 := by simpa using hc
        obtain ⟨_, g1, _⟩ := h1
        obtain ⟨_, g2, _⟩ := h2
        rcases five with q | q | q | q | q <;> rw [q]
        · exact zlt
        · exact Heap.lt_size hTI
        · exact Heap.lt_size hTO
        · exact Heap.lt_size g1
        · exact Heap.lt_size g2
      rw [upd_ne (Nat.ne_of_lt hne)]
      exact (hf c hc).1
  done := by
    intro X eP ew eK cm i pins s σ H E I hf st hg
    subst eP ew eK
    obtain ⟨hz, hTI, ⟨u0, v0, hTO⟩, h1, h2⟩ := st
    obtain ⟨xs, ys, hxs, hys, he, hl1, hl2⟩ := hg
    obtain ⟨its, rv, p1, _⟩ := I.list hxs
    obtain ⟨jts, rv2, p2, _⟩ := I.tuple hys
    have z1 := rv.length
    have z2 := rv2.length
    refine wpAny_pyNext_zipD2_end (sepM D) (Draws.list (A := X.A.in1) (I.ok.hd cm) i1 a D.l1i1 its.toArray) (Draws.tuple (A := X.A.in1) (I.ok.hd cm) i2 b D.l2i2 jts.toArray) hz hTI hTO ⟨h1, p1.isList⟩ ⟨h2, p2⟩ (by simp; omega) (by simp; omega) (by simp; omega) fun h' tk hk => ⟨rfl, I.turnedL (t' := tk) (ch := [z, TI, TO, i1, i2]) (fun c o hb q => ?_) hf⟩
    have n5 : c ≠ z ∧ c ≠ TI ∧ c ≠ TO ∧ c ≠ i1 ∧ c ≠ i2 := by simpa using hb
    exact hk c o n5.1 n5.2.2.1 n5.2.2.2.1 n5.2.2.2.2 q
  self := fun A i s Q E st h => wpAny_pyIter_zip st.1 h
def iZipM (K : PySem.W.Frag) (ta : TA) : TI := fun σ H R => ta σ H fun vs H1 => ∃ a b xs ys, vs = [.ref a, .ref b] ∧ SqL K H1 a xs ∧ SqT K H1 b ys ∧ R (Itm K a b) H1
theorem pi_zipM {X : Cx} {e e2 : Expr} {ta : TA} {p pos tpos : Pos} {elts : List Expr} {kk : Nat} (hg : Gl X "zip") (hm : X.mg "zip" = none) (ha : PA X [e, e2] ta) (hs : starEach [e, e2] X.env = (false, eval e X.env) :: starEach [e2] X.env := by rfl) (hpl : (backTo pos (starEach [e2] X.env)).any (·.1) = false := by rfl) :
    PI X (.Tuple elts kk tpos) (.Call (.Name "zip" p) [e, e2] [] pos) (iZipM X.K ta) := by
  refine ⟨fun pins s σ H R I h => Call_ (ld_blt I hg hm PyProof.Rows.boot_zip (PyProof.Rows.callWith_type1 (thn (ha.run pos pins s σ H _ I h) fun us s1 ⟨vs, H1, I1, r1, q1⟩ => ?_) hs hpl))⟩
  obtain ⟨a, b, xs, ys, rfl, hxs, hys, q⟩ := q1
  cases r1 with
  | cons r rr =>
    cases rr with
    | cons r' rr =>
      cases rr
      cases r
      cases r'
      obtain ⟨its, rv, p1, _⟩ := I1.list hxs
      obtain ⟨jts, rv2, p2, _⟩ := I1.tuple hys
      obtain ⟨o2, g2, _⟩ := id p2
      refine call_zipM p1.isList p2 fun h' hz hTI hTO h1 h2 hk => wpAny_pyIter_zip hz ?_
      refine ⟨s1.heap.objs.size + 4, [s1.heap.objs.size + 4, s1.heap.objs.size + 2, s1.heap.objs.size + 3, s1.heap.objs.size, s1.heap.objs.size + 1], _, _, H1, rfl, I1.kept (t' := s1.toks) hk, turn_zipM (PySem.W.ktu_apart s1.heap.objs.size a b p1.lt (Heap.lt_size g2)), ⟨hz, hTI, ⟨_, _, hTO⟩, h1, h2⟩, fun c hc => ?_, q⟩
      have le : s1.heap.objs.size ≤ c := by
        have five : c = s1.heap.objs.size + 4 ∨ c = s1.heap.objs.size + 2 ∨ c = s1.heap.objs.size + 3 ∨ c = s1.heap.objs.size ∨ c = s1.heap.objs.size + 1 := by simpa using hc
        rcases five with q | q | q | q | q <;> rw [q]
        · exact Nat.le_add_right _ _
        · exact Nat.le_add_right _ _
        · exact Nat.le_add_right _ _
        · exact Nat.le_refl _
        · exact Nat.le_add_right _ _
      exact I1.fpOk le (I1.hok.fresh le)
/-- of one length -/
theorem walk_zipM {K : PySem.W.Frag} {a b : Addr} {xs ys : List V} (hn : xs.length = ys.length) : Walk (Itm K a b) xs.length (fun H => SqL K H a xs ∧ SqT K H b ys) (YPair (fun i => xs[i]?) (fun i => ys[i]?)) := by
  refine ⟨fun i _ hi q => ⟨xs, ys, xs[i], ys[i], q.1, q.2, List.getElem?_eq_getElem hi, List.getElem?_eq_getElem (by omega)⟩, fun _ q => ⟨xs, ys, q.1, q.2, .inl rfl, Nat.le_refl _, by omega⟩, fun i H v H' _ q y => ?_⟩
  obtain ⟨T, x, z, e1, e2, e3, e4, e5⟩ := y
  exact ⟨T, x, z, e1, e2, e3, e4 xs q.1, e5 ys q.2⟩

end Bc
namespace Bc
open PySem PySem.Spec PyProof.Rows L2
/-! ### dicts of ints (as in k70lib) -/
theorem u66 {k : Nat} {A : Around} (r : Room k A) : A.units + 1 < cLine := by
  have := r.un
  omega
def putE (es : List (Int × Int)) (p k : Int) : List (Int × Int) := if (es.any fun q => decide (q.1 = p)) = true then es.map (fun q => if q.1 = p then (q.1, k) else q) else es ++ [(p, k)]
def look (es : List (Int × Int)) (p : Int) : Int := ((es.find? fun q => decide (q.1 = p)).map (·.2)).getD 0
def toK (es : List (Int × Int)) : List (Key × V) := es.map fun q => ((.inl q.1 : Key), V.int q.2)
theorem any_toK (p : Int) : ∀ es : List (Int × Int), ((toK es).any fun kv => decide (kv.1 = (.inl p : Key))) = es.any fun q => decide (q.1 = p)
  | [] => rfl
  | q :: r => by
    show (decide ((.inl q.1 : Key) = .inl p) || (toK r).any _) = (decide (q.1 = p) || r.any _)
    rw [any_toK p r]
    congr 1
    exact decide_eq_decide.mpr ⟨fun h => by cases h; rfl, fun h => by rw [h]⟩
theorem putK_toK (es : List (Int × Int)) (p k : Int) : putK (toK es) (.inl p) (.int k) = toK (putE es p k) := by
  unfold putK putE
  rw [any_toK]
  split
  · unfold toK
    rw [List.map_map, List.map_map]
    refine List.map_congr_left fun q _ => ?_
    show (if (Sum.inl q.1 : Key) = .inl p then _ else _) = _
    by_cases e : q.1 = p
    · rw [if_pos (by rw [e])]
      show _ = ((.inl (if q.1 = p then (q.1, k) else q).1 : Key), V.int (if q.1 = p then (q.1, k) else q).2)
      rw [if_pos e]
    · rw [if_neg (fun z => e (by cases z; rfl))]
      show _ = ((.inl (if q.1 = p then (q.1, k) else q).1 : Key), V.int (if q.1 = p then (q.1, k) else q).2)
      rw [if_neg e]
  · unfold toK
    rw [List.map_append]
    rfl
theorem val_toK (p : Int) : ∀ es : List (Int × Int), (valV (toK es) (.inl p)).getD (.int 0) = .int (look es p) ∧ ((valV (toK es) (.inl p)).isSome = es.any fun q => decide (q.1 = p))
  | [] => ⟨rfl, rfl⟩
  | q :: r => by
    have ih := val_toK p r
    by_cases e : q.1 = p
    · rw [show toK (q :: r) = ((.inl q.1 : Key), V.int q.2) :: toK r from rfl, valV_pos (by rw [e])]
      unfold look
      rw [List.find?_cons, decide_eq_true e, List.any_cons, decide_eq_true e]
      exact ⟨rfl, rfl⟩
    · rw [show toK (q :: r) = ((.inl q.1 : Key), V.int q.2) :: toK r from rfl, valV_neg (show ¬ (Sum.inl q.1 : Key) = .inl p from fun z => e (by cases z; rfl))]
      unfold look at ih ⊢
      rw [List.find?_cons, decide_eq_false e, List.any_cons, decide_eq_false e]
      exact ih
theorem mergeK_toK : ∀ (ps es : List (Int × Int)), ((es ++ ps).map (·.1)).Nodup → mergeK (toK es) (toK ps) = toK (es ++ ps)
  | [], es, _ => by
    rw [List.append_nil]
    rfl
  | q :: r, es, h => by
    show mergeK (putK (toK es) (.inl q.1) (.int q.2)) (toK r) = _
    have hno : (es.any fun r => decide (r.1 = q.1)) = false := by
      cases hb : es.any fun r => decide (r.1 = q.1) with
      | false => rfl
      | true =>
        obtain ⟨z, hz, e⟩ := List.any_eq_true.mp hb
        have e : z.1 = q.1 := of_decide_eq_true e
        rw [List.map_append, List.nodup_append] at h
        exact absurd e (h.2.2 z.1 (List.mem_map_of_mem hz) q.1 (by simp))
    rw [putK_toK]
    unfold putE
    rw [if_neg (by rw [hno]; decide), show es ++ q :: r = es ++ [q] ++ r by rw [List.append_assoc]; rfl]
    exact mergeK_toK r (es ++ [q]) (by rwa [List.append_assoc])
theorem w_dget2 {td ty tx : TE} {σ : L2.St} {H : Hp} {Q : VK} (q : td σ H fun x H1 => ∃ a, x = .ref a ∧ IsD H1 a ∧ ty σ H1 fun y H2 => tx σ H2 fun z H3 => ∃ o, DGet H3 a y o ∧ Q (o.getD z) H3) : tDGet2 td ty tx σ H Q := q
theorem w_dget {td ty : TE} {σ : L2.St} {H : Hp} {Q : VK} (q : td σ H fun x H1 => ty σ H1 fun y H2 => ∃ a v, x = .ref a ∧ DGet H2 a y (some v) ∧ Q v H2) : tDGet td ty σ H Q := q
theorem w_setD {o i v : V} {H : Hp} {Q : Hp → Prop} (q : ∃ a H', o = .ref a ∧ DPut H a i v H' ∧ Q H') : rSetD o i v H Q := q
theorem walk_es {d : Addr} {od : Obj} {es : List (Int × Int)} : Walk (Itk d od (toK es)) ((es.map (·.1)).map V.int).length (fun H => H d = some (.frz od (.dK (toK es)))) (YAt ((es.map (·.1)).map V.int)) := by
  have w := walk_keys (d := d) (o := od) (kvs := toK es)
  have e : (toK es).length = ((es.map (·.1)).map V.int).length := by simp [toK]
  rw [← e]
  refine w.mono (fun _ h => h) fun i H x H' hi _ y => ?_
  obtain ⟨rfl, k, v, h1, rfl⟩ := y
  refine ⟨rfl, ?_⟩
  unfold toK at h1
  rw [List.getElem?_map] at h1
  cases hq : es[i]? with
  | none =>
    rw [hq] at h1
    cases h1
  | some q =>
    rw [hq] at h1
    cases h1
    simp [hq, kV]
theorem prl_of {G : Hp} {f : Int → Int} : ∀ {qs : List Int} {ys : List V}, Paired (fun x y => ∃ (p : Int) (t : Addr), x = V.int p ∧ y = V.ref t ∧ G t = some (.tup [.int p, .int (f p)])) (qs.map V.int) ys → ∃ ts : List Addr, ys = ts.map V.ref ∧ Paired (Tp G) (qs.map fun p => (p, f p)) ts
  | [], ys, h => by
    cases h
    exact ⟨[], rfl, .nil⟩
  | q :: r, ys, h => by
    cases h with
    | cons h1 h2 =>
      obtain ⟨p, t, e1, e2, e3⟩ := h1
      cases e1
      obtain ⟨ts, e4, e5⟩ := prl_of h2
      exact ⟨t :: ts, by rw [e2, e4]; rfl, .cons e3 e5⟩
theorem val_some {es : List (Int × Int)} {q : Int × Int} (hn : (es.map (·.1)).Nodup) (h : q ∈ es) : valV (toK es) (.inl q.1) = some (.int (look es q.1)) := by
  have e := (val_toK q.1 es).1
  have e2 := (val_toK q.1 es).2
  have : (es.any fun r => decide (r.1 = q.1)) = true := List.any_eq_true.mpr ⟨q, h, decide_eq_true rfl⟩
  rw [this] at e2
  cases hv : valV (toK es) (.inl q.1) with
  | none =>
    rw [hv] at e2
    cases e2
  | some v =>
    rw [hv] at e
    exact congrArg some e

end Bc
namespace Bc
open PySem PySem.Spec PyProof.Rows L2
/-! ### papers and classes: what the functions do -/
def stepsN (g : Int) (v : V) : Bool := match v with | .int z => decide (z % g ≠ 0) | _ => false
def spTk : Sp := fun vs H Q _ => ∃ (l : Addr) (cs : List Int) (p : Int) (k : Nat), vs = [.ref l, .int p, .int (p ^ k)] ∧ H l = some (.lst (cs.map V.int)) ∧ cs.length ≤ 1000 ∧ 1 < p ∧ p < 1024 ∧
  ∀ t r H', Same H H' → H' t = some (.tup [.int ((tk p k cs).1 : Nat), .ref r, .int (p ^ (tk p k cs).2.2)]) → H' r = some (.lst ((tk p k cs).2.1.map V.int)) → Q (.ref t) H'
theorem tk_on {p : Int} {m : Nat} {cs : List Int} (h : (cs.filter fun z => decide (z % p ≠ 0)) = []) : tk p (m + 1) cs = ((tk p m (cs.map fun z => z / p)).1 + 1, (tk p m (cs.map fun z => z / p)).2) := by
  have e : (cs.all fun z => decide (z % p = 0)) = true := List.all_eq_true.mpr fun z hz => by
    have := List.filter_eq_nil_iff.mp h z hz
    simpa using this
  conv => lhs; unfold tk
  rw [if_pos e]
theorem tk_off {p : Int} {m : Nat} {cs : List Int} (h : (cs.filter fun z => decide (z % p ≠ 0)) ≠ []) : tk p (m + 1) cs = (0, cs, m + 1) := by
  have e : ¬ (cs.all fun z => decide (z % p = 0)) = true := fun e => h (List.filter_eq_nil_iff.mpr fun z hz => by
    have := of_decide_eq_true (List.all_eq_true.mp e z hz)
    simp [this])
  conv => lhs; unfold tk
  rw [if_neg e]
/-! sizes -/
theorem ev_bits {r : Int} (hr : r.natAbs < 1024) {B : Nat} : ∀ {cs : List Int}, Sml B cs → (ev cs r).natAbs < 2 ^ (B + 11 * cs.length)
  | [], _ => by
    rw [ev_nil]
    exact Nat.pow_pos (by decide)
  | c :: cs, h => by
    have ih := ev_bits hr (cs := cs) fun z hz => h z (List.mem_cons_of_mem _ hz)
    have hc := h c (List.mem_cons_self ..)
    rw [ev_cons]
    have h1 : (ev cs r * r + c).natAbs ≤ (ev cs r).natAbs * r.natAbs + c.natAbs := by
      have := Int.natAbs_add_le (ev cs r * r) c
      rwa [Int.natAbs_mul] at this
    have h2 : (ev cs r).natAbs * r.natAbs ≤ 2 ^ (B + 11 * cs.length) * 1024 := Nat.mul_le_mul (Nat.le_of_lt ih) (Nat.le_of_lt hr)
    have h3 : 2 ^ B ≤ 2 ^ (B + 11 * cs.length) := Nat.pow_le_pow_right (by decide) (by omega)
    rw [List.length_cons, show B + 11 * (cs.length + 1) = B + 11 * cs.length + 11 by omega, Nat.pow_add _ _ 11]
    have : (2 : Nat) ^ 11 = 2048 := by decide
    rw [this]
    omega
theorem suf_bits {r : Int} (hr : r.natAbs < 1024) {B : Nat} : ∀ {cs : List Int}, Sml B cs → Sml (B + 11 * cs.length) (suf r cs)
  | [], _, z, hz => by cases hz
  | c :: cs, h, z, hz => by
    rcases List.mem_cons.mp hz with e | e
    · rw [e]
      exact ev_bits hr h
    · have := suf_bits hr (cs := cs) (fun z hz => h z (List.mem_cons_of_mem _ hz)) z e
      exact Nat.lt_of_lt_of_le this (Nat.pow_le_pow_right (by decide) (by rw [List.length_cons]; omega))
def spMvd : Sp := fun vs H Q _ => ∃ (l : Addr) (cs : List Int) (r p w : Int) (B : Nat), vs = [.ref l, .int r, .int p, .int w] ∧ H l = some (.lst (cs.map V.int)) ∧ cs.length ≤ 30 ∧ Sml B cs ∧ B ≤ 8000 ∧ 0 ≤ r ∧ r < 1024 ∧ 1 < p ∧ p < 1024 ∧ 0 < w ∧ w.natAbs < 2 ^ 8000 ∧
  ∀ l' H', Same H H' → H' l' = some (.lst ((trim (mvd r p w cs.length 1 cs)).map V.int)) → Q (.ref l') H'
/-- a paper in the heap -/
def TrAt (H : Hp) : Nat → V → Tr → Prop
  | _, v, .all => v = .str "all"
  | 0, _, .node _ _ => False
  | n + 1, v, .node c ks => ∃ (t e : Addr) (as : List Addr), v = .ref t ∧ H t = some (.tup [.int (c : Nat), .ref e]) ∧ H e = some (.tup (as.map V.ref)) ∧ Paired (fun q a => ∃ u, H a = some (.tup [.int q.1, u]) ∧ TrAt H n u q.2) ks as
theorem TrAt.same {H H' : Hp} (s : Same H H') : ∀ {n : Nat} {v : V} {t : Tr}, TrAt H n v t → TrAt H' n v t
  | 0, _, .all, h => h
  | _ + 1, _, .all, h => h
  | 0, _, .node _ _, h => False.elim h
  | n + 1, v, .node c ks, h => by
    obtain ⟨t, e, as, h1, h2, h3, h4⟩ := h
    exact ⟨t, e, as, h1, s _ _ h2, s _ _ h3, paired_imp (fun _ _ z => by
      obtain ⟨u, z1, z2⟩ := z
      exact ⟨u, s _ _ z1, TrAt.same s z2⟩) h4⟩
def spPaperN (n : Nat) : Sp := fun vs H Q _ => ∃ (l : Addr) (cs : List Int) (p : Int) (k : Nat), vs = [.ref l, .int p, .int (p ^ k)] ∧ H l = some (.lst (cs.map V.int)) ∧ cs.length ≤ 30 ∧ Sml 8000 cs ∧ Pr p ∧ p < 1024 ∧ k ≤ 700 ∧ k ≤ n ∧ (k = n → n = 0 ∨ ∀ z ∈ cs, p ∣ z) ∧
  ∀ v H', Same H H' → TrAt H' n v (paperT p n k cs) → Q v H'
theorem tk_sml {p : Int} {B : Nat} {cs : List Int} (h : Sml B cs) (hp : 1 < p) (k : Nat) : Sml B (tk p k cs).2.1 := by
  induction k generalizing cs with
  | zero => exact h
  | succ k ih =>
    unfold tk
    split
    · refine ih (cs := cs.map fun z => z / p) fun z hz => ?_
      obtain ⟨y, hy, rfl⟩ := List.mem_map.mp hz
      exact Nat.lt_of_le_of_lt (Int.natAbs_ediv_le_natAbs _ _) (h y hy)
    · exact h
theorem mvd_rng (r p w : Int) (hw : 0 < w) : ∀ (n : Nat) (fac : Int) (cs : List Int), ∀ z ∈ mvd r p w n fac cs, 0 ≤ z ∧ z < w
  | 0, _, _, z, h => by cases h
  | _ + 1, _, [], z, h => by cases h
  | n + 1, fac, c :: cs, z, h => by
    rcases List.mem_cons.mp h with e | e
    · rw [e]
      exact ⟨Int.emod_nonneg _ (by omega), Int.emod_lt_of_pos _ hw⟩
    · exact mvd_rng r p w hw n (fac * p) (suf r cs) z e
theorem TrAt.upd {H : Hp} {fd : Addr} {xs ys : List V} (hf : H fd = some (.lst xs)) : ∀ {n : Nat} {v : V} {t : Tr}, TrAt H n v t → TrAt (L2.upd H fd (.lst ys)) n v t
  | 0, _, .all, h => h
  | _ + 1, _, .all, h => h
  | 0, _, .node _ _, h => False.elim h
  | n + 1, v, .node c ks, h => by
    obtain ⟨t, e, as, h1, h2, h3, h4⟩ := h
    exact ⟨t, e, as, h1, (upd_ne (fun e => by rw [e, hf] at h2; cases h2)).trans h2, (upd_ne (fun e => by rw [e, hf] at h3; cases h3)).trans h3, paired_imp (fun _ _ z => by
      obtain ⟨u, z1, z2⟩ := z
      exact ⟨u, (upd_ne (fun e => by rw [e, hf] at z1; cases z1)).trans z1, TrAt.upd hf z2⟩) h4⟩

end Bc
namespace Bc
open PySem PySem.Spec PyProof.Rows L2
/-! ### unlike things compared, lists against the empty list, dicts against {} -/
theorem u0 {k : Nat} {A : Around} (r : Room k A) : A.units < cLine := by
  have := r.un
  omega
def rEqTS : R2 := fun x y H Q => rEq x y H Q ∨ ∃ a xs b, x = .ref a ∧ y = .str b ∧ H a = some (.tup xs) ∧ Q (.bl false) H
def rNeE (K : PySem.W.Frag) : R2 := fun x y H Q => ∃ p q xs, x = .ref p ∧ y = .ref q ∧ SqL K H p xs ∧ SqL K H q [] ∧ Q (.bl (!xs.isEmpty)) H
def rNeDE : R2 := fun x y H Q => ∃ a b ks, x = .ref a ∧ y = .ref b ∧ H a = some (.dK ks) ∧ H b = some (.dK []) ∧ Q (.bl (!ks.isEmpty)) H
section
variable {X : Cx}
theorem op_eqTS (hu : X.A.units < cLine) : OpR X (compareOp .Eq) rEqTS := by
  intro pins s σ H x y v u Q I rx ry h
  rcases h with h | ⟨a, xs, b, rfl, rfl, ha, q⟩
  · exact op_eq pins s σ H x y v u Q I rx ry h
  · cases rx
    obtain ⟨t, rfl⟩ := ry
    obtain ⟨its, rv, ht, _⟩ := I.tuple (sqt ha)
    exact PySem.SeqAt.RcAt.tuple_str b t ht hu X.prog X.w _ _ ⟨.bl false, H, I, rfl, q⟩
theorem op_neE (hu : X.A.units + 64 < cLine) : OpR X (compareOp .NotEq) (rNeE X.K) := by
  intro pins s σ H x y v u Q I rx ry h
  obtain ⟨p, q, xs, rfl, rfl, hx, hy, k⟩ := h
  cases rx
  cases ry
  cases xs with
  | nil => exact rcn_lists (F := fun _ _ => False) I hx hy .nil (by omega) (fun _ _ _ _ h => h.elim) X.prog X.w _ _ ⟨.bl false, H, I, rfl, k⟩
  | cons x xs =>
    obtain ⟨is, r1, ⟨o1, n1, e1, c1, _, d1⟩, _⟩ := I.list hx
    obtain ⟨js, r2, ⟨o2, n2, e2, c2, _, d2⟩, _⟩ := I.list hy
    have l1 := r1.length
    have l2 := r2.length
    rw [List.length_cons] at l1
    rw [List.length_nil] at l2
    have h : PySem.SeqAt.RcNeAt X.A s (.ref p) (.ref q) true := PySem.SeqAt.RcNeAt.lists_lengths ⟨o1, e1, c1, n1, d1⟩ ⟨o2, e2, c2, n2, d2⟩ (by simp only [List.size_toArray, bne_iff_ne]; omega) (by omega)
    exact h X.prog X.w _ _ ⟨.bl true, H, I, rfl, k⟩
theorem op_neDE (hu : X.A.units < cLine) : OpR X (compareOp .NotEq) rNeDE := by
  intro pins s σ H x y v u Q I rx ry h
  obtain ⟨a, b, ks, rfl, rfl, ea, eb, q⟩ := h
  obtain rfl : v = Value.ref a := rx
  obtain rfl : u = Value.ref b := ry
  obtain ⟨_, ya, va, ra, da⟩ := (show ObjOk X.prog X.w H s.heap a (.dK ks) from I.hok a _ ea)
  obtain ⟨_, yb, vb, rb, db⟩ := (show ObjOk X.prog X.w H s.heap b (.dK []) from I.hok b _ eb)
  have la := ra.length
  have lb := rb.length
  rw [List.length_nil] at lb
  refine PySem.W.keq_ne (knd := mixKind X.prog X.w) (r := true) ya yb da db hu (fun e => ?_) (fin_bl I q ?_)
  · have : ks = [] := List.eq_nil_of_length_eq_zero (by omega)
    subst this
    exact hits_all rb ra (fun _ h => by cases h)
  · cases ks with
    | nil =>
      rw [List.length_nil] at la
      simp [← la, ← lb]
    | cons k ks =>
      rw [List.length_cons] at la
      have h1 : va.length ≠ vb.length := by omega
      simp [h1]
end
theorem w_eqS {x y : V} {H : Hp} {Q : VK} (h : scal x y = true) (q : Q (.bl (decide (x = y))) H) : rEqTS x y H Q := .inl ⟨h, q⟩
theorem w_eqTS {a : Addr} {xs : List V} {b : Str} {H : Hp} {Q : VK} (h : H a = some (.tup xs)) (q : Q (.bl false) H) : rEqTS (.ref a) (.str b) H Q := .inr ⟨a, xs, b, rfl, rfl, h, q⟩
theorem w_neE {K : PySem.W.Frag} {p q : Addr} {xs : List V} {H : Hp} {Q : VK} (h1 : SqL K H p xs) (h2 : SqL K H q []) (k : Q (.bl (!xs.isEmpty)) H) : rNeE K (.ref p) (.ref q) H Q := ⟨p, q, xs, rfl, rfl, h1, h2, k⟩
theorem w_neDE {p q : Addr} {ks : List (Key × V)} {H : Hp} {Q : VK} (h1 : H p = some (.dK ks)) (h2 : H q = some (.dK [])) (k : Q (.bl (!ks.isEmpty)) H) : rNeDE (.ref p) (.ref q) H Q := ⟨p, q, ks, rfl, rfl, h1, h2, k⟩
/-! ### leaves: what the walk needs -/
/-- nodes of a paper -/
def nds : Nat → Tr → Nat
  | _, .all => 1
  | 0, .node _ _ => 1
  | n + 1, .node _ ks => 1 + (ks.map fun q => nds n q.2).sum
theorem nds_pos (n : Nat) (t : Tr) : 0 < nds n t := by
  cases n with
  | zero => cases t <;> exact Nat.one_pos
  | succ n =>
    cases t with
    | all => exact Nat.one_pos
    | node c ks =>
      show 0 < 1 + _
      omega
theorem sum_le {α : Type} {f : α → Nat} {M : Nat} : ∀ {l : List α}, (∀ x ∈ l, f x ≤ M) → (l.map f).sum ≤ l.length * M
  | [], _ => by simp
  | a :: l, h => by
    have h1 := h a (List.mem_cons_self ..)
    have h2 := sum_le (l := l) fun x hx => h x (List.mem_cons_of_mem _ hx)
    rw [List.map_cons, List.sum_cons, List.length_cons, Nat.succ_mul]
    omega
/-- no more than b roots at each node -/
def Few (b : Nat) : Nat → Tr → Prop
  | _, .all => True
  | 0, .node _ _ => True
  | n + 1, .node _ ks => ks.length ≤ b ∧ ∀ q ∈ ks, Few b n q.2
theorem nds_le {b : Nat} : ∀ (n : Nat) (t : Tr), Few b n t → nds n t ≤ (b + 1) ^ n
  | 0, .all, _ => Nat.le_refl _
  | 0, .node _ _, _ => Nat.le_refl _
  | n + 1, .all, _ => Nat.pow_pos (by omega)
  | n + 1, .node c ks, h => by
    have hs := sum_le (l := ks) (f := fun q => nds n q.2) (M := (b + 1) ^ n) fun q hq => nds_le n q.2 (h.2 q hq)
    have hp : 0 < (b + 1) ^ n := Nat.pow_pos (by omega)
    have := Nat.mul_le_mul_right ((b + 1) ^ n) h.1
    show 1 + _ ≤ _
    rw [Nat.pow_succ, Nat.mul_add, Nat.mul_one, Nat.mul_comm]
    omega
theorem few_paper {p : Int} (hp : Pr p) {b : Nat} : ∀ (n k : Nat) (cs : List Int), cs.length ≤ b + 1 → Few b n (paperT p n k cs)
  | 0, _, _, _ => trivial
  | n + 1, k, cs, hl => by
    unfold paperT
    split
    · trivial
    · rename_i h0
      have hun := tk_unit p k cs (by omega)
      have htl := tk_len p k cs
      have hrl := rts_len hp _ (tk p k cs).2.1 rfl hun
      refine ⟨by rw [List.length_map]; omega, fun q hq => ?_⟩
      obtain ⟨r, hr, rfl⟩ := List.mem_map.mp hq
      refine few_paper hp n _ _ ?_
      have := trim_len (mvd r p (p ^ (tk p k cs).2.2) (tk p k cs).2.1.length 1 (tk p k cs).2.1)
      rw [mvd_len r p (p ^ (tk p k cs).2.2) (tk p k cs).2.1.length 1 (tk p k cs).2.1 rfl] at this
      omega
theorem few_paperP {p : Int} (hp : 0 < p) : ∀ (n k : Nat) (cs : List Int), Few p.toNat n (paperT p n k cs)
  | 0, _, _ => trivial
  | n + 1, k, cs => by
    unfold paperT
    split
    · trivial
    · refine ⟨?_, fun q hq => ?_⟩
      · rw [List.length_map]
        unfold rts
        rw [List.length_map]
        refine Nat.le_trans (List.length_filter_le _ _) ?_
        rw [List.length_range]
        exact Nat.le_refl _
      · obtain ⟨r, hr, rfl⟩ := List.mem_map.mp hq
        exact few_paperP hp n _ _
theorem lv_len (p : Int) : ∀ (n : Nat) (t : Tr) (r w : Int), (lv p n t r w).length ≤ nds n t
  | 0, .all, _, _ => Nat.le_refl _
  | _ + 1, .all, _, _ => Nat.le_refl _
  | 0, .node _ _, _, _ => Nat.zero_le _
  | n + 1, .node c ks, r, w => by
    show (ks.reverse.flatMap fun q => lv p n q.2 (r + w * q.1) (w * p)).length ≤ 1 + (ks.map fun q => nds n q.2).sum
    have : ∀ l : List (Int × Tr), (l.flatMap fun q => lv p n q.2 (r + w * q.1) (w * p)).length ≤ (l.map fun q => nds n q.2).sum := fun l => by
      induction l with
      | nil => simp
      | cons a l ih =>
        rw [List.flatMap_cons, List.length_append, List.map_cons, List.sum_cons]
        have := lv_len p n a.2 (r + w * a.1) (w * p)
        omega
    have h := this ks.reverse
    rw [show (ks.reverse.map fun q => nds n q.2).sum = (ks.map fun q => nds n q.2).sum by rw [List.map_reverse, List.sum_reverse]] at h
    omega
/-- a tree that waits: rest, wide, turns left, paper -/
abbrev Wt := Int × Int × Nat × Tr
def WtAt (H : Hp) (q : Wt) (a : Addr) : Prop := ∃ u, H a = some (.tup [.int q.1, .int q.2.1, u]) ∧ TrAt H q.2.2.1 u q.2.2.2
def WtOk (p : Int) (n : Nat) (q : Wt) : Prop := Good p q.2.2.2 ∧ ∃ j, q.2.1 = p ^ j ∧ j + q.2.2.1 = n
def WtS (p : Int) (q : Wt) : List (Int × Int) := lv p q.2.2.1 q.2.2.2 q.1 q.2.1
theorem WtAt.same {H H' : Hp} (s : Same H H') {q : Wt} {a : Addr} (h : WtAt H q a) : WtAt H' q a := by
  obtain ⟨u, h1, h2⟩ := h
  exact ⟨u, s _ _ h1, h2.same s⟩
theorem WtAt.upd {H : Hp} {fd : Addr} {xs ys : List V} (hf : H fd = some (.lst xs)) {q : Wt} {a : Addr} (h : WtAt H q a) : WtAt (L2.upd H fd (.lst ys)) q a := by
  obtain ⟨u, h1, h2⟩ := h
  exact ⟨u, (upd_ne (fun e => by rw [e, hf] at h1; cases h1)).trans h1, h2.upd hf⟩
theorem Tp.upd {H : Hp} {fd : Addr} {xs : List V} {o : HO} (hf : H fd = some (.lst xs)) {q : Int × Int} {a : Addr} (h : Tp H q a) : Tp (L2.upd H fd o) q a :=
  (upd_ne (fun e => by
    have h : H a = _ := h
    rw [e, hf] at h
    cases h)).trans h
theorem Tp.updD {H : Hp} {fd : Addr} {ks : List (Key × V)} {o : HO} (hf : H fd = some (.dK ks)) {q : Int × Int} {a : Addr} (h : Tp H q a) : Tp (L2.upd H fd o) q a :=
  (upd_ne (fun e => by
    have h : H a = _ := h
    rw [e, hf] at h
    cases h)).trans h
def spLeaves : Sp := fun vs H Q _ => ∃ (v : V) (p : Int) (n : Nat) (T : Tr), vs = [v, .int p] ∧ TrAt H n v T ∧ Good p T ∧ 1 < p ∧ p < 1024 ∧ n ≤ 701 ∧ nds n T ≤ 50000 ∧
  ∀ l fs H', Same H H' → H' l = some (.lst (fs.map V.ref)) → Paired (Tp H') (lv p n T 0 1) fs → Q (.ref l) H'
theorem none_of {H H' : Hp} {a : Addr} (s : Same H H') (n : H' a = none) : H a = none := by
  cases e : H a with
  | none => rfl
  | some o =>
    rw [s _ _ e] at n
    cases n
theorem paired_snoc {α β : Type} {R : α → β → Prop} : ∀ {xs : List α} {ys : List β} {y : β}, Paired R xs (ys ++ [y]) → ∃ xs' x, xs = xs' ++ [x] ∧ Paired R xs' ys ∧ R x y
  | _, [], _, .cons h .nil => ⟨[], _, rfl, .nil, h⟩
  | _, _ :: _, _, .cons h t => by
    obtain ⟨xs', x, e, h1, h2⟩ := paired_snoc t
    exact ⟨_ :: xs', x, by rw [e]; rfl, .cons h h1, h2⟩
theorem pow_bits {p : Int} (p1 : 1 < p) (p2 : p < 1024) (j : Nat) : (p ^ j).natAbs < 2 ^ (10 * j + 1) := by
  rw [Int.natAbs_pow, Nat.pow_succ, Nat.pow_mul]
  have h1 : p.natAbs ^ j ≤ (2 ^ 10) ^ j := Nat.pow_le_pow_left (by show p.natAbs ≤ 1024; omega) j
  have h2 : 0 < (2 ^ 10) ^ j := Nat.pow_pos (by decide)
  omega
theorem Paired.take_snoc {α : Type} {l : List α} {i : Nat} {x : α} (h : l[i]? = some x) : l.take (i + 1) = l.take i ++ [x] := by
  have hi := (List.getElem?_eq_some_iff.mp h).1
  rw [List.take_succ_eq_append_getElem hi, (List.getElem?_eq_some_iff.mp h).2]
theorem len_nds (k : Nat) : ∀ ks : List (Int × Tr), ks.length ≤ (ks.map fun q => nds k q.2).sum
  | [] => Nat.le_refl _
  | a :: l => by
    have h := len_nds k l
    have := nds_pos k a.2
    rw [List.map_cons, List.sum_cons, List.length_cons]
    omega
theorem len_ndsW : ∀ st : List Wt, st.length ≤ (st.map fun q => nds q.2.2.1 q.2.2.2).sum
  | [] => Nat.le_refl _
  | a :: l => by
    have h := len_ndsW l
    have := nds_pos a.2.2.1 a.2.2.2
    rw [List.map_cons, List.sum_cons, List.length_cons]
    omega

end Bc
namespace Bc
open PySem PySem.Spec PyProof.Rows L2
/-! ### widest: levels in the heap -/
theorem pow_inj {p : Int} (p1 : 1 < p) {i j : Nat} (h : p ^ i = p ^ j) : i = j := by
  have key : ∀ {i j : Nat}, i < j → p ^ i < p ^ j := fun {i j} h => Int.pow_lt_pow_of_lt p1 h
  rcases Nat.lt_trichotomy i j with z | z | z
  · have := key z
    omega
  · exact z
  · have := key z
    omega
def kvL (p : Int) (js : List Nat) (ad : Nat → Addr) : List (Key × V) := js.map fun j => ((.inl (p ^ j) : Key), V.ref (ad j))
structure LvD (H0 H : Hp) (d : Addr) (p : Int) (P : Nat → List Int) (js : List Nat) (ad : Nat → Addr) : Prop where
  same : Same H0 H
  dn : H0 d = none
  at_ : H d = some (.dK (kvL p js ad))
  nd : js.Nodup
  l : ∀ j ∈ js, H (ad j) = some (.lst ((P j).map V.int))
  ln : ∀ j ∈ js, H0 (ad j) = none
  inj : ∀ i ∈ js, ∀ j ∈ js, ad i = ad j → i = j
  no : ∀ j, j ∉ js → P j = []
theorem LvD.mono {H0 H H' : Hp} {d : Addr} {p : Int} {P : Nat → List Int} {js : List Nat} {ad : Nat → Addr} (L : LvD H0 H d p P js ad) (s : Same H H') : LvD H0 H' d p P js ad :=
  ⟨L.same.trans s, L.dn, s _ _ L.at_, L.nd, fun j h => s _ _ (L.l j h), L.ln, L.inj, L.no⟩
theorem LvD.dne {H0 H : Hp} {d : Addr} {p : Int} {P : Nat → List Int} {js : List Nat} {ad : Nat → Addr} (L : LvD H0 H d p P js ad) {j : Nat} (h : j ∈ js) : ad j ≠ d := fun e => by
  have h1 := L.l j h
  rw [e, L.at_] at h1
  cases h1
/-- another object is written -/
theorem LvD.upd {H0 H : Hp} {d b : Addr} {o : HO} {p : Int} {P : Nat → List Int} {js : List Nat} {ad : Nat → Addr} (L : LvD H0 H d p P js ad) (h0 : H0 b = none) (hd : b ≠ d) (ha : ∀ j ∈ js, ad j ≠ b) : LvD H0 (L2.upd H b o) d p P js ad :=
  ⟨fun c o' e => by
    rw [upd_ne (fun z => by rw [z, h0] at e; cases e)]
    exact L.same _ _ e, L.dn, (upd_ne (Ne.symm hd)).trans L.at_, L.nd, fun j h => (upd_ne (ha j h)).trans (L.l j h), L.ln, L.inj, L.no⟩
theorem kv_val {p : Int} (p1 : 1 < p) (ad : Nat → Addr) (j : Nat) : ∀ js : List Nat, valV (kvL p js ad) (.inl (p ^ j)) = if j ∈ js then some (.ref (ad j)) else none
  | [] => rfl
  | i :: js => by
    have ih := kv_val p1 ad j js
    by_cases e : i = j
    · subst e
      rw [if_pos (List.mem_cons_self ..)]
      exact valV_pos rfl
    · rw [show kvL p (i :: js) ad = ((.inl (p ^ i) : Key), V.ref (ad i)) :: kvL p js ad from rfl, valV_neg (show ¬ (Sum.inl (p ^ i) : Key) = .inl (p ^ j) from fun z => e (pow_inj p1 (Sum.inl.inj z))), ih]
      by_cases hj : j ∈ js
      · rw [if_pos hj, if_pos (List.mem_cons_of_mem _ hj)]
      · rw [if_neg hj, if_neg (fun z => (List.mem_cons.mp z).elim (fun z => e z.symm) hj)]
def addP (P : Nat → List Int) (j : Nat) (r : Int) : Nat → List Int := fun i => if i = j then P j ++ [r] else P i
/-- levels.setdefault(p ^ j, []).append(r) -/
def AddK (H0 H : Hp) (d e : Addr) (p : Int) (P : Nat → List Int) (js : List Nat) (ad : Nat → Addr) (j : Nat) (r : Int) (Q : VK) : Prop :=
  ∀ (a : Addr) (H' : Hp) (js' : List Nat) (ad' : Nat → Addr), (a = e ∨ ∃ i ∈ js, a = ad i) → (∀ i, i ∈ js' ↔ i ∈ js ∨ i = j) → (∀ i ∈ js', ad' i = e ∨ ∃ i' ∈ js, ad' i = ad i') → (∀ b, b ≠ d → b ≠ a → H' b = H b) → LvD H0 H' d p (addP P j r) js' ad' → Q .non H'
theorem LvD.add {H0 H : Hp} {d e : Addr} {p : Int} {P : Nat → List Int} {js : List Nat} {ad : Nat → Addr} (L : LvD H0 H d p P js ad) (p1 : 1 < p) (j : Nat) (r : Int) (he : H e = some (.lst [])) (h0 : H0 e = none) (hne : ∀ i ∈ js, ad i ≠ e) (hz : (P j).length < sizeLine) :
    (∀ v, valV (kvL p js ad) (.inl (p ^ j)) = some v → ∃ a xs, v = .ref a ∧ H a = some (.lst xs) ∧ ∀ Q, AddK H0 H d e p P js ad j r Q → rAppend (.ref a) [.int r] H Q) ∧ (valV (kvL p js ad) (.inl (p ^ j)) = none → ∃ xs, L2.upd H d (.dK (putK (kvL p js ad) (.inl (p ^ j)) (.ref e))) e = some (.lst xs) ∧ ∀ Q, AddK H0 H d e p P js ad j r Q → rAppend (.ref e) [.int r] (L2.upd H d (.dK (putK (kvL p js ad) (.inl (p ^ j)) (.ref e)))) Q) := by
  rw [kv_val p1]
  constructor
  · intro v hv
    by_cases hj : j ∈ js
    · rw [if_pos hj] at hv
      cases hv
      have hl := L.l j hj
      refine ⟨ad j, _, rfl, hl, fun Q q => ?_⟩
      refine w_append hl (by rw [List.length_map]; exact hz) (q (ad j) _ js ad (.inr ⟨j, hj, rfl⟩) (fun i => ⟨.inl, fun z => z.elim id fun z => by rw [z]; exact hj⟩) (fun i hi => .inr ⟨i, hi, rfl⟩) (fun b _ hb => upd_ne hb) ?_)
      have hd := L.dne hj
      refine ⟨fun c o' e => ?_, L.dn, (upd_ne hd.symm).trans L.at_, L.nd, fun i hi => ?_, L.ln, L.inj, fun i hi => ?_⟩
      · rw [upd_ne (fun z => by rw [z, L.ln j hj] at e; cases e)]
        exact L.same _ _ e
      · unfold addP
        by_cases z : i = j
        · subst z
          rw [if_pos rfl, upd_same, List.map_append]
          rfl
        · rw [if_neg z, upd_ne (fun y => z (L.inj i hi j hj y))]
          exact L.l i hi
      · unfold addP
        rw [if_neg (fun z => hi (by rw [z]; exact hj))]
        exact L.no i hi
    · rw [if_neg hj] at hv
      cases hv
  · intro hv
    by_cases hj : j ∈ js
    · rw [if_pos hj] at hv
      cases hv
    · have hk : valV (kvL p js ad) (.inl (p ^ j)) = none := by rw [kv_val p1, if_neg hj]
      have hed : e ≠ d := fun z => by
        rw [z, L.at_] at he
        cases he
      have he2 : L2.upd H d (.dK (putK (kvL p js ad) (.inl (p ^ j)) (.ref e))) e = some (.lst []) := (upd_ne hed).trans he
      have hlt : ∀ i ∈ js, i ≠ j := fun i hi z => hj (by rw [← z]; exact hi)
      refine ⟨_, he2, fun Q q => ?_⟩
      refine w_append he2 (by decide) (q e _ (js ++ [j]) (fun i => if i = j then e else ad i) (.inl rfl) (fun i => by simp) (fun i hi => ?_) (fun b hb hb2 => (upd_ne hb2).trans (upd_ne hb)) ?_)
      · show (if i = j then e else ad i) = e ∨ _
        by_cases z : i = j
        · exact .inl (if_pos z)
        · rcases List.mem_append.mp hi with z2 | z2
          · exact .inr ⟨i, z2, if_neg z⟩
          · exact absurd (List.mem_singleton.mp z2) z
      · have ekv : kvL p (js ++ [j]) (fun i => if i = j then e else ad i) = kvL p js ad ++ [((.inl (p ^ j) : Key), V.ref e)] := by
          unfold kvL
          rw [List.map_append]
          congr 1
          · refine List.map_congr_left fun i hi => ?_
            show ((Sum.inl (p ^ i) : Key), V.ref (if i = j then e else ad i)) = _
            rw [if_neg (hlt i hi)]
          · show [((Sum.inl (p ^ j) : Key), V.ref (if j = j then e else ad j))] = _
            rw [if_pos rfl]
        refine ⟨fun c o' e' => ?_, L.dn, ?_, ?_, fun i hi => ?_, fun i hi => ?_, fun i hi i' hi' hh => ?_, fun i hi => ?_⟩
        · rw [upd_ne (fun z => by rw [z, h0] at e'; cases e'), upd_ne (fun z => by rw [z, L.dn] at e'; cases e')]
          exact L.same _ _ e'
        · rw [upd_ne hed.symm, upd_same, ekv, putK_new _ hk]
        · rw [List.nodup_append]
          exact ⟨L.nd, by simp, fun a ha b hb => by rw [List.mem_singleton.mp hb]; exact hlt a ha⟩
        · show L2.upd _ e _ (if i = j then e else ad i) = some (.lst ((addP P j r i).map V.int))
          unfold addP
          by_cases z : i = j
          · rw [if_pos z, if_pos z, upd_same, L.no j hj]
            rfl
          · have hi : i ∈ js := (List.mem_append.mp hi).elim id fun h => absurd (List.mem_singleton.mp h) z
            rw [if_neg z, if_neg z, upd_ne (hne i hi), upd_ne (L.dne hi)]
            exact L.l i hi
        · show H0 (if i = j then e else ad i) = none
          by_cases z : i = j
          · rw [if_pos z]
            exact h0
          · rw [if_neg z]
            exact L.ln i ((List.mem_append.mp hi).elim id fun h => absurd (List.mem_singleton.mp h) z)
        · have hh : (if i = j then e else ad i) = (if i' = j then e else ad i') := hh
          have mem : ∀ {i : Nat}, i ∈ js ++ [j] → i ≠ j → i ∈ js := fun h z => (List.mem_append.mp h).elim id fun h => absurd (List.mem_singleton.mp h) z
          by_cases z : i = j
          · by_cases z' : i' = j
            · rw [z, z']
            · rw [if_pos z, if_neg z'] at hh
              exact absurd hh.symm (hne i' (mem hi' z'))
          · by_cases z' : i' = j
            · rw [if_neg z, if_pos z'] at hh
              exact absurd hh (hne i (mem hi z))
            · rw [if_neg z, if_neg z'] at hh
              exact L.inj i (mem hi z) i' (mem hi' z') hh
        · unfold addP
          rw [List.mem_append] at hi
          rw [if_neg (fun z => hi (.inr (by rw [z]; exact List.mem_singleton.mpr rfl)))]
          exact L.no i fun z => hi (.inl z)
/-- levels.pop(p ^ j) -/
theorem LvD.pop {H0 H : Hp} {d : Addr} {p : Int} {P : Nat → List Int} {js : List Nat} {ad : Nat → Addr} (L : LvD H0 H d p P js ad) (p1 : 1 < p) (j : Nat) : LvD H0 (L2.upd H d (.dK (dropK (kvL p js ad) (.inl (p ^ j))))) d p (fun i => if i = j then [] else P i) (js.filter fun i => decide (i ≠ j)) ad := by
  have mem : ∀ {i : Nat}, i ∈ (js.filter fun i => decide (i ≠ j)) → i ∈ js ∧ i ≠ j := fun h => ⟨(List.mem_filter.mp h).1, of_decide_eq_true (List.mem_filter.mp h).2⟩
  refine ⟨fun c o' e' => ?_, L.dn, ?_, L.nd.filter _, fun i hi => ?_, fun i hi => L.ln i (mem hi).1, fun i hi i' hi' => L.inj i (mem hi).1 i' (mem hi').1, fun i hi => ?_⟩
  · rw [upd_ne (fun z => by rw [z, L.dn] at e'; cases e')]
    exact L.same _ _ e'
  · rw [upd_same]
    congr 2
    unfold dropK kvL
    rw [List.filter_map]
    congr 1
    refine List.filter_congr fun i _ => ?_
    show decide ((Sum.inl (p ^ i) : Key) ≠ .inl (p ^ j)) = decide (i ≠ j)
    refine decide_eq_decide.mpr ⟨fun h z => h (by rw [z]), fun h z => h (pow_inj p1 (Sum.inl.inj z))⟩
  · show L2.upd _ d _ (ad i) = some (.lst (List.map V.int (if i = j then [] else P i)))
    rw [if_neg (mem hi).2, upd_ne (L.dne (mem hi).1)]
    exact L.l i (mem hi).1
  · show (if i = j then [] else P i) = []
    by_cases z : i = j
    · rw [if_pos z]
    · rw [if_neg z]
      exact L.no i fun h => hi (List.mem_filter.mpr ⟨h, decide_eq_true z⟩)
/-- the keys of a dict whose keys are ints -/
theorem walk_ks {d : Addr} {od : Obj} {kvs : List (Key × V)} {ks : List Int} (h : kvs.map (·.1) = ks.map fun k => (.inl k : Key)) : Walk (Itk d od kvs) (ks.map V.int).length (fun H => H d = some (.frz od (.dK kvs))) (YAt (ks.map V.int)) := by
  have w := walk_keys (d := d) (o := od) (kvs := kvs)
  have e : kvs.length = (ks.map V.int).length := by
    have := congrArg List.length h
    rw [List.length_map, List.length_map] at this
    rw [this, List.length_map]
  rw [← e]
  refine w.mono (fun _ h => h) fun i H x H' hi _ y => ?_
  obtain ⟨rfl, k, v, h1, rfl⟩ := y
  refine ⟨rfl, ?_⟩
  have h2 := congrArg (fun l => l[i]?) h
  simp only [List.getElem?_map, h1, Option.map_some] at h2
  cases hq : ks[i]? with
  | none =>
    rw [hq] at h2
    cases h2
  | some q =>
    rw [hq] at h2
    rw [List.getElem?_map, hq]
    have : k = .inl q := Option.some.inj h2
    rw [this]
    rfl
/-! #### the levels that hold nothing are passed over -/
theorem nxt_nil (p : Int) (j : Nat) (P : Nat → List Int) (h : P (j + 1) = []) : nxt p j P = P := by
  funext i
  unfold nxt
  split
  · rename_i e
    rw [e, h]
    exact List.append_nil _
  · rfl
theorem run_skip (p : Int) : ∀ (J j : Nat) (P : Nat → List Int), j ≤ J → (∀ i, j < i → i ≤ J → P i = []) → run p J P = run p j P
  | 0, j, P, h, _ => by
    have : j = 0 := by omega
    rw [this]
  | J + 1, j, P, h, hn => by
    by_cases e : j = J + 1
    · rw [e]
    · have h1 := hn (J + 1) (by omega) (Nat.le_refl _)
      show ((fnd p J (P (J + 1))).map fun r => (r, J + 1)) ++ run p J (nxt p J P) = _
      rw [nxt_nil p J P h1, h1]
      exact run_skip p J j P (by omega) fun i hi hi2 => hn i hi (by omega)
theorem run_nil (p : Int) : ∀ (J : Nat) (P : Nat → List Int), (∀ i, i ≤ J → P i = []) → run p J P = []
  | 0, P, h => by
    show (P 0).map _ = []
    rw [h 0 (Nat.le_refl _)]
    rfl
  | J + 1, P, h => by
    rw [run_skip p (J + 1) 0 P (Nat.zero_le _) fun i _ hi => h i hi]
    exact run_nil p 0 P fun i hi => h i (by omega)
def tot (P : Nat → List Int) : Nat → Nat
  | 0 => (P 0).length
  | J + 1 => (P (J + 1)).length + tot P J
theorem tot_le (P : Nat → List Int) {J i : Nat} (h : i ≤ J) : (P i).length ≤ tot P J := by
  induction J with
  | zero =>
    have : i = 0 := by omega
    rw [this]
    exact Nat.le_refl _
  | succ J ih =>
    by_cases e : i = J + 1
    · rw [e]
      exact Nat.le_add_right _ _
    · exact Nat.le_trans (ih (by omega)) (Nat.le_add_left _ _)
theorem tot_mono (P : Nat → List Int) {i J : Nat} (h : i ≤ J) : tot P i ≤ tot P J := by
  induction J with
  | zero =>
    have : i = 0 := by omega
    rw [this]
    exact Nat.le_refl _
  | succ J ih =>
    by_cases e : i = J + 1
    · rw [e]
      exact Nat.le_refl _
    · exact Nat.le_trans (ih (by omega)) (Nat.le_add_left _ _)
theorem tot_congr {P P' : Nat → List Int} {J : Nat} (h : ∀ i, i ≤ J → P i = P' i) : tot P J = tot P' J := by
  induction J with
  | zero => exact congrArg List.length (h 0 (Nat.le_refl _))
  | succ J ih =>
    show (P (J + 1)).length + tot P J = (P' (J + 1)).length + tot P' J
    rw [h (J + 1) (Nat.le_refl _), ih fun i hi => h i (by omega)]
theorem tot_nxt (p : Int) (j : Nat) (P : Nat → List Int) : tot (nxt p j P) j = tot P j + (ups p j (P (j + 1))).length := by
  cases j with
  | zero =>
    show (nxt p 0 P 0).length = _
    unfold nxt
    rw [if_pos rfl, List.length_append]
    rfl
  | succ j =>
    show (nxt p (j + 1) P (j + 1)).length + tot (nxt p (j + 1) P) j = _
    rw [tot_congr (P := nxt p (j + 1) P) (P' := P) fun i hi => by unfold nxt; rw [if_neg (by omega)]]
    unfold nxt
    rw [if_pos rfl, List.length_append]
    show _ = (P (j + 1)).length + tot P j + _
    omega
theorem fnd_ups (p : Int) (j : Nat) (l : List Int) (here : List Int) : (l.filter fun r => !full p j here r).length + (l.filter fun r => full p j here r && decide (r = r % p ^ j)).length ≤ l.length := by
  induction l with
  | nil => simp
  | cons a l ih =>
    rw [List.filter_cons, List.filter_cons]
    cases h : full p j here a with
    | true =>
      simp only [Bool.not_true, Bool.false_eq_true, if_false, Bool.true_and]
      split
      · rw [List.length_cons, List.length_cons]
        omega
      · rw [List.length_cons]
        omega
    | false =>
      simp only [Bool.not_false, if_true, Bool.false_and, Bool.false_eq_true, if_false]
      rw [List.length_cons, List.length_cons]
      omega
/-! #### the counts of the rests a step wider -/
def cntR (M : Int) (l : List Int) (v : Int) : Nat := (l.filter fun r => decide (r % M = v)).length
theorem cntR_snoc (M : Int) (l : List Int) (r v : Int) : cntR M (l ++ [r]) v = cntR M l v + if r % M = v then 1 else 0 := by
  unfold cntR
  rw [List.filter_append, List.length_append, List.filter_cons]
  by_cases e : r % M = v
  · rw [if_pos e, if_pos (decide_eq_true e)]
    rfl
  · rw [if_neg e, if_neg (by simpa using e)]
    rfl
theorem cntR_pos {M : Int} {l : List Int} {r : Int} (h : r ∈ l) : 0 < cntR M l (r % M) := List.length_pos_of_mem (List.mem_filter.mpr ⟨h, decide_eq_true rfl⟩)
/-- kvs holds the counts -/
def Cnt (M : Int) (l : List Int) (kvs : List (Key × V)) : Prop := kvs.length ≤ l.length ∧ ∀ v : Int, valV kvs (.inl v) = if cntR M l v = 0 then none else some (.int (cntR M l v : Nat))
theorem Cnt.nil (M : Int) : Cnt M [] [] := ⟨Nat.le_refl _, fun v => rfl⟩
theorem Cnt.getD {M : Int} {l : List Int} {kvs : List (Key × V)} (h : Cnt M l kvs) (v : Int) : (valV kvs (.inl v)).getD (.int 0) = .int (cntR M l v : Nat) := by
  rw [h.2 v]
  split
  · rename_i e
    rw [e]
    rfl
  · rfl
theorem Cnt.snoc {M : Int} {l : List Int} {kvs : List (Key × V)} (h : Cnt M l kvs) (r : Int) : Cnt M (l ++ [r]) (putK kvs (.inl (r % M)) (.int ((cntR M l (r % M) : Nat) + 1))) := by
  refine ⟨?_, fun v => ?_⟩
  · have := length_putK kvs (.inl (r % M)) (.int ((cntR M l (r % M) : Nat) + 1))
    rw [List.length_append, List.length_singleton]
    have := h.1
    omega
  · rw [valV_put, cntR_snoc]
    by_cases e : r % M = v
    · subst e
      rw [if_pos rfl, if_pos rfl, if_neg (by omega)]
      rfl
    · rw [if_neg (fun z => e (Sum.inl.inj z).symm), if_neg e, Nat.add_zero]
      exact h.2 v
/-! #### ordered, widest: what they promise -/
def spOrd : Sp := fun vs H Q _ => ∃ (l : Addr) (F : List (Int × Int)) (as : List Addr), vs = [.ref l] ∧ H l = some (.lst (as.map V.ref)) ∧ Paired (Tp H) F as ∧ (F.map (·.1)).Nodup ∧ F.length ≤ 50000 ∧
  ∀ l' F' bs H', Same H H' → F'.Perm F → (F'.map (·.1)).Pairwise (· ≤ ·) → H' l' = some (.lst (bs.map V.ref)) → Paired (Tp H') F' bs → Q (.ref l') H'
def lvlP (p : Int) (cl : List (Int × Int)) : Nat → List Int := fun i => (cl.filter fun q => decide (q.2 = p ^ i)).map (·.1)
def prs (p : Int) (W : List (Int × Nat)) : List (Int × Int) := W.map fun q => (q.1, p ^ q.2)
def spWid : Sp := fun vs H Q _ => ∃ (c : Addr) (cl : List (Int × Int)) (as : List Addr) (p : Int) (K : Nat), vs = [.ref c, .int p] ∧ H c = some (.lst (as.map V.ref)) ∧ Paired (Tp H) cl as ∧ (∀ q ∈ cl, ∃ j, j ≤ K ∧ q.2 = p ^ j) ∧ 1 < p ∧ p < 1024 ∧ K ≤ 701 ∧ cl.length ≤ 20000 ∧ ((run p K (lvlP p cl)).map (·.1)).Nodup ∧
  ∀ t W bs H', Same H H' → W.Perm (prs p (run p K (lvlP p cl))) → (W.map (·.1)).Pairwise (· ≤ ·) → H' t = some (.tup (bs.map V.ref)) → Paired (Tp H') W bs → Q (.ref t) H'
theorem toK_tp {K : PySem.W.Frag} {H : Hp} : ∀ {es : List (Int × Int)} {as : List Addr}, Paired (Tp H) es as → Paired (fun p kv => SqT K H p [kV kv.1, kv.2]) as (toK es)
  | _, _, .nil => .nil
  | _, _, .cons h t => .cons (sqt h) (toK_tp t)
/-- the pairs in the order of their firsts -/
theorem look_perm {es : List (Int × Int)} (hn : (es.map (·.1)).Nodup) {qs : List Int} (pm : qs.Perm (es.map (·.1))) : (qs.map fun p => (p, look es p)).Perm es := by
  refine List.Perm.trans (pm.map fun p => (p, look es p)) ?_
  rw [List.map_map]
  have : es.map ((fun p => (p, look es p)) ∘ fun x => x.1) = es.map id := List.map_congr_left fun q hq => by
    show (q.1, look es q.1) = q
    have h1 := val_some hn hq
    have h2 : valV (toK es) (.inl q.1) = some (.int q.2) := by
      clear h1 pm
      induction es with
      | nil => cases hq
      | cons a l ih =>
        rw [List.map_cons, List.nodup_cons] at hn
        rcases List.mem_cons.mp hq with e | e
        · rw [e]
          exact valV_pos rfl
        · rw [show toK (a :: l) = ((.inl a.1 : Key), V.int a.2) :: toK l from rfl, valV_neg (show ¬ (Sum.inl a.1 : Key) = .inl q.1 from fun z => hn.1 (by rw [Sum.inl.inj z]; exact List.mem_map_of_mem e))]
          exact ih hn.2 e
    rw [h2] at h1
    have : V.int q.2 = V.int (look es q.1) := Option.some.inj h1
    rw [← V.int.inj this]
  rw [this, List.map_id]

theorem w_setd {td ty tx : TE} {σ : L2.St} {H : Hp} {Q : VK} (q : td σ H fun x H1 => ∃ a, x = .ref a ∧ IsD H1 a ∧ ty σ H1 fun y H2 => tx σ H2 fun z H3 => ∃ (kvs : List (Key × V)) (k : Key), H3 a = some (.dK kvs) ∧ y = kV k ∧ kvs.length < sizeLine ∧
  (∀ v, valV kvs k = some v → Q v H3) ∧ (valV kvs k = none → Q z (L2.upd H3 a (.dK (putK kvs k z))))) : tDSetd td ty tx σ H Q := q
theorem w_dpop1 {td ty : TE} {σ : L2.St} {H : Hp} {Q : VK} (q : td σ H fun x H1 => ∃ a, x = .ref a ∧ IsD H1 a ∧ ty σ H1 fun y H2 => ∃ kvs k v, H2 a = some (.dK kvs) ∧ y = kV k ∧ valV kvs k = some v ∧ Q v (L2.upd H2 a (.dK (dropK kvs k)))) : tDPop1 td ty σ H Q := q
theorem LvD.len {H0 H : Hp} {d : Addr} {p : Int} {P : Nat → List Int} {js : List Nat} {ad : Nat → Addr} (L : LvD H0 H d p P js ad) {J : Nat} (h : ∀ j ∈ js, j ≤ J) : (kvL p js ad).length ≤ J + 1 := by
  unfold kvL
  rw [List.length_map]
  have := nd_le (l := js) (m := List.range (J + 1)) L.nd fun j hj => List.mem_range.mpr (by have := h j hj; omega)
  rwa [List.length_range] at this
theorem lvlP_snoc {p : Int} (p1 : 1 < p) (cl : List (Int × Int)) (r : Int) (j : Nat) : lvlP p (cl ++ [(r, p ^ j)]) = addP (lvlP p cl) j r := by
  funext i
  unfold lvlP addP
  rw [List.filter_append, List.map_append, List.filter_cons]
  by_cases e : i = j
  · subst e
    rw [if_pos rfl, if_pos (decide_eq_true rfl)]
    rfl
  · rw [if_neg e, if_neg (fun z => e (pow_inj p1 (of_decide_eq_true z)).symm)]
    exact List.append_nil _
theorem lvlP_len (p : Int) (cl : List (Int × Int)) (i : Nat) : (lvlP p cl i).length ≤ cl.length := by
  unfold lvlP
  rw [List.length_map]
  exact List.length_filter_le _ _
/-- how many there are in all -/
theorem lvlP_tot {p : Int} (p1 : 1 < p) : ∀ (cl : List (Int × Int)) (J : Nat), tot (lvlP p cl) J ≤ cl.length := by
  intro cl J
  have key : ∀ cl : List (Int × Int), tot (lvlP p cl) J ≤ cl.length := by
    intro cl
    induction cl with
    | nil =>
      rw [show tot (lvlP p []) J = 0 by
        induction J with
        | zero => rfl
        | succ J ih => exact (Nat.zero_add _).trans ih]
      exact Nat.le_refl _
    | cons a l ih =>
      have step : ∀ J, tot (lvlP p (a :: l)) J ≤ tot (lvlP p l) J + if ∃ i, i ≤ J ∧ a.2 = p ^ i then 1 else 0 := by
        have one : ∀ i, (lvlP p (a :: l) i).length = (lvlP p l i).length + if a.2 = p ^ i then 1 else 0 := fun i => by
          unfold lvlP
          rw [List.filter_cons]
          by_cases e : a.2 = p ^ i
          · rw [if_pos (decide_eq_true e), if_pos e]
            rfl
          · rw [if_neg (by simpa using e), if_neg e]
            rfl
        intro J
        induction J with
        | zero =>
          show (lvlP p (a :: l) 0).length ≤ (lvlP p l 0).length + _
          rw [one 0]
          by_cases e : a.2 = p ^ 0
          · rw [if_pos e, if_pos ⟨0, Nat.le_refl _, e⟩]
            exact Nat.le_refl _
          · rw [if_neg e]
            omega
        | succ J ih =>
          show (lvlP p (a :: l) (J + 1)).length + tot (lvlP p (a :: l)) J ≤ (lvlP p l (J + 1)).length + tot (lvlP p l) J + _
          rw [one (J + 1)]
          by_cases e : a.2 = p ^ (J + 1)
          · have hno : ¬ ∃ i, i ≤ J ∧ a.2 = p ^ i := fun ⟨i, hi, e2⟩ => by
              have := pow_inj p1 (e.symm.trans e2)
              omega
            rw [if_neg hno] at ih
            rw [if_pos e, if_pos ⟨J + 1, Nat.le_refl _, e⟩]
            omega
          · rw [if_neg e]
            by_cases h : ∃ i, i ≤ J ∧ a.2 = p ^ i
            · obtain ⟨i, hi, e2⟩ := id h
              rw [if_pos h] at ih
              rw [if_pos ⟨i, by omega, e2⟩]
              omega
            · rw [if_neg h] at ih
              omega
      have := step J
      rw [List.length_cons]
      split at this <;> omega
  exact key cl
/-! #### one level -/
def fd0 (p : Int) (j : Nat) (here : List Int) (r : Int) : Bool := match j with | 0 => true | t + 1 => !full p t here r
def up0 (p : Int) (j : Nat) (here : List Int) (r : Int) : Bool := match j with | 0 => false | t + 1 => full p t here r && decide (r = r % p ^ t)
def upP (P : Nat → List Int) (t : Nat) (U : List Int) : Nat → List Int := fun l => if l = t then P t ++ U else P l
def offP (P : Nat → List Int) (j : Nat) : Nat → List Int := fun l => if l = j then [] else P l
theorem run_congr (p : Int) : ∀ (J : Nat) {P P' : Nat → List Int}, (∀ l, l ≤ J → P l = P' l) → run p J P = run p J P'
  | 0, P, P', h => by
    show (P 0).map _ = (P' 0).map _
    rw [h 0 (Nat.le_refl _)]
  | J + 1, P, P', h => by
    show ((fnd p J (P (J + 1))).map fun r => (r, J + 1)) ++ run p J (nxt p J P) = ((fnd p J (P' (J + 1))).map fun r => (r, J + 1)) ++ run p J (nxt p J P')
    rw [h (J + 1) (Nat.le_refl _)]
    congr 1
    refine run_congr p J fun l hl => ?_
    unfold nxt
    rw [h (J + 1) (Nat.le_refl _), h J (Nat.le_succ _), h l (by omega)]
theorem step_eq (p : Int) (t : Nat) (P : Nat → List Int) {l : Nat} (h : l ≤ t) : upP (offP P (t + 1)) t ((P (t + 1)).filter (up0 p (t + 1) (P (t + 1)))) l = nxt p t P l := by
  unfold upP nxt offP
  by_cases e : l = t
  · rw [if_pos e, if_pos e, if_neg (by omega)]
    rfl
  · rw [if_neg e, if_neg e, if_neg (by omega)]
theorem step_run {p : Int} {J j : Nat} {P : Nat → List Int} (hj : j ≤ J) (hz : ∀ l, j < l → l ≤ J → P l = []) :
    run p J P = ((P j).filter (fd0 p j (P j))).map (fun r => (r, j)) ++ run p (j - 1) (upP (offP P j) (j - 1) ((P j).filter (up0 p j (P j)))) := by
  rw [run_skip p J j P hj hz]
  cases j with
  | zero =>
    show (P 0).map _ = _
    rw [show (P 0).filter (fd0 p 0 (P 0)) = P 0 from List.filter_eq_self.mpr fun _ _ => rfl, show (P 0).filter (up0 p 0 (P 0)) = [] from List.filter_eq_nil_iff.mpr fun _ _ => by simp [up0]]
    rw [run_nil p 0 _ fun i hi => by
      have : i = 0 := by omega
      subst this
      unfold upP offP
      rfl, List.append_nil]
  | succ t =>
    show ((fnd p t (P (t + 1))).map fun r => (r, t + 1)) ++ run p t (nxt p t P) = _
    congr 1
    exact run_congr p t fun l hl => (step_eq p t P hl).symm
theorem step_tot {p : Int} {J j : Nat} {P : Nat → List Int} (hj : j ≤ J) : ((P j).filter (fd0 p j (P j))).length + tot (upP (offP P j) (j - 1) ((P j).filter (up0 p j (P j)))) (j - 1) ≤ tot P J := by
  refine Nat.le_trans ?_ (tot_mono P hj)
  cases j with
  | zero =>
    rw [show (P 0).filter (up0 p 0 (P 0)) = [] from List.filter_eq_nil_iff.mpr fun _ _ => by simp [up0]]
    show _ + (upP (offP P 0) 0 [] 0).length ≤ (P 0).length
    unfold upP offP
    exact List.length_filter_le _ _
  | succ t =>
    show ((P (t + 1)).filter fun r => !full p t (P (t + 1)) r).length + _ ≤ (P (t + 1)).length + tot P t
    rw [show tot (upP (offP P (t + 1)) (t + 1 - 1) ((P (t + 1)).filter (up0 p (t + 1) (P (t + 1))))) (t + 1 - 1) = tot (nxt p t P) t from tot_congr fun l hl => step_eq p t P hl, tot_nxt]
    have := fnd_ups p t (P (t + 1)) (P (t + 1))
    unfold ups
    omega
theorem upP_add (P : Nat → List Int) (t : Nat) (U : List Int) (r : Int) : addP (upP P t U) t r = upP P t (U ++ [r]) := by
  funext i
  unfold addP upP
  by_cases e : i = t
  · rw [if_pos e, if_pos e, if_pos rfl, List.append_assoc]
  · rw [if_neg e, if_neg e, if_neg e]
theorem up0_nil (p : Int) (P : Nat → List Int) (t : Nat) : upP P t [] = P := by
  funext i
  unfold upP
  by_cases e : i = t
  · rw [if_pos e, List.append_nil, e]
  · rw [if_neg e]
theorem maxM {p : Int} (p1 : 1 < p) (j : Nat) : (if p ^ j / p > 1 then p ^ j / p else 1) = p ^ (j - 1) := by
  cases j with
  | zero =>
    rw [Int.pow_zero]
    have : (1 : Int) / p = 0 := Int.ediv_eq_zero_of_lt (by decide) p1
    rw [this]
    rfl
  | succ t =>
    have hp : 0 < p ^ t := Int.pow_pos (by omega)
    rw [Int.pow_succ, Int.mul_ediv_cancel _ (by omega)]
    show _ = p ^ t
    split <;> omega
theorem cnt_full {p : Int} {t : Nat} {here : List Int} {r : Int} : (decide (((cntR (p ^ t) here (r % p ^ t) : Nat) : Int) < p)) = !full p t here r := by
  unfold full cntR same1
  rw [← decide_not]
  exact decide_eq_decide.mpr ⟨fun h => by omega, fun h => by omega⟩
theorem one_pow {p : Int} (p1 : 1 < p) (j : Nat) : decide (p ^ j = 1) = decide (j = 0) := by
  refine decide_eq_decide.mpr ⟨fun h => ?_, fun h => by rw [h, Int.pow_zero]⟩
  exact pow_inj p1 (h.trans (Int.pow_zero p).symm)
theorem LvD.tp {H0 H H' : Hp} {d e a : Addr} {p : Int} {P : Nat → List Int} {js : List Nat} {ad : Nat → Addr} (L : LvD H0 H d p P js ad) (he : H e = some (.lst [])) (ha : a = e ∨ ∃ i ∈ js, a = ad i) (fr : ∀ b, b ≠ d → b ≠ a → H' b = H b) {q : Int × Int} {t : Addr} (h : Tp H q t) : Tp H' q t := by
  have h : H t = some (.tup [.int q.1, .int q.2]) := h
  refine (fr t (fun z => ?_) fun z => ?_).trans h
  · rw [z, L.at_] at h
    cases h
  · rcases ha with ha | ⟨i, hi, ha⟩
    · rw [z, ha, he] at h
      cases h
    · rw [z, ha, L.l i hi] at h
      cases h
theorem kvL_keys (p : Int) (js : List Nat) (ad : Nat → Addr) : (kvL p js ad).map (·.1) = (js.map fun j => p ^ j).map fun k => (.inl k : Key) := by
  unfold kvL
  rw [List.map_map, List.map_map]
  rfl
theorem kvL_emp (p : Int) (js : List Nat) (ad : Nat → Addr) : (kvL p js ad).isEmpty = js.isEmpty := by cases js <;> rfl
theorem max_lvl {p m : Int} (p1 : 1 < p) {js : List Nat} (hm : m ∈ js.map fun j => p ^ j) (hx : ∀ y, y ∈ (js.map fun j => p ^ j) → y ≤ m) : ∃ j, j ∈ js ∧ m = p ^ j ∧ ∀ i ∈ js, i ≤ j := by
  obtain ⟨j, hj, rfl⟩ := List.mem_map.mp hm
  refine ⟨j, hj, rfl, fun i hi => ?_⟩
  rcases Nat.lt_or_ge j i with h | h
  · have h1 := hx _ (List.mem_map.mpr ⟨i, hi, rfl⟩)
    have : p ^ j < p ^ i := Int.pow_lt_pow_of_lt p1 h
    omega
  · exact h
theorem filt_snoc {l : List Int} {i : Nat} {r : Int} (h : l[i]? = some r) (g : Int → Bool) : (l.take (i + 1)).filter g = (l.take i).filter g ++ if g r = true then [r] else [] := by
  rw [Paired.take_snoc h, List.filter_append, List.filter_cons]
  rfl
theorem Cnt.at_ {M : Int} {l : List Int} {kvs : List (Key × V)} (h : Cnt M l kvs) {r : Int} (hr : r ∈ l) : valV kvs (.inl (r % M)) = some (.int (cntR M l (r % M) : Nat)) := by
  rw [h.2, if_neg (by have := cntR_pos (M := M) hr; omega)]

end Bc
namespace Bc
open PySem PySem.Spec PyProof.Rows L2
/-! ### the classes of a row -/
theorem pw_mem {α : Type} {R : α → α → Prop} (sym : ∀ a b, R a b → R b a) : ∀ {l : List α}, l.Pairwise R → ∀ {a b : α}, a ∈ l → b ∈ l → a ≠ b → R a b
  | [], _, _, _, h, _, _ => by cases h
  | c :: l, hp, a, b, ha, hb, hne => by
    rw [List.pairwise_cons] at hp
    rcases List.mem_cons.mp ha with e | e
    · rcases List.mem_cons.mp hb with e' | e'
      · exact absurd (e.trans e'.symm) hne
      · rw [e]
        exact hp.1 b e'
    · rcases List.mem_cons.mp hb with e' | e'
      · rw [e']
        exact sym _ _ (hp.1 a e)
      · exact pw_mem sym hp.2 e e' hne
theorem lvlP_mem {p : Int} {cl : List (Int × Int)} {i : Nat} {r : Int} : r ∈ lvlP p cl i ↔ (r, p ^ i) ∈ cl := by
  unfold lvlP
  constructor
  · intro h
    obtain ⟨q, hq, e⟩ := List.mem_map.mp h
    obtain ⟨h1, h2⟩ := List.mem_filter.mp hq
    have h2 := of_decide_eq_true h2
    rw [← e, ← h2]
    exact h1
  · intro h
    exact List.mem_map.mpr ⟨_, List.mem_filter.mpr ⟨h, decide_eq_true rfl⟩, rfl⟩
theorem cls_lvl {p : Int} (hp : Pr p) (k : Nat) (cs : List Int) : Lvl p (fun x => p ^ k ∣ ev cs x) [] (lvlP p (cls p k cs)) (k + 1) := by
  have hp1 := hp.1
  have h0 : 0 < p := by omega
  have ap := cls_apart h0 k cs
  have sym : ∀ a b : Int × Int, Apart a b → Apart b a := fun a b h x hx hx' => h x hx' hx
  refine ⟨fun x => ?_, (fun q hq => by cases hq), fun i hi r hr => cls_rng h0 k cs _ (lvlP_mem.mp hr), fun i i' hi hi' r hr r' hr' hne x hx hx' => ?_, fun i hi => ?_⟩
  · rw [← cls_in hp k cs x]
    constructor
    · rintro ⟨q, hq, hd⟩
      obtain ⟨j, hj, e⟩ := cls_pow p k cs q hq
      refine .inr ⟨j, hj, q.1, lvlP_mem.mpr (by rw [← e]; exact hq), ?_⟩
      show p ^ j ∣ x - q.1
      rw [← e]
      exact hd
    · rintro (⟨q, hq, _⟩ | ⟨i, hi, r, hr, hx⟩)
      · cases hq
      · exact ⟨_, lvlP_mem.mp hr, hx⟩
  · refine pw_mem sym ap (lvlP_mem.mp hr) (lvlP_mem.mp hr') (fun e => hne ?_) x hx hx'
    have e1 := congrArg Prod.fst e
    have e2 := congrArg Prod.snd e
    exact Prod.ext e1 (pow_inj hp1 e2)
  · unfold lvlP
    refine List.pairwise_map.mpr ((ap.filter _).imp_of_mem fun {a b} ha hb hab e => ?_)
    have ea := of_decide_eq_true (List.mem_filter.mp ha).2
    have eb := of_decide_eq_true (List.mem_filter.mp hb).2
    refine hab a.1 (by rw [Int.sub_self]; exact Int.dvd_zero _) ?_
    rw [show a.1 - b.1 = 0 by omega]
    exact Int.dvd_zero _
theorem mx_uniq {p : Int} {S : Int → Prop} {q q' : Int × Nat} (m : Mx p S q) (m' : Mx p S q') (r : Rg p q) (r' : Rg p q') {x : Int} (h : Lie p q x) (h' : Lie p q' x) : q = q' := by
  have key : ∀ {q q' : Int × Nat}, Mx p S q → Mx p S q' → Lie p q x → Lie p q' x → q'.2 < q.2 → False := fun {q q'} m m' h h' hl => by
    refine (m.2.resolve_left (by omega)) fun y hy => m'.1 y ?_
    have h1 : Lie p (par p q) q.1 := Lie.par
    have h2 : Lie p (par p q) x := Lie.nest (q := q) (show q.2 - 1 ≤ q.2 by omega) (Lie.self p q) h1 h
    exact Lie.nest (q := par p q) (show q'.2 ≤ q.2 - 1 by omega) h2 h' hy
  rcases Nat.lt_trichotomy q'.2 q.2 with hl | hl | hl
  · exact (key m m' h h' hl).elim
  · exact Rg.eq r r' hl.symm h h'
  · exact (key m' m h' h hl).elim
theorem run_le (p : Int) : ∀ (j : Nat) (P : Nat → List Int) (q : Int × Nat), q ∈ run p j P → q.2 ≤ j
  | 0, P, q, h => by
    obtain ⟨r, _, rfl⟩ := List.mem_map.mp h
    exact Nat.le_refl _
  | j + 1, P, q, h => by
    rcases List.mem_append.mp h with h | h
    · obtain ⟨r, _, rfl⟩ := List.mem_map.mp h
      exact Nat.le_refl _
    · exact Nat.le_succ_of_le (run_le p j _ q h)
theorem run_nodup {p : Int} (hp : 0 < p) {S : Int → Prop} : ∀ (j : Nat) (F : List (Int × Nat)) (P : Nat → List Int), Lvl p S F P j → (run p j P).Nodup
  | 0, F, P, L => List.pairwise_map.mpr ((L.nd 0 (Nat.le_refl _)).imp fun h e => h (congrArg Prod.fst e))
  | j + 1, F, P, L => by
    have h := run_nodup hp j _ _ (L.step hp)
    refine List.nodup_append.mpr ⟨List.pairwise_map.mpr (((L.nd (j + 1) (Nat.le_refl _)).filter _).imp fun h e => h (congrArg Prod.fst e)), h, fun a ha b hb e => ?_⟩
    obtain ⟨r, _, rfl⟩ := List.mem_map.mp ha
    have := run_le p j _ _ hb
    rw [← e] at this
    exact absurd this (by show ¬ j + 1 ≤ j; omega)
/-- what root_classes finds -/
def RC (p : Int) (k : Nat) (cs : List Int) : List (Int × Nat) := run p (k + 1) (lvlP p (cls p k cs))
theorem RC_ok {p : Int} (hp : Pr p) (k : Nat) (cs : List Int) : (∀ x, p ^ k ∣ ev cs x → ∃ q ∈ RC p k cs, Lie p q x) ∧ (∀ q ∈ RC p k cs, Mx p (fun x => p ^ k ∣ ev cs x) q ∧ Rg p q) ∧ ((RC p k cs).map (·.1)).Nodup := by
  have hp1 := hp.1
  have h0 : 0 < p := by omega
  have L := cls_lvl hp k cs
  have h := run_ok h0 (k + 1) _ _ L
  rw [List.nil_append] at h
  refine ⟨h.1, h.2, List.pairwise_map.mpr ((run_nodup h0 (k + 1) _ _ L).imp_of_mem fun {a b} ha hb hab e => hab ?_)⟩
  obtain ⟨ma, ra⟩ := h.2 a ha
  obtain ⟨mb, rb⟩ := h.2 b hb
  refine mx_uniq ma mb ra rb (Lie.self p a) ?_
  show p ^ b.2 ∣ a.1 - b.1
  rw [show a.1 - b.1 = 0 by omega]
  exact Int.dvd_zero _
/-! ### the doors -/
/-- no power -/
inductive PwB (K : PySem.W.Frag) (H : Hp) : V → Prop where
  | oth {v : V} (h : IntB K H v false) : PwB K H v
  | int (n : Int) (h : n < 1) : PwB K H (.int n)
theorem PwB.same {K : PySem.W.Frag} {H H' : Hp} {v : V} (h : PwB K H v) (s : Same H H') : PwB K H' v := by
  cases h with
  | oth h => exact .oth (h.same s)
  | int n h => exact .int n h
def spReqPwX (K : PySem.W.Frag) (Cw : Addr) : Sp := fun vs H Q E => ∃ v : V, vs = [v] ∧ ((∃ n : Int, v = .int n ∧ 1 ≤ n ∧ Q .non H) ∨ (PwB K H v ∧ ErrTo E Cw "power" v H))
/-- cs, p, k can be gone through -/
structure Fine (p : Int) (k : Nat) (cs : List Int) : Prop where
  pr : Pr p
  p2 : p < 1024
  k1 : 1 ≤ k
  k7 : k ≤ 64
  len : cs.length ≤ 30
  sml : Sml 8000 cs
  few : nds (k + 1) (paperT p (k + 1) k cs) ≤ 20000
def spClsOf : Sp := fun vs H Q _ => ∃ (l : Addr) (cs : List Int) (p : Int) (k : Nat), vs = [.ref l, .int p, .int (k : Int)] ∧ H l = some (.lst (cs.map V.int)) ∧ Fine p k cs ∧
  ∀ t W bs H', Same H H' → W.Perm (prs p (RC p k cs)) → (W.map (·.1)).Pairwise (· ≤ ·) → H' t = some (.tup (bs.map V.ref)) → Paired (Tp H') W bs → Q (.ref t) H'
/-- what is refused, in order -/
def Refs (K : PySem.W.Frag) (Cc Cp Cw : Addr) (v q u : V) (H : Hp) (E : XK) : Prop :=
  (∃ t, TyX K H v t ∧ PySem.W.kitAny K t [.type "list", .type "tuple"] = some false ∧ ErrTo E Cc "place" .non H) ∨
  (∃ (cs : List Int) (x : V) (xs : List V), SeqV H v (cs.map V.int ++ x :: xs) ∧ cs.length + xs.length ≤ 1000 ∧ IntB K H x false ∧ ErrTo E Cc "place" (.int cs.length) H) ∨
  (∃ cs : List Int, SeqV H v (cs.map V.int) ∧ cs.length ≤ 1000 ∧ PrB K H q ∧ ErrTo E Cp "prime" q H) ∨
  (∃ (cs : List Int) (n : Int), SeqV H v (cs.map V.int) ∧ cs.length ≤ 1000 ∧ q = .int n ∧ n < 2 ^ 60 ∧ Pr n ∧ PwB K H u ∧ ErrTo E Cw "power" u H)
def spRootCl (K : PySem.W.Frag) (Cc Cp Cw : Addr) : Sp := fun vs H Q E => ∃ v q u : V, vs = [v, q, u] ∧ (Refs K Cc Cp Cw v q u H E ∨
  ∃ (cs : List Int) (n : Int) (k : Nat), SeqV H v (cs.map V.int) ∧ cs.length ≤ 1000 ∧ q = .int n ∧ u = .int (k : Int) ∧ Fine n k (trim cs) ∧
    ∀ t W bs H', Same H H' → W.Perm (prs n (RC n k (trim cs))) → (W.map (·.1)).Pairwise (· ≤ ·) → H' t = some (.tup (bs.map V.ref)) → Paired (Tp H') W bs → Q (.ref t) H')
def spPaperD (K : PySem.W.Frag) (Cc Cp Cw : Addr) : Sp := fun vs H Q E => ∃ v q u : V, vs = [v, q, u] ∧ (Refs K Cc Cp Cw v q u H E ∨
  ∃ (cs : List Int) (n : Int) (k : Nat), SeqV H v (cs.map V.int) ∧ cs.length ≤ 1000 ∧ q = .int n ∧ u = .int (k : Int) ∧ Fine n k (trim cs) ∧
    ∀ w H', Same H H' → TrAt H' (k + 1) w (paperT n (k + 1) k (trim cs)) → Q w H')
/-- things that are no papers of x -/
inductive ThP (K : PySem.W.Frag) (H : Hp) : V → Prop where
  | oth {v : V} (t : Value) (h : TyX K H v t) (k1 : PySem.W.kitOne K t (.type "tuple") = some false) : ThP K H v
  | str (s : Str) (h : s ≠ "all") : ThP K H (.str s)
  | len (a : Addr) (xs : List V) (h : H a = some (.tup xs)) (l : xs.length ≠ 2) : ThP K H (.ref a)
  | snd (a : Addr) (y : V) (t : Value) (h : H a = some (.tup [.int 0, y])) (hy : TyX K H y t) (k1 : PySem.W.kitOne K t (.type "tuple") = some false) : ThP K H (.ref a)
  | deep (a b c : Addr) (y : V) (s : Str) (h : H a = some (.tup [.int 0, .ref b])) (hb : H b = some (.tup [.ref c])) (hc : H c = some (.tup [y, .str s])) (hy : (IntB K H y false) ∨ (y = .int 0 ∧ s ≠ "all")) : ThP K H (.ref a)
theorem ThP.same {K : PySem.W.Frag} {H H' : Hp} {v : V} (h : ThP K H v) (s : Same H H') : ThP K H' v := by
  cases h with
  | oth t h k1 => exact .oth t (tyx_same h s) k1
  | str z h => exact .str z h
  | len a xs h l => exact .len a xs (s _ _ h) l
  | snd a y t h hy k1 => exact .snd a y t (s _ _ h) (tyx_same hy s) k1
  | deep a b c y z h hb hc hy => exact .deep a b c y z (s _ _ h) (s _ _ hb) (s _ _ hc) (hy.imp (fun h => h.same s) id)
/-- is_paper: strings, and what is no paper of x -/
def spIsPap (K : PySem.W.Frag) : Sp := fun vs H Q _ => ∃ (l : Addr) (cs : List Int) (p : Int) (k : Nat) (th : V), vs = [.ref l, .int p, .int (p ^ k), th] ∧ H l = some (.lst (cs.map V.int)) ∧ cs.length ≤ 30 ∧ Pr p ∧ p < 1024 ∧ k ≤ 700 ∧
  ((∃ z : Str, th = .str z ∧ ∀ H', Same H H' → Q (.bl (decide ((tk p k cs).2.2 = 0) && decide (z = "all"))) H') ∨ (1 ≤ k ∧ cs = [0, 1] ∧ ThP K H th ∧ ∀ H', Same H H' → Q (.bl false) H'))
def spIsPap0 : Sp := fun vs H Q _ => ∃ (l : Addr) (cs : List Int) (p : Int) (k : Nat) (z : Str), vs = [.ref l, .int p, .int (p ^ k), .str z] ∧ H l = some (.lst (cs.map V.int)) ∧ cs.length ≤ 30 ∧ Pr p ∧ p < 1024 ∧ k ≤ 700 ∧ ∀ H', Same H H' → Q (.bl (decide ((tk p k cs).2.2 = 0) && decide (z = "all"))) H'
def spChkP (K : PySem.W.Frag) (Cc Cp Cw : Addr) : Sp := fun vs H Q E => ∃ v q u th : V, vs = [v, q, u, th] ∧ (Refs K Cc Cp Cw v q u H E ∨
  ∃ (cs : List Int) (n : Int) (k : Nat), SeqV H v (cs.map V.int) ∧ cs.length ≤ 1000 ∧ q = .int n ∧ u = .int (k : Int) ∧ Pr n ∧ n < 1024 ∧ 1 ≤ k ∧ k ≤ 600 ∧ (trim cs).length ≤ 30 ∧
    ((∃ z : Str, th = .str z ∧ ∀ (b : Bool) H', Same H H' → Q (.bl b) H') ∨ (cs = [0, 1] ∧ ThP K H th ∧ ∀ H', Same H H' → Q (.bl false) H')))
theorem tk01 {p : Int} (p1 : 1 < p) {k : Nat} (hk : 1 ≤ k) : tk p k [0, 1] = (0, [0, 1], k) := by
  obtain ⟨m, rfl⟩ : ∃ m, k = m + 1 := ⟨k - 1, by omega⟩
  refine tk_off fun h => ?_
  have := List.filter_eq_nil_iff.mp h 1 (by simp)
  rw [show (1 : Int) % p = 1 from Int.emod_eq_of_lt (by decide) p1] at this
  exact this (by decide)
theorem rts01 {p : Int} (p1 : 1 < p) : rts p [0, 1] = [0] := by
  have ev1 : ∀ x : Int, ev [0, 1] x = x := fun x => by
    rw [ev_cons, ev_cons, ev_nil]
    omega
  unfold rts
  obtain ⟨n, hn⟩ : ∃ n, p.toNat = n + 1 := ⟨p.toNat - 1, by omega⟩
  rw [hn, List.range_succ_eq_map, List.filter_cons, ev1, if_pos (by simp), List.filter_eq_nil_iff.mpr, List.map_cons, List.map_nil]
  · rfl
  · intro x hx
    obtain ⟨y, hy, rfl⟩ := List.mem_map.mp hx
    have := List.mem_range.mp hy
    rw [ev1, Int.emod_eq_of_lt (by omega) (by show ((y.succ : Nat) : Int) < p; omega)]
    simp
    omega
/-! ### the law -/
def spCaughtK (K : PySem.W.Frag) : Sp := fun vs H Q _ => ∃ (wy : Int) (v q u : V), vs = [.int wy, v, q, u] ∧ (wy = 0 ∨ wy = 1 ∨ wy = 2) ∧
  ((∃ t, TyX K H v t ∧ PySem.W.kitAny K t [.type "list", .type "tuple"] = some false ∧ ∀ l H', l ≠ sysModules → H l = none → Same H H' → H' l = some (.lst [.str "row", .non]) → Q (.ref l) H') ∨
   (∃ (cs : List Int) (x : V) (xs : List V), SeqV H v (cs.map V.int ++ x :: xs) ∧ cs.length + xs.length ≤ 1000 ∧ IntB K H x false ∧ ∀ l H', l ≠ sysModules → H l = none → Same H H' → H' l = some (.lst [.str "row", .int cs.length]) → Q (.ref l) H') ∨
   (∃ cs : List Int, SeqV H v (cs.map V.int) ∧ cs.length ≤ 1000 ∧ PrB K H q ∧ ∀ l H', l ≠ sysModules → H l = none → Same H H' → H' l = some (.lst [.str "prime", q]) → Q (.ref l) H') ∨
   (∃ (cs : List Int) (n : Int), SeqV H v (cs.map V.int) ∧ cs.length ≤ 1000 ∧ q = .int n ∧ n < 2 ^ 60 ∧ Pr n ∧ PwB K H u ∧ ∀ l H', l ≠ sysModules → H l = none → Same H H' → H' l = some (.lst [.str "power", u]) → Q (.ref l) H') ∨
   (∃ (cs : List Int) (n : Int) (k : Nat), SeqV H v (cs.map V.int) ∧ cs.length ≤ 1000 ∧ q = .int n ∧ u = .int (k : Int) ∧ Fine n k (trim cs) ∧ ∀ H', Same H H' → Q .non H'))
def spRight27 : Sp := fun vs H Q _ => ∃ (a : Addr) (cc : Int), vs = [.ref a] ∧ cc < 2 ^ 46 ∧ Purse H a cc ∧ ∀ H', Same (rm a H) (rm a H') → Purse H' a (cc + 1000) → Q (.bl true) H'
def wl27 : List PyData := [.int 0, .int 1, .int (-2), .int 4, .int 9, .int 15, .bool true, .none, .str "2", .tuple [.int 3], .int 961, .list [.int 2]]
def ll27 : List PyData := [.int 0, .int (-1), .bool true, .none, .str "1", .tuple [.int 1], .bool false, .list [.int 1]]
def due27 (i : Nat) (d e : PyData) : PyData := .list [.list [.str "row", .none], .list [.str "row", .int (i : Int)], .list [.str "row", .int (i : Int)], .list [.str "prime", d], .list [.str "power", e]]
theorem text_le : ∀ (ts : List Str) (k : Nat) (acc : Str), (textFrom k acc ts).length ≤ acc.length + piled ts
  | [], k, acc => by
    show acc.length ≤ _
    omega
  | t :: r, k, acc => by
    have h := text_le r (k + 1) (acc ++ (if k > 0 then ", " else "" : String) ++ t)
    rw [strLen_append, strLen_append] at h
    have e : ((((if k > 0 then ", " else "" : String) : String) : Str)).length ≤ 2 := by split <;> decide
    rw [piled_cons]
    show (textFrom (k + 1) (acc ++ (if k > 0 then ", " else "" : String) ++ t) r).length ≤ _
    omega
theorem shownL_le (ds : List PyData) : (PyData.list ds).shown.length ≤ 2 + piled (PyData.shownAll ds) := by
  show (textFrom 0 "[" (PyData.shownAll ds) ++ (("]" : String) : Str)).length ≤ _
  rw [strLen_append]
  have := text_le (PyData.shownAll ds) 0 (("[" : String) : Str)
  have e1 : ((("[" : String) : Str)).length = 1 := rfl
  have e2 : ((("]" : String) : Str)).length = 1 := rfl
  omega
theorem sh27a : (PyData.list [.str "row", .none]).shown.length ≤ 200 ∧ ∀ i : _root_.Fin 5, (PyData.list [.str "row", .int (i.val : Int)]).shown.length ≤ 200 := by decide +kernel
theorem sh27b : ∀ j : _root_.Fin 12, (PyData.list [.str "prime", wl27.getD j.val .none]).shown.length ≤ 200 ∧ (wl27.getD j.val .none).showable = true ∧ (wl27.getD j.val .none).depth ≤ 10 := by decide +kernel
theorem sh27c : ∀ j : _root_.Fin 8, (PyData.list [.str "power", ll27.getD j.val .none]).shown.length ≤ 200 ∧ (ll27.getD j.val .none).showable = true ∧ (ll27.getD j.val .none).depth ≤ 10 := by decide +kernel
theorem show27 (i : _root_.Fin 5) (j : _root_.Fin 12) (m : _root_.Fin 8) : (due27 i.val (wl27.getD j.val .none) (ll27.getD m.val .none)).showable = true ∧ (due27 i.val (wl27.getD j.val .none) (ll27.getD m.val .none)).depth ≤ 50 ∧ (due27 i.val (wl27.getD j.val .none) (ll27.getD m.val .none)).shown.length ≤ sizeLine := by
  obtain ⟨b1, b2, b3⟩ := sh27b j
  obtain ⟨c1, c2, c3⟩ := sh27c m
  have a1 := sh27a.1
  have a2 := sh27a.2 i
  have hi : (PyData.int (i.val : Int)).showable = true := by
    have : ∀ i : _root_.Fin 5, (PyData.int (i.val : Int)).showable = true := by decide +kernel
    exact this i
  generalize wl27.getD j.val .none = d at *
  generalize ll27.getD m.val .none = e at *
  refine ⟨?_, ?_, ?_⟩
  · have hi : decide ((i.val : Int).natAbs.log2 < 1920) = true := hi
    simp only [due27, PyData.showable, PyData.showableAll, b2, c2, hi, Bool.and_self, Bool.and_true]
  · simp only [due27, PyData.depth, PyData.depthAll]
    omega
  · refine Nat.le_trans (shownL_le _) ?_
    simp only [PyData.shownAll, piled_cons, piled_nil]
    have : (2000 : Nat) ≤ sizeLine := by decide
    omega
/-- a list that is new since G may be written -/
theorem same_wr {G H H' : Hp} {a t : Addr} (n : G t = none) (S : Same G (rm a H)) (S2 : Same (rm t (rm a H)) (rm t (rm a H'))) : Same G (rm a H') := fun b o e => by
  have hb : b ≠ t := fun z => by
    rw [z, n] at e
    cases e
  exact rm_le _ _ (S2 _ _ (rm_of hb (S _ _ e)))
theorem same_at {H H' : Hp} {a t : Addr} {b : Addr} {o : HO} (hb : b ≠ t) (S2 : Same (rm t (rm a H)) (rm t (rm a H'))) (e : rm a H b = some o) : rm a H' b = some o := rm_le _ _ (S2 _ _ (rm_of hb e))
theorem fine27 {p : Int} {k : Nat} {cs : List Int} (hp : Pr p) (p2 : p < 1000) (k1 : 1 ≤ k) (k6 : k ≤ 6) (hl : cs.length ≤ 4) (hs : ∀ z ∈ cs, z.natAbs < 100) : Fine p k (trim cs) := by
  have hl' : (trim cs).length ≤ 4 := Nat.le_trans (trim_len cs) hl
  refine ⟨hp, by omega, k1, by omega, by omega, fun z hz => ?_, ?_⟩
  · have := hs z (trim_mem hz)
    exact Nat.lt_trans this (Nat.lt_of_lt_of_le (show 100 < 2 ^ 7 by decide) (Nat.pow_le_pow_right (by decide) (by decide)))
  · refine Nat.le_trans (nds_le (b := 3) _ _ (few_paper hp (k + 1) k _ hl')) ?_
    exact Nat.le_trans (Nat.pow_le_pow_right (by decide) (show k + 1 ≤ 7 by omega)) (by decide)
theorem three {G : Hp} {o : HO} {x1 x2 x3 : V} {ys : List V} (h : Paired (fun _ y => ∃ q, y = V.ref q ∧ G q = some o) [x1, x2, x3] ys) : ∃ a1 a2 a3 : Addr, ys = [.ref a1, .ref a2, .ref a3] ∧ G a1 = some o ∧ G a2 = some o ∧ G a3 = some o := by
  cases h with
  | cons h1 t =>
    cases t with
    | cons h2 t =>
      cases t with
      | cons h3 t =>
        cases t
        obtain ⟨a1, rfl, b1⟩ := h1
        obtain ⟨a2, rfl, b2⟩ := h2
        obtain ⟨a3, rfl, b3⟩ := h3
        exact ⟨a1, a2, a3, rfl, b1, b2, b3⟩
def six27 (i j : Int) : PyData := .list [.list [.str "row", .int i], .list [.str "row", .int i], .list [.str "row", .int i], .list [.str "row", .int j], .list [.str "row", .int j], .list [.str "row", .int j]]
theorem shp6 (i j : Int) : SeqAt.shaped (six27 i j) = true := by
  show (PyData.canLay0 _ && decide _) = true
  rw [Bool.and_eq_true]
  refine ⟨?_, ?_⟩
  · simp only [six27, PyData.canLay0, PyData.canLayAll0]
    decide +kernel
  · simp [six27, PyData.depth, PyData.depthAll]

end Bc
namespace Bc
open PySem PySem.Spec PyProof.Rows L2
/-! ### no more classes than the degree -/
/-- the first m coefficients at s are multiples of p -/
def Vm (p s : Int) : Nat → List Int → Prop
  | 0, _ => True
  | m + 1, cs => p ∣ ev cs s ∧ Vm p s m (suf s cs.tail)
theorem Vm_nil (p s : Int) : ∀ m, Vm p s m []
  | 0 => trivial
  | m + 1 => ⟨by rw [ev_nil]; exact Int.dvd_zero _, Vm_nil p s m⟩
/-- (x - r) q(x) + b -/
def mulA (r : Int) : Int → List Int → List Int
  | b, [] => [b]
  | b, a :: q => (b - r * a) :: mulA r a q
theorem mulA_suf (r : Int) : ∀ (t : List Int) (c : Int), mulA r (ev (c :: t) r) (suf r t) = c :: t
  | [], c => by
    show [ev [c] r] = [c]
    rw [ev_cons, ev_nil]
    simp
  | a :: t, c => by
    show (ev (c :: a :: t) r - r * ev (a :: t) r) :: mulA r (ev (a :: t) r) (suf r t) = _
    rw [mulA_suf r t a, ev_cons c (a :: t) r]
    congr 1
    rw [Int.mul_comm r]
    omega
theorem mulA_ev (r s : Int) : ∀ (q : List Int) (b : Int), ev (mulA r b q) s = b + (s - r) * ev q s
  | [], b => by
    show ev [b] s = _
    rw [ev_cons, ev_nil]
    simp
  | a :: q, b => by
    show ev ((b - r * a) :: mulA r a q) s = _
    rw [ev_cons, mulA_ev r s q a, ev_cons]
    simp only [Int.add_mul, Int.mul_add, Int.sub_mul, Int.mul_sub, Int.mul_assoc, Int.mul_comm, Int.mul_left_comm]
    omega
theorem suf_mulA (r s : Int) : ∀ (q : List Int) (a : Int), suf s (mulA r a q) = mulA r (ev (a :: q) s) (suf s q)
  | [], a => rfl
  | a1 :: q, a => by
    show ev ((a - r * a1) :: mulA r a1 q) s :: suf s (mulA r a1 q) = (ev (a :: a1 :: q) s - r * ev (a1 :: q) s) :: mulA r (ev (a1 :: q) s) (suf s q)
    rw [suf_mulA r s q a1]
    congr 1
    rw [ev_cons, mulA_ev, ev_cons a (a1 :: q) s, ev_cons a1 q s]
    simp only [Int.add_mul, Int.mul_add, Int.sub_mul, Int.mul_sub, Int.mul_assoc, Int.mul_comm, Int.mul_left_comm]
    omega
theorem Vm_div {p r s : Int} (hp : Pr p) (hne : ¬ p ∣ s - r) : ∀ (m : Nat) (q : List Int) (b : Int), p ∣ b → Vm p s m (mulA r b q) → Vm p s m q
  | 0, _, _, _, _ => trivial
  | m + 1, q, b, hb, h => by
    have h1 := h.1
    rw [mulA_ev] at h1
    have h2 : p ∣ (s - r) * ev q s := by
      have := Int.dvd_sub h1 hb
      rwa [show b + (s - r) * ev q s - b = (s - r) * ev q s by omega] at this
    have hq : p ∣ ev q s := (pr_mul hp h2).resolve_left hne
    refine ⟨hq, ?_⟩
    cases q with
    | nil => exact Vm_nil p s m
    | cons a q =>
      have h3 : Vm p s m (suf s (mulA r a q)) := h.2
      rw [suf_mulA] at h3
      exact Vm_div hp hne m _ _ hq h3
/-- the coefficients behind d are multiples of p -/
def Dg (p : Int) (d : Nat) (cs : List Int) : Prop := ∀ i, d < i → p ∣ cs.getD i 0
theorem ev_dvd {p s : Int} : ∀ {cs : List Int}, (∀ i, p ∣ cs.getD i 0) → p ∣ ev cs s
  | [], _ => by
    rw [ev_nil]
    exact Int.dvd_zero _
  | c :: cs, h => by
    rw [ev_cons]
    exact Int.dvd_add (Int.dvd_trans (ev_dvd (cs := cs) fun i => h (i + 1)) (Int.dvd_mul_right _ _)) (h 0)
theorem suf_getD (s : Int) : ∀ (cs : List Int) (i : Nat), (suf s cs).getD i 0 = ev (cs.drop i) s
  | [], i => by
    rw [List.drop_nil, ev_nil]
    rfl
  | c :: cs, 0 => rfl
  | c :: cs, i + 1 => suf_getD s cs i
theorem dvd_getD {p : Int} {cs : List Int} (h : ∀ z ∈ cs, p ∣ z) (i : Nat) : p ∣ cs.getD i 0 := by
  rw [List.getD_eq_getElem?_getD]
  cases e : cs[i]? with
  | none => exact Int.dvd_zero _
  | some z => exact h z (List.mem_of_getElem? e)
theorem getD_dvd {p : Int} {cs : List Int} (h : ∀ i, p ∣ cs.getD i 0) : ∀ z ∈ cs, p ∣ z := fun z hz => by
  obtain ⟨i, hi⟩ := List.getElem?_of_mem hz
  have := h i
  rwa [List.getD_eq_getElem?_getD, hi] at this
/-- roots with their multiplicities are no more than the degree -/
theorem mult_le {p : Int} (hp : Pr p) : ∀ (N : Nat) (L : List (Int × Nat)) (cs : List Int) (d : Nat), (L.map (·.2)).sum ≤ N → L.Pairwise (fun a b => ¬ p ∣ b.1 - a.1) → (∀ q ∈ L, Vm p q.1 q.2 cs) → (∃ z ∈ cs, ¬ p ∣ z) → Dg p d cs → (L.map (·.2)).sum ≤ d
  | N, [], _, _, _, _, _, _, _ => Nat.zero_le _
  | N, (r, 0) :: L, cs, d, hN, hP, hV, hu, hd => by
    rw [List.map_cons, List.sum_cons] at hN ⊢
    have := mult_le hp N L cs d (by omega) (List.pairwise_cons.mp hP).2 (fun q hq => hV q (List.mem_cons_of_mem _ hq)) hu hd
    omega
  | 0, (r, m + 1) :: L, cs, d, hN, hP, hV, hu, hd => by
    rw [List.map_cons, List.sum_cons] at hN
    omega
  | N + 1, (r, m + 1) :: L, cs, d, hN, hP, hV, hu, hd => by
    rw [List.map_cons, List.sum_cons] at hN ⊢
    obtain ⟨h1, h2⟩ := List.pairwise_cons.mp hP
    have hr : p ∣ ev cs r ∧ Vm p r m (suf r cs.tail) := hV (r, m + 1) (List.mem_cons_self ..)
    cases cs with
    | nil =>
      obtain ⟨z, hz, _⟩ := hu
      cases hz
    | cons c t =>
      have hq : ∃ z ∈ suf r t, ¬ p ∣ z := by
        apply Classical.byContradiction
        intro hn
        have hall : ∀ z ∈ suf r t, p ∣ z := fun z hz => Classical.byContradiction fun hz2 => hn ⟨z, hz, hz2⟩
        obtain ⟨z, hz, hz2⟩ := hu
        refine hz2 (suf_zero (r := r) (cs := c :: t) (fun z hz => ?_) z hz)
        rcases List.mem_cons.mp hz with e | e
        · rw [e]
          exact hr.1
        · exact hall z e
      have hdq : ∀ i, d ≤ i → p ∣ (suf r t).getD i 0 := fun i hi => by
        rw [suf_getD]
        refine ev_dvd fun j => ?_
        have := hd (i + j + 1) (by omega)
        rw [List.getD_eq_getElem?_getD] at this ⊢
        rw [List.getElem?_drop]
        rwa [List.getElem?_cons_succ] at this
      obtain ⟨d', rfl⟩ : ∃ d', d = d' + 1 := by
        cases d with
        | zero =>
          exfalso
          obtain ⟨z, hz, hz2⟩ := hq
          exact hz2 (getD_dvd (fun i => hdq i (Nat.zero_le _)) z hz)
        | succ d' => exact ⟨d', rfl⟩
      have ih := mult_le hp N ((r, m) :: L) (suf r t) d' (by rw [List.map_cons, List.sum_cons]; show m + _ ≤ N; have hN : m + 1 + _ ≤ N + 1 := hN; omega) (List.pairwise_cons.mpr ⟨h1, h2⟩) (fun q hq => ?_) hq fun i hi => hdq i (by omega)
      · rw [List.map_cons, List.sum_cons] at ih
        have ih : m + _ ≤ d' := ih
        show m + 1 + _ ≤ d' + 1
        omega
      · rcases List.mem_cons.mp hq with e | e
        · rw [e]
          exact hr.2
        · have hv := hV q (List.mem_cons_of_mem _ e)
          rw [← mulA_suf r t c] at hv
          exact Vm_div hp (h1 q e) _ _ _ hr.1 hv
/-! #### what is left of a piece moved to a root -/
theorem mvd_V {r p w : Int} (hp : Pr p) {c : Nat} (hw : p ^ c ∣ w) : ∀ (n : Nat) (cs : List Int) (i m : Nat), cs.length = n → i + m = c → (∀ z ∈ mvd r p w n (p ^ i) cs, p ^ c ∣ z) → Vm p r m cs
  | _, _, _, 0, _, _, _ => trivial
  | _, [], _, m + 1, _, _, _ => Vm_nil p r _
  | n + 1, x :: t, i, m + 1, hl, hi, h => by
    have h1 := h _ (List.mem_cons_self ..)
    have h2 : p ^ c ∣ ev (x :: t) r * p ^ i := by
      have := Int.dvd_add h1 (Int.dvd_trans hw (Int.dvd_mul_right w (ev (x :: t) r * p ^ i / w)))
      have e := Int.emod_add_mul_ediv (ev (x :: t) r * p ^ i) w
      rwa [e] at this
    have hp0 : p ^ i ≠ 0 := Int.pow_ne_zero (by have := hp.1; omega)
    have h3 : p ∣ ev (x :: t) r := by
      have e : p ^ (i + 1) ∣ ev (x :: t) r * p ^ i := Int.dvd_trans (pow_dvd_le p (by omega)) h2
      rw [Int.pow_succ, Int.mul_comm (ev (x :: t) r)] at e
      exact Int.dvd_of_mul_dvd_mul_left hp0 e
    refine ⟨h3, ?_⟩
    refine mvd_V hp hw n (suf r t) (i + 1) m (by rw [suf_len]; simpa using hl) (by omega) fun z hz => h z (List.mem_cons_of_mem _ ?_)
    rw [← Int.pow_succ]
    exact hz
theorem mvd_D {r p w : Int} {c : Nat} (hw : p ^ (c + 1) ∣ w) : ∀ (n : Nat) (cs : List Int) (i j : Nat), c < j + i → p ^ (c + 1) ∣ (mvd r p w n (p ^ i) cs).getD j 0
  | 0, _, _, _, _ => Int.dvd_zero _
  | _ + 1, [], _, _, _ => Int.dvd_zero _
  | n + 1, x :: t, i, 0, h => by
    show p ^ (c + 1) ∣ ev (x :: t) r * p ^ i % w
    rw [Int.emod_def]
    exact Int.dvd_sub (Int.dvd_trans (pow_dvd_le p (show c + 1 ≤ i by omega)) (Int.dvd_mul_left _ _)) (Int.dvd_trans hw (Int.dvd_mul_right _ _))
  | n + 1, x :: t, i, j + 1, h => by
    show p ^ (c + 1) ∣ (mvd r p w n (p ^ i * p) (suf r t)).getD j 0
    rw [← Int.pow_succ]
    exact mvd_D hw n (suf r t) (i + 1) j (by omega)
theorem trim_getD : ∀ (k : Nat) (xs : List Int), xs.length ≤ k → ∀ i, (trim xs).getD i 0 = xs.getD i 0
  | 0, xs, h, i => by
    have : xs = [] := List.length_eq_zero_iff.mp (by omega)
    rw [this]
    rfl
  | k + 1, xs, h, i => by
    rcases List.eq_nil_or_concat xs with e | ⟨ds, z, e⟩
    · rw [e]
      rfl
    · rw [List.concat_eq_append] at e
      subst e
      by_cases hz : z = 0
      · subst hz
        rw [trim_zero, trim_getD k ds (by simp at h; omega) i]
        rw [List.getD_eq_getElem?_getD, List.getD_eq_getElem?_getD]
        rcases Nat.lt_or_ge i ds.length with hi | hi
        · rw [List.getElem?_append_left hi]
        · rw [List.getElem?_append_right hi, List.getElem?_eq_none (by omega)]
          cases e : i - ds.length with
          | zero => rfl
          | succ j => rfl
      · rw [trim_snoc _ hz]
theorem tk_coef (p : Int) : ∀ (k : Nat) (cs : List Int) (i : Nat), cs.getD i 0 = p ^ (tk p k cs).1 * (tk p k cs).2.1.getD i 0
  | 0, cs, i => by
    show _ = p ^ 0 * cs.getD i 0
    rw [Int.pow_zero, Int.one_mul]
  | k + 1, cs, i => by
    unfold tk
    split
    · rename_i e
      have hall : ∀ z ∈ cs, p ∣ z := fun z hz => Int.dvd_of_emod_eq_zero (of_decide_eq_true (List.all_eq_true.mp e z hz))
      show _ = p ^ ((tk p k (cs.map fun z => z / p)).1 + 1) * _
      rw [Int.pow_succ, Int.mul_comm (p ^ _) p, Int.mul_assoc, ← tk_coef p k _ i]
      rw [List.getD_eq_getElem?_getD, List.getD_eq_getElem?_getD, List.getElem?_map]
      cases hq : cs[i]? with
      | none => simp
      | some z => exact (Int.mul_ediv_cancel' (hall z (List.mem_of_getElem? hq))).symm
    · show _ = p ^ 0 * _
      rw [Int.pow_zero, Int.one_mul]
/-- the leaves of a paper are no more than the degree -/
theorem leaf_le {p : Int} (hp : Pr p) : ∀ (n k : Nat) (cs : List Int) (r w : Int) (d : Nat), (tk p k cs).2.2 ≠ 0 → 1 ≤ d ∨ 1 ≤ n → Dg p d (tk p k cs).2.1 → (lv p n (paperT p n k cs) r w).length ≤ d
  | 0, k, cs, r, w, d, h0, h1, hd => by
    show 1 ≤ d
    omega
  | n + 1, k, cs, r, w, d, h0, _, hd => by
    have hp1 := hp.1
    have hun := tk_unit p k cs (by omega)
    have e : paperT p (n + 1) k cs = .node (tk p k cs).1 ((rts p (tk p k cs).2.1).map fun r => (r, paperT p n (tk p k cs).2.2 (trim (mvd r p (p ^ (tk p k cs).2.2) (tk p k cs).2.1.length 1 (tk p k cs).2.1)))) := by
      conv => lhs; unfold paperT
      rw [if_neg h0]
    rw [e]
    generalize (tk p k cs).2.1 = f at *
    generalize (tk p k cs).2.2 = k' at *
    clear e
    -- the multiplicity that is used at a root
    let g : Int → List Int := fun r => trim (mvd r p (p ^ k') f.length 1 f)
    let mu : Int → Nat := fun r => if (tk p k' (g r)).2.2 = 0 then 1 else (tk p k' (g r)).1
    obtain ⟨rn, rr⟩ := rts_nd p f
    have key : ∀ s ∈ rts p f, ∀ r w, (lv p n (paperT p n k' (g s)) r w).length ≤ mu s ∧ Vm p s (mu s) f := fun s hs r w => by
      have hroot : p ∣ ev f s := by
        unfold rts at hs
        obtain ⟨j, hj, ej⟩ := List.mem_map.mp hs
        rw [← ej]
        exact Int.dvd_of_emod_eq_zero (of_decide_eq_true (List.mem_filter.mp hj).2)
      have hpw : p ∣ p ^ k' := by
        obtain ⟨j, rfl⟩ : ∃ j, k' = j + 1 := ⟨k' - 1, by omega⟩
        rw [Int.pow_succ]
        exact Int.dvd_mul_left _ _
      have hgd : ∀ z ∈ g s, p ∣ z := fun z hz => mvd_root hpw hroot z (trim_mem hz)
      have hle := tk_le p k' (g s)
      show _ ≤ (if (tk p k' (g s)).2.2 = 0 then 1 else (tk p k' (g s)).1) ∧ Vm p s (if (tk p k' (g s)).2.2 = 0 then 1 else (tk p k' (g s)).1) f
      by_cases hz : (tk p k' (g s)).2.2 = 0
      · rw [if_pos hz]
        refine ⟨?_, hroot, trivial⟩
        have ep : paperT p n k' (g s) = .all := by
          cases n with
          | zero => rfl
          | succ n =>
            unfold paperT
            rw [if_pos hz]
        rw [ep]
        cases n <;> exact Nat.le_refl _
      · rw [if_neg hz]
        have hc1 : 1 ≤ (tk p k' (g s)).1 := by
          obtain ⟨j, rfl⟩ : ∃ j, k' = j + 1 := ⟨k' - 1, by omega⟩
          have := tk_less (k := j) hgd
          omega
        have hgc : ∀ i, (g s).getD i 0 = (mvd s p (p ^ k') f.length 1 f).getD i 0 := trim_getD _ _ (Nat.le_refl _)
        refine ⟨leaf_le hp n k' (g s) r w _ hz (.inl hc1) fun i hi => ?_, ?_⟩
        · have h1 := mvd_D (r := s) (p := p) (w := p ^ k') (c := (tk p k' (g s)).1) (pow_dvd_le p (by omega)) f.length f 0 i (by omega)
          rw [Int.pow_zero, ← hgc i, tk_coef p k' (g s) i, Int.pow_succ] at h1
          exact Int.dvd_of_mul_dvd_mul_left (Int.pow_ne_zero (by omega)) h1
        · refine mvd_V hp (c := (tk p k' (g s)).1) (pow_dvd_le p (show (tk p k' (g s)).1 ≤ k' by omega)) f.length f 0 _ rfl (Nat.zero_add _) (getD_dvd fun i => ?_)
          rw [Int.pow_zero, ← hgc i, tk_coef p k' (g s) i]
          exact Int.dvd_mul_right _ _
    have hsum : ∀ L : List Int, (∀ s ∈ L, s ∈ rts p f) → (((L.map fun r => (r, paperT p n k' (g r))).reverse.flatMap fun q => lv p n q.2 (r + w * q.1) (w * p)).length) ≤ (L.map mu).sum := fun L hL => by
      induction L with
      | nil => exact Nat.le_refl _
      | cons a L ih =>
        rw [List.map_cons, List.reverse_cons, List.flatMap_append, List.length_append, List.map_cons, List.sum_cons]
        have h1 := ih fun s hs => hL s (List.mem_cons_of_mem _ hs)
        have h2 := (key a (hL a (List.mem_cons_self ..)) (r + w * a) (w * p)).1
        rw [List.flatMap_cons, List.flatMap_nil, List.append_nil]
        show _ + (lv p n (paperT p n k' (g a)) (r + w * a) (w * p)).length ≤ _
        omega
    refine Nat.le_trans (hsum (rts p f) fun _ h => h) ?_
    have hm := mult_le hp _ ((rts p f).map fun s => (s, mu s)) f d (Nat.le_refl _) ?_ (fun q hq => ?_) hun hd
    · rw [List.map_map] at hm
      exact hm
    · refine List.pairwise_map.mpr (rn.imp_of_mem fun {a b} ha hb hab hd => hab ?_)
      have h1 := rr a ha
      have h2 := rr b hb
      have := Int.emod_eq_emod_iff_emod_sub_eq_zero.mpr (Int.emod_eq_zero_of_dvd hd)
      rw [Int.emod_eq_of_lt h1.1 h1.2, Int.emod_eq_of_lt h2.1 h2.2] at this
      exact this.symm
    · obtain ⟨s, hs, rfl⟩ := List.mem_map.mp hq
      exact (key s hs 0 0).2
theorem run_len (p : Int) : ∀ (J : Nat) (P : Nat → List Int), (run p J P).length ≤ tot P J
  | 0, P => by
    show ((P 0).map _).length ≤ (P 0).length
    rw [List.length_map]
    exact Nat.le_refl _
  | J + 1, P => by
    show (((fnd p J (P (J + 1))).map fun r => (r, J + 1)) ++ run p J (nxt p J P)).length ≤ (P (J + 1)).length + tot P J
    have h := run_len p J (nxt p J P)
    rw [tot_nxt] at h
    have h2 := fnd_ups p J (P (J + 1)) (P (J + 1))
    rw [List.length_append, List.length_map]
    unfold fnd
    unfold ups at h
    omega
/-- the classes are no more than the greatest exponent with a coefficient that is no multiple -/
theorem RC_len {p : Int} (hp : Pr p) {k : Nat} (hk : 1 ≤ k) {cs : List Int} (hu : ∃ z ∈ cs, ¬ p ∣ z) {d : Nat} (hd : Dg p d cs) : (RC p k cs).length ≤ d := by
  have hp1 := hp.1
  refine Nat.le_trans (run_len p (k + 1) _) (Nat.le_trans (lvlP_tot hp1 _ _) ?_)
  have et : tk p k cs = (0, cs, k) := by
    obtain ⟨m, rfl⟩ : ∃ m, k = m + 1 := ⟨k - 1, by omega⟩
    refine tk_off fun h => ?_
    obtain ⟨z, hz, hz2⟩ := hu
    have := List.filter_eq_nil_iff.mp h z hz
    exact hz2 (Int.dvd_of_emod_eq_zero (by simpa using this))
  refine leaf_le hp (k + 1) k cs 0 1 d ?_ (.inr (by omega)) ?_
  · rw [et]
    show k ≠ 0
    omega
  · rw [et]
    exact hd

end Bc
namespace Bc
open PySem PySem.Spec PyProof.Rows L2
/-! #### tuples of pairs, compared (as in k04lib) -/
def fP (q : Int × Int) : PyData := .tuple [.int q.1, .int q.2]
theorem dp_prs {K : PySem.W.Frag} {H : Hp} : ∀ {ps : List (Int × Int)} {ts : List Addr}, Paired (Tp H) ps ts → DpAll K H (ts.map V.ref) (ps.map fP)
  | _, _, .nil => .nil
  | _, _, .cons r t => .cons (.tup (sqt r) (.cons (.int _) (.cons (.int _) .nil))) (dp_prs t)
theorem lay_prs : ∀ ps : List (Int × Int), PyData.canLayAll0 (ps.map fP) = true
  | [] => rfl
  | q :: r => by
    rw [List.map_cons, PyData.canLayAll0, lay_prs r]
    rfl
theorem dep_prs : ∀ ps : List (Int × Int), PyData.depthAll (ps.map fP) ≤ 1
  | [] => Nat.zero_le _
  | q :: r => by
    rw [List.map_cons, PyData.depthAll]
    exact Nat.max_le.mpr ⟨Nat.le_refl _, dep_prs r⟩
theorem eqv_prs : ∀ ps qs : List (Int × Int), PyData.eqvAll (ps.map fP) (qs.map fP) = decide (ps = qs)
  | [], [] => rfl
  | [], _ :: _ => rfl
  | _ :: _, [] => rfl
  | (a, b) :: r, (c, d) :: t => by
    rw [List.map_cons, List.map_cons, PyData.eqvAll, eqv_prs r t]
    show (((a == c) && ((b == d) && true)) && decide (r = t)) = _
    by_cases h1 : a = c <;> by_cases h2 : b = d <;> by_cases h3 : r = t <;> simp [h1, h2, h3]
theorem shp_lst (ps : List (Int × Int)) : SeqAt.shaped (.list (ps.map fP)) = true := by
  unfold SeqAt.shaped
  rw [PyData.canLay0, lay_prs, PyData.depth]
  have := dep_prs ps
  simp only [Bool.true_and, decide_eq_true_eq]
  omega
theorem shp_tup (ps : List (Int × Int)) : SeqAt.shaped (.tuple (ps.map fP)) = true := by
  unfold SeqAt.shaped
  rw [PyData.canLay0, lay_prs, PyData.depth]
  have := dep_prs ps
  simp only [Bool.true_and, decide_eq_true_eq]
  omega
def PrT (H : Hp) (l : Addr) (ps : List (Int × Int)) : Prop := ∃ ts : List Addr, H l = some (.tup (ts.map V.ref)) ∧ Paired (Tp H) ps ts
theorem PrT.same {H H' : Hp} {l : Addr} {ps : List (Int × Int)} (h : PrT H l ps) (s : Same H H') : PrT H' l ps := by
  obtain ⟨ts, h1, h2⟩ := h
  exact ⟨ts, s _ _ h1, paired_imp (fun _ _ z => s _ _ z) h2⟩
theorem w_nePT {K : PySem.W.Frag} {H : Hp} {a b : Addr} {ps qs : List (Int × Int)} {Q : VK} (ha : PrT H a ps) (hb : PrT H b qs) (q : Q (.bl (!decide (ps = qs))) H) : rNeD K (.ref a) (.ref b) H Q := by
  obtain ⟨ts, h1, h2⟩ := ha
  obtain ⟨us, h3, h4⟩ := hb
  exact ⟨_, _, .tup (sqt h1) (dp_prs h2), .tup (sqt h3) (dp_prs h4), shp_tup _, shp_tup _, by rw [PyData.eqv, eqv_prs]; exact q⟩
theorem w_eqPT0 {K : PySem.W.Frag} {H : Hp} {a b : Addr} {ps qs : List (Int × Int)} {Q : VK} (ha : PrT H a ps) (hb : PrT H b qs) (q : Q (.bl (decide (ps = qs))) H) : rEqD K (.ref a) (.ref b) H Q := by
  obtain ⟨ts, h1, h2⟩ := ha
  obtain ⟨us, h3, h4⟩ := hb
  exact ⟨_, _, .tup (sqt h1) (dp_prs h2), .tup (sqt h3) (dp_prs h4), shp_tup _, shp_tup _, by rw [PyData.eqv, eqv_prs]; exact q⟩

end Bc
namespace Bc
open PySem PySem.Spec PyProof.Rows L2
/-! ### comprehensions with a test, by a relation -/
section
variable {J : It} {G : Hp → Prop} {te : TE} {tt : TT} {vs : List Nat} {σ : L2.St} {H : Hp} {D : Addr} {Qd : Hp → Prop} {j : Nat}
theorem lc_frel (xs : List V) (p : V → Bool) (R : V → V → Hp → Prop) (mono : ∀ x y G G', Same G G' → R x y G → R x y G') (w : Walk J xs.length G (YAt xs)) (hD : H D = none) (hG : ∀ H', Same H H' → G H') (sz : xs.length ≤ 100000)
    (wp : ∀ v, wipe ((wipe σ vs).set j v) vs = wipe σ vs)
    (tst : ∀ (i : Nat) (x : V) (H' : Hp), xs[i]? = some x → Same H H' → ∀ Q' : Bool → Hp → Prop, (∀ H'', Same H' H'' → Q' (p x) H'') → tt ((wipe σ vs).set j (some x)) H' Q')
    (step : ∀ (i : Nat) (x : V) (H' : Hp), xs[i]? = some x → p x = true → Same H H' → (∃ acc, H' D = some (.lst acc)) → ∀ Q' : VK, (∀ (y : V) (H'' : Hp), Same H' H'' → R x y (rm D H'') → Q' y H'') → te ((wipe σ vs).set j (some x)) H' Q')
    (q : ∀ (H' : Hp) (ys : List V), Same H H' → H' D = some (.lst ys) → Paired (fun x y => R x y H') (xs.filter p) ys → Qd H') :
    ∃ W : Nat → Nat → Hp → Prop, (∃ m, W 0 m (upd H D (.lst []))) ∧ ∀ i m H, W i m H →
      (J.stop i H ∧ Qd H) ∨ (J.go i H ∧ ∃ Nx : Hp → Prop, (∀ H', Nx H' → ∃ m', m' < m ∧ W (i + 1) m' H') ∧ ∀ x H', J.yld i H x H' → gName j x (wipe σ vs) H' fun σ2 H2 => wipe σ2 vs = wipe σ vs ∧ tt σ2 H2 fun b H3 =>
        if b = true then te σ2 H3 fun y H4 => ∃ acc, H4 D = some (.lst acc) ∧ acc.length < sizeLine ∧ Nx (upd H4 D (.lst (acc ++ [y]))) else Nx H3) := by
  refine lc_it w (fun i H' => ∃ ys : List V, Same H (rm D H') ∧ H' D = some (.lst ys) ∧ Paired (fun x y => R x y (rm D H')) ((xs.take i).filter p) ys) ⟨[], ?_, upd_same, .nil⟩ (fun i H' _ h => by obtain ⟨_, k, _⟩ := h; exact hG H' (k.trans rm_le)) ?_ ?_
  · rw [rm_updS]
    exact rm_in hD (Same.refl _)
  · rintro i x H1 H' hi ⟨ys, h1, h3, h4⟩ ⟨rfl, hx⟩
    refine ⟨wp _, tst i x H' hx (h1.trans rm_le) _ fun H2 s2 => ?_⟩
    have e : xs[i] = x := by rw [List.getElem?_eq_getElem hi] at hx; exact Option.some.inj hx
    have tk : (xs.take (i + 1)).filter p = (xs.take i).filter p ++ [x].filter p := by rw [List.take_succ_eq_append_getElem hi, e, List.filter_append]
    cases hp : p x with
    | true =>
      refine iteT (step i x H2 hx hp ((h1.trans rm_le).trans s2) ⟨_, s2 _ _ h3⟩ _ fun y H3 s3 r => ?_)
      have s23 := s2.trans s3
      have el := h4.length
      have h5 := List.length_filter_le p (xs.take i)
      rw [List.length_take] at h5
      refine ⟨ys, s23 _ _ h3, ?_, ys ++ [y], ?_, upd_same, ?_⟩
      · have : (100000 : Nat) < sizeLine := by decide
        omega
      · rw [rm_updS]
        exact h1.trans s23.rm
      · rw [rm_updS, tk, List.filter_cons, if_pos hp]
        exact Paired.snoc (paired_imp (fun _ _ z => mono _ _ _ _ s23.rm z) h4) r
    | false =>
      refine iteF ⟨ys, h1.trans s2.rm, s2 _ _ h3, ?_⟩
      rw [tk, List.filter_cons, if_neg (by rw [hp]; decide), List.filter_nil, List.append_nil]
      exact paired_imp (fun _ _ z => mono _ _ _ _ s2.rm z) h4
  · rintro H' ⟨ys, h1, h3, h4⟩
    rw [List.take_length] at h4
    exact q H' ys (h1.trans rm_le) h3 (paired_imp (fun _ _ z => mono _ _ _ _ rm_le z) h4)
end
/-! ### ranges with a step -/
theorem rgC {i j c : Int} {n : Nat} (c1 : 0 < c) (c2 : c < 1000) (i0 : 0 ≤ i) (hij : i < j) (j1 : j ≤ 1000) (h1 : i + c * ((n : Int) - 1) < j) (h2 : j ≤ i + c * n) (n1 : 1 ≤ n) : RgC i j c n := by
  have hd : (j - i - 1) / c = (n : Int) - 1 := by
    have e := Int.emod_add_mul_ediv (j - i - 1) c
    have l := Int.emod_nonneg (j - i - 1) (show c ≠ 0 by omega)
    have u := Int.emod_lt_of_pos (j - i - 1) c1
    generalize (j - i - 1) / c = d at *
    rw [Int.mul_sub, Int.mul_one] at h1
    have a1 : c * d < c * n := by omega
    have a2 : c * (n : Int) < c * (d + 2) := by
      rw [Int.mul_add]
      omega
    have := Int.lt_of_mul_lt_mul_left a1 (Int.le_of_lt c1)
    have := Int.lt_of_mul_lt_mul_left a2 (Int.le_of_lt c1)
    omega
  have hsz : Builtin.Range.rangeSize i j c = n := by
    unfold Builtin.Range.rangeSize
    rw [if_pos (by omega), if_pos hij, hd]
    omega
  refine ⟨by omega, by omega, ?_, hsz⟩
  have hn : (n : Int) ≤ 1000 := by
    have := Int.mul_le_mul_of_nonneg_right (show (1 : Int) ≤ c by omega) (show (0 : Int) ≤ (n : Int) - 1 by omega)
    rw [Int.one_mul] at this
    omega
  have hm : c * (n : Int) < 1000000 := by
    have := Int.mul_le_mul (show c ≤ 999 by omega) hn (by omega) (by decide)
    omega
  have hm0 : 0 ≤ c * (n : Int) := Int.mul_nonneg (by omega) (by omega)
  unfold Builtin.Range.small
  rw [hsz]
  simp only [Builtin.Range.rangeFitsLong, Bool.and_eq_true, Bool.or_eq_true, decide_eq_true_eq, beq_iff_eq]
  simp only [show c > 0 from c1, if_true]
  refine ⟨⟨⟨⟨⟨by omega, by omega⟩, by omega, by omega⟩, by omega, by omega⟩, by omega, by omega⟩, .inr ?_⟩
  rw [Bool.and_eq_true, decide_eq_true_eq, decide_eq_true_eq]
  omega

theorem walk_rangeCY {lo c : Int} {n : Nat} : Walk (Itc lo c n) ((List.range n).map fun i : Nat => V.int (lo + (i : Int) * c)).length (fun _ => True) (YAt ((List.range n).map fun i : Nat => V.int (lo + (i : Int) * c))) := by
  have h := walk_rangeC (lo := lo) (c := c) (n := n)
  have e : ((List.range n).map fun i : Nat => V.int (lo + (i : Int) * c)).length = n := by simp
  rw [e]
  refine h.mono (fun _ h => h) (fun i H x H' hi _ y => ?_)
  obtain ⟨rfl, rfl⟩ := y
  refine ⟨rfl, ?_⟩
  rw [List.getElem?_map, List.getElem?_range hi]
  rfl
/-! ### the widest classes, found from the values -/
def Per (p : Int) (k : Nat) (S : Int → Prop) : Prop := ∀ x y, p ^ k ∣ x - y → S x → S y
theorem lie_idx {p : Int} (hp : 0 < p) {k j : Nat} (hj : j ≤ k) {r x : Int} (h0 : 0 ≤ r) (h1 : r < p ^ j) (h : Lie p (r, j) x) : ∃ i : Nat, i < (p ^ (k - j)).toNat ∧ p ^ k ∣ x - (r + (i : Int) * p ^ j) := by
  have hk : 0 < p ^ k := Int.pow_pos hp
  have hpj : 0 < p ^ j := Int.pow_pos hp
  have hkj : 0 < p ^ (k - j) := Int.pow_pos hp
  have e1 := Int.emod_add_mul_ediv x (p ^ k)
  have l := Int.emod_nonneg x (show p ^ k ≠ 0 by omega)
  have u := Int.emod_lt_of_pos x hk
  have ek : p ^ k = p ^ j * p ^ (k - j) := by rw [← Int.pow_add, show j + (k - j) = k by omega]
  have d : p ^ j ∣ x % p ^ k - r := by
    have h : p ^ j ∣ x - r := h
    have h2 : p ^ j ∣ p ^ k * (x / p ^ k) := Int.dvd_trans (pow_dvd_le p hj) (Int.dvd_mul_right _ _)
    have := Int.dvd_sub h h2
    rwa [show x - r - p ^ k * (x / p ^ k) = x % p ^ k - r by omega] at this
  obtain ⟨i, hi⟩ := d
  have i0 : 0 ≤ i := by
    rcases Int.lt_or_le i 0 with z | z
    · have := Int.mul_le_mul_of_nonneg_left (show i ≤ -1 by omega) (Int.le_of_lt hpj)
      omega
    · exact z
  have i1 : i < p ^ (k - j) := by
    refine Int.lt_of_mul_lt_mul_left (a := p ^ j) ?_ (Int.le_of_lt hpj)
    omega
  refine ⟨i.toNat, by omega, ?_⟩
  rw [show ((i.toNat : Nat) : Int) = i by omega, Int.mul_comm i]
  exact ⟨x / p ^ k, by omega⟩
theorem idx_lie {p : Int} {j : Nat} (r : Int) (i : Nat) : Lie p (r, j) (r + (i : Int) * p ^ j) := by
  show p ^ j ∣ r + (i : Int) * p ^ j - r
  rw [show r + (i : Int) * p ^ j - r = (i : Int) * p ^ j by omega]
  exact Int.dvd_mul_left _ _
theorem whole_idx {p : Int} (hp : 0 < p) {k j : Nat} (hj : j ≤ k) {r : Int} (h0 : 0 ≤ r) (h1 : r < p ^ j) {S : Int → Prop} (per : Per p k S) : Whole p S (r, j) ↔ ∀ i : Nat, i < (p ^ (k - j)).toNat → S (r + (i : Int) * p ^ j) := by
  constructor
  · exact fun h i _ => h _ (idx_lie r i)
  · intro h x hx
    obtain ⟨i, hi, hd⟩ := lie_idx hp hj h0 h1 hx
    refine per _ _ ?_ (h i hi)
    have := Int.dvd_neg.mpr hd
    rwa [show -(x - (r + (i : Int) * p ^ j)) = r + (i : Int) * p ^ j - x by omega] at this
theorem none_idx {p : Int} (hp : 0 < p) {k j : Nat} (hj : j ≤ k) {r : Int} (h0 : 0 ≤ r) (h1 : r < p ^ j) {S : Int → Prop} (per : Per p k S) (h : ∀ i : Nat, i < (p ^ (k - j)).toNat → ¬ S (r + (i : Int) * p ^ j)) : ∀ x, Lie p (r, j) x → ¬ S x := fun x hx hs => by
  obtain ⟨i, hi, hd⟩ := lie_idx hp hj h0 h1 hx
  exact h i hi (per _ _ hd hs)
/-- the classes found and those that wait -/
structure Wst (p : Int) (k : Nat) (S : Int → Prop) (F st : List (Int × Nat)) : Prop where
  cov : ∀ x, S x → ∃ q ∈ F ++ st, Lie p q x
  mx : ∀ q ∈ F, Mx p S q ∧ Rg p q
  ok : ∀ q ∈ st, Rg p q ∧ q.2 ≤ k ∧ (q.2 = 0 ∨ ¬ Whole p S (par p q))
  ap : (F ++ st).Pairwise (Ap p)
theorem Ap.symm {p : Int} {q q' : Int × Nat} (h : Ap p q q') : Ap p q' q := fun x hx hx' => h x hx' hx
theorem Wst.start (p : Int) (k : Nat) (S : Int → Prop) : Wst p k S [] [(0, 0)] := by
  refine ⟨fun x _ => ⟨(0, 0), List.mem_singleton.mpr rfl, ?_⟩, (fun q h => by cases h), fun q h => ?_, List.pairwise_singleton _ _⟩
  · show p ^ 0 ∣ x - 0
    rw [Int.pow_zero]
    exact Int.one_dvd _
  · rw [List.mem_singleton.mp h]
    refine ⟨⟨Int.le_refl _, ?_⟩, Nat.zero_le _, .inl rfl⟩
    show (0 : Int) < p ^ 0
    rw [Int.pow_zero]
    decide
/-- whole: found -/
theorem Wst.hit {p : Int} {k : Nat} {S : Int → Prop} {F st : List (Int × Nat)} {q : Int × Nat} (W : Wst p k S F (st ++ [q])) (h : Whole p S q) : Wst p k S (F ++ [q]) st := by
  have pm : (F ++ [q] ++ st).Perm (F ++ (st ++ [q])) := by
    rw [List.append_assoc]
    exact List.Perm.append_left _ List.perm_append_comm
  refine ⟨fun x hx => ?_, fun q' hq' => ?_, fun q' hq' => W.ok q' (List.mem_append_left _ hq'), (pm.pairwise_iff fun h => Ap.symm h).mpr W.ap⟩
  · obtain ⟨q', h1, h2⟩ := W.cov x hx
    exact ⟨q', pm.mem_iff.mpr h1, h2⟩
  · rcases List.mem_append.mp hq' with h1 | h1
    · exact W.mx q' h1
    · rw [List.mem_singleton.mp h1]
      obtain ⟨a, _, c⟩ := W.ok q (by simp)
      exact ⟨⟨h, c⟩, a⟩
/-- nothing there: left -/
theorem Wst.miss {p : Int} {k : Nat} {S : Int → Prop} {F st : List (Int × Nat)} {q : Int × Nat} (W : Wst p k S F (st ++ [q])) (h : ∀ x, Lie p q x → ¬ S x) : Wst p k S F st := by
  refine ⟨fun x hx => ?_, W.mx, fun q' hq' => W.ok q' (List.mem_append_left _ hq'), ?_⟩
  · obtain ⟨q', h1, h2⟩ := W.cov x hx
    rw [← List.append_assoc] at h1
    rcases List.mem_append.mp h1 with h1 | h1
    · exact ⟨q', h1, h2⟩
    · rw [List.mem_singleton.mp h1] at h2
      exact absurd hx (h x h2)
  · have := W.ap
    rw [← List.append_assoc] at this
    exact (List.pairwise_append.mp this).1
/-- cut -/
theorem Wst.cut {p : Int} (hp : 1 < p) {k : Nat} {S : Int → Prop} {F st : List (Int × Nat)} {r : Int} {j : Nat} (W : Wst p k S F (st ++ [(r, j)])) (hj : j < k) (h : ¬ Whole p S (r, j)) : Wst p k S F (st ++ (kidsOf p j r).map fun c => (c, j + 1)) := by
  have hp0 : 0 < p := by omega
  obtain ⟨rg, _, _⟩ := W.ok (r, j) (by simp)
  have rg : 0 ≤ r ∧ r < p ^ j := rg
  have hap : ∀ q ∈ F ++ st, Ap p q (r, j) := fun q hq => by
    have := W.ap
    rw [← List.append_assoc] at this
    exact (List.pairwise_append.mp this).2.2 q hq _ (List.mem_singleton.mpr rfl)
  refine ⟨fun x hx => ?_, W.mx, fun q hq => ?_, ?_⟩
  · obtain ⟨q', h1, h2⟩ := W.cov x hx
    rw [← List.append_assoc] at h1
    rcases List.mem_append.mp h1 with h1 | h1
    · exact ⟨q', by rw [← List.append_assoc]; exact List.mem_append_left _ h1, h2⟩
    · rw [List.mem_singleton.mp h1] at h2
      obtain ⟨c, hc, hcx⟩ := kid_lie hp0 rg h2
      exact ⟨(c, j + 1), by rw [← List.append_assoc]; exact List.mem_append_right _ (List.mem_map.mpr ⟨c, hc, rfl⟩), hcx⟩
  · rcases List.mem_append.mp hq with h1 | h1
    · exact W.ok q (List.mem_append_left _ h1)
    · obtain ⟨c, hc, rfl⟩ := List.mem_map.mp h1
      obtain ⟨a, b⟩ := kids_rg hp0 rg.1 rg.2 hc
      refine ⟨a, hj, .inr ?_⟩
      show ¬ Whole p S (c % p ^ (j + 1 - 1), j + 1 - 1)
      rw [show c % p ^ (j + 1 - 1) = r from b]
      exact h
  · rw [← List.append_assoc, List.pairwise_append]
    refine ⟨?_, ?_, fun q hq q' hq' => ?_⟩
    · have := W.ap
      rw [← List.append_assoc] at this
      exact (List.pairwise_append.mp this).1
    · unfold kidsOf
      rw [List.map_map]
      refine List.pairwise_map.mpr ((List.nodup_range (n := p.toNat)).imp_of_mem fun {a b} ha hb hab x hx hx' => hab ?_)
      have ha' := List.mem_range.mp ha
      have hb' := List.mem_range.mp hb
      have ka : r + p ^ j * (a : Int) ∈ kidsOf p j r := List.mem_map.mpr ⟨a, ha, rfl⟩
      have kb : r + p ^ j * (b : Int) ∈ kidsOf p j r := List.mem_map.mpr ⟨b, hb, rfl⟩
      have e := Rg.eq (kids_rg hp0 rg.1 rg.2 ka).1 (kids_rg hp0 rg.1 rg.2 kb).1 rfl hx hx'
      have e := congrArg Prod.fst e
      have e : r + p ^ j * (a : Int) = r + p ^ j * (b : Int) := e
      have hpj : 0 < p ^ j := Int.pow_pos hp0
      have := Int.eq_of_mul_eq_mul_left (show p ^ j ≠ 0 by omega) (show p ^ j * (a : Int) = p ^ j * (b : Int) by omega)
      omega
    · obtain ⟨c, hc, rfl⟩ := List.mem_map.mp hq'
      intro x hx hx'
      exact hap q hq x hx (lie_kid (kids_rg hp0 rg.1 rg.2 hc).2 hx')
theorem Wst.nd {p : Int} {k : Nat} {S : Int → Prop} {F : List (Int × Nat)} (W : Wst p k S F []) : (F.map (·.1)).Nodup := by
  have h := W.ap
  rw [List.append_nil] at h
  refine List.pairwise_map.mpr (h.imp fun {a b} hab e => ?_)
  refine hab a.1 (Lie.self p a) ?_
  show p ^ b.2 ∣ a.1 - b.1
  rw [show a.1 - b.1 = 0 by omega]
  exact Int.dvd_zero _
/-- two such lists hold the same -/
theorem same_max {p : Int} {S : Int → Prop} {F F' : List (Int × Nat)} (c : ∀ x, S x → ∃ q ∈ F, Lie p q x) (m : ∀ q ∈ F, Mx p S q ∧ Rg p q) (n : (F.map (·.1)).Nodup) (c' : ∀ x, S x → ∃ q ∈ F', Lie p q x) (m' : ∀ q ∈ F', Mx p S q ∧ Rg p q) (n' : (F'.map (·.1)).Nodup) : F.Perm F' := by
  have nd : ∀ {G : List (Int × Nat)}, (G.map (·.1)).Nodup → G.Nodup := fun h => (List.pairwise_map.mp h).imp fun hab e => hab (congrArg Prod.fst e)
  refine (List.perm_ext_iff_of_nodup (nd n) (nd n')).mpr fun q => ⟨fun h => ?_, fun h => ?_⟩
  · exact max_all c' (fun q hq => (m' q hq).1) (fun q hq => (m' q hq).2) (m q h).1 (m q h).2
  · exact max_all c (fun q hq => (m q hq).1) (fun q hq => (m q hq).2) (m' q h).1 (m' q h).2
theorem sorted_same {W W' : List (Int × Int)} (pm : W.Perm W') (nd : (W.map (·.1)).Nodup) (s : (W.map (·.1)).Pairwise (· ≤ ·)) (s' : (W'.map (·.1)).Pairwise (· ≤ ·)) : W = W' := by
  refine List.Perm.eq_of_pairwise (le := fun a b => a.1 ≤ b.1) (fun a b ha hb h1 h2 => ?_) (List.pairwise_map.mp s) (List.pairwise_map.mp s') pm
  have hb := pm.mem_iff.mpr hb
  have e : a.1 = b.1 := Int.le_antisymm h1 h2
  exact Classical.byContradiction fun hne => pw_mem (R := fun a b : Int × Int => a.1 ≠ b.1) (fun _ _ h e => h e.symm) (List.pairwise_map.mp nd) ha hb hne e
/-! ### the law's functions -/
def wgt (p : Int) (k : Nat) (q : Int × Nat) : Nat := (p.toNat + 1) ^ (k + 1 - q.2)
theorem wgt_pos (p : Int) (k : Nat) (q : Int × Nat) : 0 < wgt p k q := Nat.pow_pos (by omega)
theorem wgt_len (p : Int) (k : Nat) : ∀ st : List (Int × Nat), st.length ≤ (st.map (wgt p k)).sum
  | [] => Nat.le_refl _
  | a :: l => by
    have := wgt_len p k l
    have := wgt_pos p k a
    rw [List.map_cons, List.sum_cons, List.length_cons]
    omega
theorem wgt_kids {p : Int} {k j : Nat} (hj : j < k) (r r' : Int) : (((kidsOf p j r).map fun c => (c, j + 1)).map (wgt p k)).sum < wgt p k (r', j) := by
  have h := sum_le (l := kidsOf p j r) (f := fun c => wgt p k (c, j + 1)) (M := (p.toNat + 1) ^ (k - j)) fun c _ => by
    show (p.toNat + 1) ^ (k + 1 - (j + 1)) ≤ _
    rw [show k + 1 - (j + 1) = k - j by omega]
    exact Nat.le_refl _
  rw [kids_len] at h
  rw [List.map_map]
  show ((kidsOf p j r).map fun c => wgt p k (c, j + 1)).sum < (p.toNat + 1) ^ (k + 1 - j)
  rw [show k + 1 - j = (k - j) + 1 by omega, Nat.pow_succ]
  have : 0 < (p.toNat + 1) ^ (k - j) := Nat.pow_pos (by omega)
  rw [Nat.mul_comm] at h
  rw [Nat.mul_succ]
  omega
def spWid24 : Sp := fun vs H Q _ => ∃ (m : Addr) (kvs : List (Key × V)) (p : Int) (k : Nat) (S : Int → Prop), vs = [.ref m, .int p, .int (p ^ k)] ∧ H m = some (.dK kvs) ∧ 1 < p ∧ p < 1000 ∧ p ^ k ≤ 250 ∧ (p.toNat + 1) ^ (k + 1) ≤ 20000 ∧ Per p k S ∧ (∀ x : Int, 0 ≤ x → x < p ^ k → ((valV kvs (.inl x)).isSome = true ↔ S x)) ∧
  ∀ t W bs F H', Same H H' → (∀ x, S x → ∃ q ∈ F, Lie p q x) → (∀ q ∈ F, Mx p S q ∧ Rg p q) → (F.map (·.1)).Nodup → W.Perm (prs p F) → (W.map (·.1)).Pairwise (· ≤ ·) → H' t = some (.tup (bs.map V.ref)) → Paired (Tp H') W bs → Q (.ref t) H'
def spTimesB : Sp := fun vs H Q _ => ∃ (l m : Addr) (cs ms : List Int) (A B : Nat), vs = [.ref l, .ref m] ∧ H l = some (.lst (cs.map V.int)) ∧ H m = some (.lst (ms.map V.int)) ∧ 1 ≤ cs.length ∧ cs.length ≤ 40 ∧ 1 ≤ ms.length ∧ ms.length ≤ 40 ∧ Sml A cs ∧ Sml B ms ∧ A + B ≤ 10000 ∧
  ∀ (p : Addr) (rs : List Int) (H' : Hp), H p = none → Same H H' → H' p = some (.lst (rs.map V.int)) → rs.length = cs.length + ms.length - 1 → Sml (A + B + 11) rs → Q (.ref p) H'
def spDrow24 : Sp := fun vs H Q _ => ∃ (a : Addr) (p k c : Int), vs = [.ref a, .int p, .int k] ∧ 1 < p ∧ p ≤ 13 ∧ 1 ≤ k ∧ k ≤ 7 ∧ c < 2 ^ 47 ∧ Purse H a c ∧
  ∀ (l : Addr) (rs : List Int) (H' : Hp), Same (rm a H) (rm a H') → Purse H' a (c + 1000) → rm a H' l = some (.lst (rs.map V.int)) → rs.length ≤ 30 → Sml 4000 rs → Q (.ref l) H'
theorem prs_app (p : Int) (F G : List (Int × Nat)) : prs p (F ++ G) = prs p F ++ prs p G := List.map_append
theorem kids_prl {G : Hp} {p r : Int} {j : Nat} : ∀ {l : List Nat} {ys : List V}, Paired (fun x y => ∃ (z : Int) (t : Addr), x = V.int z ∧ y = V.ref t ∧ G t = some (.tup [.int (r + p ^ j * z), .int (p ^ j * p)])) (l.map fun i : Nat => V.int (0 + (i : Int))) ys → ∃ ts : List Addr, ys = ts.map V.ref ∧ Paired (Tp G) (prs p ((l.map fun i : Nat => r + p ^ j * (i : Int)).map fun c => (c, j + 1))) ts
  | [], ys, h => by
    cases h
    exact ⟨[], rfl, .nil⟩
  | i :: l, ys, h => by
    cases h with
    | cons h1 h2 =>
      obtain ⟨z, t, e1, e2, e3⟩ := h1
      cases e1
      obtain ⟨ts, e4, e5⟩ := kids_prl h2
      refine ⟨t :: ts, by rw [e2, e4]; rfl, .cons ?_ e5⟩
      show G t = some (.tup [.int (r + p ^ j * (i : Int)), .int (p ^ (j + 1))])
      rw [e3, Int.pow_succ, Int.zero_add]
def memV (kvs : List (Key × V)) (v : V) : Bool := match v with | .int z => (valV kvs (.inl z)).isSome | _ => false
/-- the members of a class below p ^ k -/
def insI (kvs : List (Key × V)) (r c : Int) (n : Nat) : List Nat := (List.range n).filter fun i => (valV kvs (.inl (r + (i : Int) * c))).isSome
theorem insI_map (kvs : List (Key × V)) (r c : Int) (n : Nat) : ((((List.range n).map fun i : Nat => V.int (r + (i : Int) * c)).filter (memV kvs)).map fun v => v) = ((insI kvs r c n).map fun i : Nat => r + (i : Int) * c).map V.int := by
  unfold insI
  rw [List.filter_map, List.map_map, List.map_map]
  rfl
theorem insI_len (kvs : List (Key × V)) (r c : Int) (n : Nat) : (insI kvs r c n).length = n ↔ ∀ i, i < n → (valV kvs (.inl (r + (i : Int) * c))).isSome = true := by
  have h := List.length_filter_eq_length_iff (p := fun i : Nat => (valV kvs (.inl (r + (i : Int) * c))).isSome) (l := List.range n)
  rw [List.length_range] at h
  exact h.trans ⟨fun g i hi => g i (List.mem_range.mpr hi), fun g i hi => g i (List.mem_range.mp hi)⟩
theorem insI_nil (kvs : List (Key × V)) (r c : Int) (n : Nat) : insI kvs r c n = [] ↔ ∀ i, i < n → ¬ (valV kvs (.inl (r + (i : Int) * c))).isSome = true := by
  unfold insI
  rw [List.filter_eq_nil_iff]
  exact ⟨fun g i hi => g i (List.mem_range.mpr hi), fun g i hi => g i (List.mem_range.mp hi)⟩
/-! #### the law's round -/
def unIx (rs : List Int) (p : Int) (i : Nat) : List Nat := (List.range i).filter fun t => decide (rs.getD t 0 % p ≠ 0)
theorem unIx_succ (rs : List Int) (p : Int) (i : Nat) : unIx rs p (i + 1) = unIx rs p i ++ if decide (rs.getD i 0 % p ≠ 0) = true then [i] else [] := by
  unfold unIx
  rw [List.range_succ, List.filter_append, List.filter_cons]
  rfl
theorem units_ok {rs : List Int} {p : Int} (h : unIx rs p rs.length ≠ []) : ∃ U d, unIx rs p rs.length = U ++ [d] ∧ (∃ z ∈ rs, ¬ p ∣ z) ∧ Dg p d rs := by
  rcases List.eq_nil_or_concat (unIx rs p rs.length) with e | ⟨U, d, e⟩
  · exact absurd e h
  · rw [List.concat_eq_append] at e
    have hd : d ∈ unIx rs p rs.length := by rw [e]; simp
    obtain ⟨h1, h2⟩ := List.mem_filter.mp hd
    have h1 := List.mem_range.mp h1
    have h2 := of_decide_eq_true h2
    have hmem : rs.getD d 0 ∈ rs := by
      rw [List.getD_eq_getElem?_getD, List.getElem?_eq_getElem h1]
      exact List.getElem_mem h1
    refine ⟨U, d, e, ⟨_, hmem, fun z => h2 (Int.emod_eq_zero_of_dvd z)⟩, fun i hi => ?_⟩
    apply Classical.byContradiction
    intro hn
    have hlt : i < rs.length := by
      rcases Nat.lt_or_ge i rs.length with z | z
      · exact z
      · exfalso
        rw [List.getD_eq_getElem?_getD, List.getElem?_eq_none z] at hn
        exact hn (Int.dvd_zero _)
    have hi2 : i ∈ unIx rs p rs.length := List.mem_filter.mpr ⟨List.mem_range.mpr hlt, decide_eq_true fun z => hn (Int.dvd_of_emod_eq_zero z)⟩
    have hpw : (unIx rs p rs.length).Pairwise (· < ·) := List.Pairwise.filter _ List.pairwise_lt_range
    rw [e] at hpw hi2
    rcases List.mem_append.mp hi2 with z | z
    · have := (List.pairwise_append.mp hpw).2.2 i z d (List.mem_singleton.mpr rfl)
      omega
    · have := List.mem_singleton.mp z
      omega
def tru (L : List Int) : List (Key × V) := L.map fun z => ((.inl z : Key), V.bl true)
theorem mergeK_mem (x : Int) : ∀ (L : List Int) (acc : List (Key × V)), (valV (mergeK acc (tru L)) (.inl x)).isSome = true ↔ (valV acc (.inl x)).isSome = true ∨ x ∈ L
  | [], acc => ⟨.inl, fun h => h.elim id fun h => by cases h⟩
  | z :: L, acc => by
    show (valV (mergeK (putK acc (.inl z) (.bl true)) (tru L)) (.inl x)).isSome = true ↔ _
    rw [mergeK_mem x L, valV_put]
    by_cases e : x = z
    · subst e
      rw [if_pos rfl]
      exact ⟨fun _ => .inr (List.mem_cons_self ..), fun _ => .inl rfl⟩
    · rw [if_neg (fun h => e (Sum.inl.inj h))]
      exact ⟨fun h => h.imp id (List.mem_cons_of_mem _), fun h => h.imp id fun h => (List.mem_cons.mp h).resolve_left e⟩
theorem ev_per {p : Int} {k : Nat} (cs : List Int) : Per p k fun x => p ^ k ∣ ev cs x := fun x y hd hx => by
  have h1 : ev cs (x % p ^ k) % p ^ k = ev cs x % p ^ k := hv_mod x (p ^ k) cs.reverse
  have h2 : ev cs (y % p ^ k) % p ^ k = ev cs y % p ^ k := hv_mod y (p ^ k) cs.reverse
  have e := Int.emod_eq_emod_iff_emod_sub_eq_zero.mpr (Int.emod_eq_zero_of_dvd hd)
  rw [e] at h1
  have := Int.emod_eq_zero_of_dvd hx
  exact Int.dvd_of_emod_eq_zero (by rw [← h2, h1]; exact this)
theorem tru_prl {G : Hp} : ∀ {L : List Int} {ys : List V}, Paired (fun x y => ∃ (z : Int) (t : Addr), x = V.int z ∧ y = V.ref t ∧ G t = some (.tup [.int z, .bl true])) (L.map V.int) ys → ∃ ts : List Addr, ys = ts.map V.ref ∧ ∀ K : PySem.W.Frag, Paired (fun p kv => SqT K G p [kV kv.1, kv.2]) ts (tru L)
  | [], ys, h => by
    cases h
    exact ⟨[], rfl, fun _ => .nil⟩
  | q :: r, ys, h => by
    cases h with
    | cons h1 h2 =>
      obtain ⟨p, t, e1, e2, e3⟩ := h1
      cases e1
      obtain ⟨ts, e4, e5⟩ := tru_prl h2
      exact ⟨t :: ts, by rw [e2, e4]; rfl, fun K => .cons (sqt e3) (e5 K)⟩
def zrV (cs : List Int) (n : Int) (v : V) : Bool := match v with | .int z => decide (ev cs z % n = 0) | _ => false
theorem zrV_map (cs : List Int) (n : Int) (m : Nat) : ((List.range m).map fun i : Nat => V.int (0 + (i : Int))).filter (zrV cs n) = ((((List.range m).map fun i : Nat => (0 + (i : Int))).filter fun z => decide (ev cs z % n = 0)) : List Int).map V.int := by
  rw [show ((List.range m).map fun i : Nat => V.int (0 + (i : Int))) = ((List.range m).map fun i : Nat => (0 + (i : Int))).map V.int by rw [List.map_map]; rfl, List.filter_map]
  rfl
theorem zr_mem {cs : List Int} {n : Int} (hn : 0 < n) {x : Int} (h0 : 0 ≤ x) (h1 : x < n) : x ∈ (((List.range n.toNat).map fun i : Nat => (0 + (i : Int))).filter fun z => decide (ev cs z % n = 0)) ↔ n ∣ ev cs x := by
  rw [List.mem_filter, decide_eq_true_eq]
  exact ⟨fun h => Int.dvd_of_emod_eq_zero h.2, fun h => ⟨List.mem_map.mpr ⟨x.toNat, List.mem_range.mpr (by omega), by omega⟩, Int.emod_eq_zero_of_dvd h⟩⟩
/-- both lists are one -/
theorem due_eq {p : Int} (hp : Pr p) {k : Nat} {cs : List Int} {W W' : List (Int × Int)} {F : List (Int × Nat)} (c : ∀ x, p ^ k ∣ ev cs x → ∃ q ∈ F, Lie p q x) (m : ∀ q ∈ F, Mx p (fun x => p ^ k ∣ ev cs x) q ∧ Rg p q) (n : (F.map (·.1)).Nodup) (pm : W.Perm (prs p F)) (so : (W.map (·.1)).Pairwise (· ≤ ·)) (pm' : W'.Perm (prs p (RC p k (trim cs)))) (so' : (W'.map (·.1)).Pairwise (· ≤ ·)) : W' = W := by
  obtain ⟨c', m', n'⟩ := RC_ok hp k (trim cs)
  have es : (fun x => p ^ k ∣ ev (trim cs) x) = fun x => p ^ k ∣ ev cs x := by
    funext x
    rw [ev_trim]
  have pf : (RC p k (trim cs)).Perm F := by
    refine same_max (S := fun x => p ^ k ∣ ev cs x) (fun x hx => c' x (by rw [ev_trim]; exact hx)) (fun q hq => ?_) n' c m n
    have := m' q hq
    rw [es] at this
    exact this
  have pw : W'.Perm W := pm'.trans ((pf.map fun q : Int × Nat => (q.1, p ^ q.2)).trans pm.symm)
  refine sorted_same pw ?_ so' so
  have h1 : (W'.map (·.1)).Perm ((prs p (RC p k (trim cs))).map (·.1)) := pm'.map _
  refine h1.nodup_iff.mpr ?_
  unfold prs
  rw [List.map_map]
  exact n'
theorem fine24 {p : Int} {k : Nat} {cs : List Int} (hp : Pr p) (p2 : p < 1000) (k1 : 1 ≤ k) (k7 : k ≤ 7) (hl : cs.length ≤ 30) (hs : Sml 4000 cs) (hw : (p.toNat + 1) ^ (k + 1) ≤ 20000) : Fine p k (trim cs) := by
  have hp1 := hp.1
  refine ⟨hp, by omega, k1, by omega, Nat.le_trans (trim_len cs) hl, fun z hz => Nat.lt_of_lt_of_le (hs z (trim_mem hz)) (Nat.pow_le_pow_right (by decide) (by decide)), ?_⟩
  exact Nat.le_trans (nds_le (b := p.toNat) _ _ (few_paperP (by omega) (k + 1) k _)) hw
theorem due_len {p : Int} (hp : Pr p) {k : Nat} (k1 : 1 ≤ k) {cs : List Int} {d : Nat} {W' : List (Int × Int)} (pm' : W'.Perm (prs p (RC p k (trim cs)))) (hu : ∃ z ∈ cs, ¬ p ∣ z) (hd : Dg p d cs) : W'.length ≤ d := by
  rw [pm'.length_eq]
  unfold prs
  rw [List.length_map]
  refine RC_len hp k1 ?_ fun i hi => by rw [trim_getD _ _ (Nat.le_refl _)]; exact hd i hi
  obtain ⟨z, hz, hz2⟩ := hu
  obtain ⟨i, hi⟩ := List.getElem?_of_mem hz
  have e : (trim cs).getD i 0 = z := by
    rw [trim_getD _ _ (Nat.le_refl _), List.getD_eq_getElem?_getD, hi]
    rfl
  refine ⟨z, ?_, hz2⟩
  rw [List.getD_eq_getElem?_getD] at e
  cases ez : (trim cs)[i]? with
  | none =>
    rw [ez] at e
    have e : (0 : Int) = z := e
    exact absurd (by rw [← e]; exact Int.dvd_zero _) hz2
  | some y =>
    rw [ez] at e
    have e : y = z := e
    rw [← e]
    exact List.mem_of_getElem? ez
def spRight24 : Sp := fun vs H Q _ => ∃ (a : Addr) (c : Int), vs = [.ref a] ∧ c < 2 ^ 46 ∧ Purse H a c ∧ ∀ H', Same (rm a H) (rm a H') → Purse H' a (c + 2000) → Q (.bl true) H'
theorem fineS {p : Int} {k : Nat} {cs : List Int} (hp : Pr p) (p2 : p < 1000) (k1 : 1 ≤ k) (k7 : k ≤ 7) (hl : cs.length ≤ 30) (hs : ∀ z ∈ cs, z.natAbs < 100) (hw : (p.toNat + 1) ^ (k + 1) ≤ 20000) : Fine p k (trim cs) :=
  fine24 hp p2 k1 k7 hl (fun z hz => Nat.lt_trans (hs z hz) (Nat.lt_of_lt_of_le (show 100 < 2 ^ 7 by decide) (Nat.pow_le_pow_right (by decide) (by decide)))) hw
theorem rc_val {p : Int} {k : Nat} {cs : List Int} {W V : List (Int × Int)} (pm : W.Perm (prs p (RC p k (trim cs)))) (so : (W.map (·.1)).Pairwise (· ≤ ·)) (pv : V.Perm (prs p (RC p k (trim cs)))) (nd : (V.map (·.1)).Nodup) (sv : (V.map (·.1)).Pairwise (· ≤ ·)) : W = V := (sorted_same (pv.trans pm.symm) nd sv so).symm
theorem rcv1 : [(0, 1)].Perm (prs 2 (RC 2 3 (trim [0, -6, 11, -6, 1]))) := by decide +kernel
theorem rcv2 : [(0, 9)].Perm (prs 3 (RC 3 3 (trim [0, 0, 1]))) := by decide +kernel
theorem rcv3 : [(0, 1)].Perm (prs 5 (RC 5 2 (trim []))) := by decide +kernel
theorem rcv4 : [(0, 8), (1, 8), (2, 8), (3, 8)].Perm (prs 2 (RC 2 4 (trim [0, -6, 11, -6, 1]))) := by decide +kernel
theorem rcv5 : ([] : List (Int × Int)).Perm (prs 2 (RC 2 3 (trim [4]))) := by decide +kernel
theorem rcv6 : [(0, 8), (7, 8)].Perm (prs 2 (RC 2 3 (trim [0, 1, 1]))) := by decide +kernel
theorem vals_rot : ∀ {zs : List V} {ws : List Value}, Vals zs ws → Vals (zs.drop 1 ++ zs.take 1) (ws.drop 1 ++ ws.take 1)
  | _, _, .nil => .nil
  | _, _, .cons r t => Vals.append t (.cons r .nil)

end Bc
namespace Bc
open PySem PySem.Spec PyProof.Rows L2
/-! ### great powers: nodes of a paper -/
theorem nds_deg {p : Int} (hp : Pr p) : ∀ (n k : Nat) (cs : List Int) (d : Nat), (tk p k cs).2.2 ≠ 0 → Dg p d (tk p k cs).2.1 → nds n (paperT p n k cs) ≤ 1 + d * n
  | 0, k, cs, d, _, _ => by
    show 1 ≤ 1 + d * 0
    omega
  | n + 1, k, cs, d, h0, hd => by
    have hp1 := hp.1
    have hun := tk_unit p k cs (by omega)
    have e : paperT p (n + 1) k cs = .node (tk p k cs).1 ((rts p (tk p k cs).2.1).map fun r => (r, paperT p n (tk p k cs).2.2 (trim (mvd r p (p ^ (tk p k cs).2.2) (tk p k cs).2.1.length 1 (tk p k cs).2.1)))) := by
      conv => lhs; unfold paperT
      rw [if_neg h0]
    rw [e]
    generalize (tk p k cs).2.1 = f at *
    generalize (tk p k cs).2.2 = k' at *
    clear e
    let g : Int → List Int := fun r => trim (mvd r p (p ^ k') f.length 1 f)
    let mu : Int → Nat := fun r => if (tk p k' (g r)).2.2 = 0 then 1 else (tk p k' (g r)).1
    obtain ⟨rn, rr⟩ := rts_nd p f
    have key : ∀ s ∈ rts p f, nds n (paperT p n k' (g s)) ≤ mu s * (n + 1) ∧ Vm p s (mu s) f := fun s hs => by
      have hroot : p ∣ ev f s := by
        unfold rts at hs
        obtain ⟨j, hj, ej⟩ := List.mem_map.mp hs
        rw [← ej]
        exact Int.dvd_of_emod_eq_zero (of_decide_eq_true (List.mem_filter.mp hj).2)
      have hpw : p ∣ p ^ k' := by
        obtain ⟨j, rfl⟩ : ∃ j, k' = j + 1 := ⟨k' - 1, by omega⟩
        rw [Int.pow_succ]
        exact Int.dvd_mul_left _ _
      have hgd : ∀ z ∈ g s, p ∣ z := fun z hz => mvd_root hpw hroot z (trim_mem hz)
      have hle := tk_le p k' (g s)
      show _ ≤ (if (tk p k' (g s)).2.2 = 0 then 1 else (tk p k' (g s)).1) * (n + 1) ∧ Vm p s (if (tk p k' (g s)).2.2 = 0 then 1 else (tk p k' (g s)).1) f
      by_cases hz : (tk p k' (g s)).2.2 = 0
      · rw [if_pos hz]
        refine ⟨?_, hroot, trivial⟩
        have ep : paperT p n k' (g s) = .all := by
          cases n with
          | zero => rfl
          | succ n =>
            unfold paperT
            rw [if_pos hz]
        rw [ep]
        cases n <;> (show 1 ≤ _; omega)
      · rw [if_neg hz]
        have hc1 : 1 ≤ (tk p k' (g s)).1 := by
          obtain ⟨j, rfl⟩ : ∃ j, k' = j + 1 := ⟨k' - 1, by omega⟩
          have := tk_less (k := j) hgd
          omega
        have hgc : ∀ i, (g s).getD i 0 = (mvd s p (p ^ k') f.length 1 f).getD i 0 := trim_getD _ _ (Nat.le_refl _)
        have ih := nds_deg hp n k' (g s) (tk p k' (g s)).1 hz fun i hi => by
          have h1 := mvd_D (r := s) (p := p) (w := p ^ k') (c := (tk p k' (g s)).1) (pow_dvd_le p (by omega)) f.length f 0 i (by omega)
          rw [Int.pow_zero, ← hgc i, tk_coef p k' (g s) i, Int.pow_succ] at h1
          exact Int.dvd_of_mul_dvd_mul_left (Int.pow_ne_zero (by omega)) h1
        refine ⟨?_, ?_⟩
        · rw [Nat.mul_succ]
          omega
        · refine mvd_V hp (c := (tk p k' (g s)).1) (pow_dvd_le p (show (tk p k' (g s)).1 ≤ k' by omega)) f.length f 0 _ rfl (Nat.zero_add _) (getD_dvd fun i => ?_)
          rw [Int.pow_zero, ← hgc i, tk_coef p k' (g s) i]
          exact Int.dvd_mul_right _ _
    have hsum : ∀ L : List Int, (∀ s ∈ L, s ∈ rts p f) → ((L.map fun r => (r, paperT p n k' (g r))).map fun q => nds n q.2).sum ≤ (L.map mu).sum * (n + 1) := fun L hL => by
      induction L with
      | nil => exact Nat.zero_le _
      | cons a L ih =>
        have h1 := ih fun s hs => hL s (List.mem_cons_of_mem _ hs)
        have h2 := (key a (hL a (List.mem_cons_self ..))).1
        rw [List.map_cons, List.map_cons, List.sum_cons, List.map_cons, List.sum_cons, Nat.add_mul]
        exact Nat.add_le_add h2 h1
    have h1 := hsum (rts p f) fun _ h => h
    have hm := mult_le hp _ ((rts p f).map fun s => (s, mu s)) f d (Nat.le_refl _) ?_ (fun q hq => ?_) hun hd
    · rw [List.map_map] at hm
      have h2 := Nat.mul_le_mul_right (n + 1) (show ((rts p f).map mu).sum ≤ d from hm)
      show 1 + _ ≤ _
      exact Nat.add_le_add_left (Nat.le_trans h1 h2) 1
    · refine List.pairwise_map.mpr (rn.imp_of_mem fun {a b} ha hb hab hd => hab ?_)
      have h1 := rr a ha
      have h2 := rr b hb
      have := Int.emod_eq_emod_iff_emod_sub_eq_zero.mpr (Int.emod_eq_zero_of_dvd hd)
      rw [Int.emod_eq_of_lt h1.1 h1.2, Int.emod_eq_of_lt h2.1 h2.2] at this
      exact this.symm
    · obtain ⟨s, hs, rfl⟩ := List.mem_map.mp hq
      exact (key s hs).2
theorem fineG {p : Int} {k : Nat} {cs : List Int} (hp : Pr p) (p2 : p < 1024) (k1 : 1 ≤ k) (k7 : k ≤ 64) (hl : cs.length ≤ 30) (hs : Sml 8000 cs) : Fine p k cs := by
  refine ⟨hp, p2, k1, k7, hl, hs, ?_⟩
  by_cases h0 : (tk p k cs).2.2 = 0
  · unfold paperT
    rw [if_pos h0]
    show 1 ≤ _
    decide
  · refine Nat.le_trans (nds_deg hp (k + 1) k cs 30 h0 fun i hi => ?_) (by omega)
    rw [List.getD_eq_getElem?_getD, List.getElem?_eq_none (by rw [tk_len]; omega)]
    exact Int.dvd_zero _
/-! ### a row moved, unbounded -/
def mvF (r s : Int) : Nat → Int → List Int → List Int
  | 0, _, _ => []
  | _ + 1, _, [] => []
  | n + 1, fac, c :: cs => ev (c :: cs) r * fac :: mvF r s n (fac * s) (suf r cs)
theorem mvF_len (r s : Int) : ∀ (n : Nat) (fac : Int) (cs : List Int), cs.length = n → (mvF r s n fac cs).length = n
  | 0, _, [], _ => rfl
  | n + 1, fac, c :: cs, h => by
    show (mvF r s n (fac * s) (suf r cs)).length + 1 = n + 1
    rw [mvF_len r s n (fac * s) (suf r cs) (by rw [suf_len]; simpa using h)]
theorem mvF_ev (r s y : Int) : ∀ (n : Nat) (fac : Int) (cs : List Int), cs.length = n → ev (mvF r s n fac cs) y = fac * ev cs (r + s * y)
  | 0, fac, [], _ => by
    show ev [] y = fac * ev [] _
    rw [ev_nil, ev_nil, Int.mul_zero]
  | n + 1, fac, c :: cs, h => by
    have ih := mvF_ev r s y n (fac * s) (suf r cs) (by rw [suf_len]; simpa using h)
    rw [show mvF r s (n + 1) fac (c :: cs) = ev (c :: cs) r * fac :: mvF r s n (fac * s) (suf r cs) from rfl, ev_cons, ev_suf r (r + s * y) c cs, ih]
    generalize ev (c :: cs) r = e
    generalize ev (suf r cs) (r + s * y) = S
    rw [show r + s * y - r = s * y by omega]
    simp only [Int.mul_add, Int.mul_assoc, Int.mul_comm, Int.mul_left_comm]
    omega
theorem mvF_root {r p : Int} {cs : List Int} (hr : p ∣ ev cs r) : ∀ z ∈ mvF r p cs.length 1 cs, p ∣ z := fun z h => by
  have key : ∀ (n : Nat) (fac : Int) (cs : List Int), p ∣ fac → ∀ z ∈ mvF r p n fac cs, p ∣ z := fun n => by
    induction n with
    | zero => intro _ _ _ z h; cases h
    | succ n ih =>
      intro fac cs hf z h
      cases cs with
      | nil => cases h
      | cons c cs =>
        rcases List.mem_cons.mp h with e | e
        · rw [e]
          exact Int.dvd_mul_of_dvd_right hf
        · exact ih (fac * p) _ (Int.dvd_mul_left _ _) z e
  cases cs with
  | nil => cases h
  | cons c cs =>
    rcases List.mem_cons.mp h with e | e
    · rw [e, Int.mul_one]
      exact hr
    · exact key _ _ _ (Int.dvd_mul_left _ _) z e
/-! ### the test of vanishing: the row by falling products -/
def nwt : Nat → Nat → List Int → List Int
  | 0, _, _ => []
  | _ + 1, _, [] => []
  | n + 1, k, c :: cs => ev (c :: cs) (k : Int) :: nwt n (k + 1) (suf (k : Int) cs)
theorem nwt_len : ∀ (n k : Nat) (cs : List Int), cs.length = n → (nwt n k cs).length = n
  | 0, _, [], _ => rfl
  | n + 1, k, c :: cs, h => by
    show (nwt n (k + 1) (suf k cs)).length + 1 = n + 1
    rw [nwt_len n (k + 1) (suf k cs) (by rw [suf_len]; simpa using h)]
theorem nwt_ev (x : Int) : ∀ (n k : Nat) (cs : List Int), cs.length = n → ev cs x = nest (k : Int) (nwt n k cs) x
  | 0, k, [], _ => rfl
  | n + 1, k, c :: cs, h => by
    have ih := nwt_ev x n (k + 1) (suf k cs) (by rw [suf_len]; simpa using h)
    show _ = ev (c :: cs) k + (x - k) * nestT ((k : Int) + 1) (nwt n (k + 1) (suf k cs)) x 0
    rw [ev_suf (k : Int) x c cs, ih]
    rfl
theorem van_ok {n : Int} {cs : List Int} {r : Option Nat} (h : Bad n (nwt cs.length 0 cs) r) : r.isNone = true ↔ ∀ x : Nat, n ∣ ev cs x := by
  have hl := (Bad.least h).congr (F' := ev cs) fun x => by rw [nwt_ev (x : Int) cs.length 0 cs rfl]; exact Iff.rfl
  cases r with
  | none => exact ⟨fun _ => hl, fun _ => rfl⟩
  | some j => exact ⟨(fun e => by cases e), fun z => absurd (z j) hl.1⟩
theorem ev_per_n (n x : Int) (cs : List Int) : n ∣ ev cs x ↔ n ∣ ev cs (x % n) := by
  have h : ev cs (x % n) % n = ev cs x % n := hv_mod x n cs.reverse
  constructor
  · intro d
    exact Int.dvd_of_emod_eq_zero (by rw [h]; exact Int.emod_eq_zero_of_dvd d)
  · intro d
    exact Int.dvd_of_emod_eq_zero (by rw [← h]; exact Int.emod_eq_zero_of_dvd d)
theorem van_all {n : Int} (hn : 0 < n) {cs : List Int} : (∀ x : Nat, n ∣ ev cs x) ↔ ∀ x : Int, n ∣ ev cs x := by
  refine ⟨fun h x => (ev_per_n n x cs).mpr ?_, fun h x => h x⟩
  have := h (x % n).toNat
  have h0 := Int.emod_nonneg x (show n ≠ 0 by omega)
  rwa [show (((x % n).toNat : Nat) : Int) = x % n by omega] at this
/-! ### members, counted -/
theorem cnt_add (P : Nat → Bool) (a b : Nat) : (List.range (a + b)).countP P = (List.range a).countP P + (List.range b).countP fun x => P (a + x) := by
  rw [List.range_add, List.countP_append, List.countP_map]
  rfl
/-- a condition that comes back after w -/
theorem cnt_per (P : Nat → Bool) (w : Nat) (h : ∀ x, P (w + x) = P x) : ∀ q, (List.range (q * w)).countP P = q * (List.range w).countP P
  | 0 => by simp
  | q + 1 => by
    have hq : ∀ m x, P (m * w + x) = P x := fun m => by
      induction m with
      | zero => intro x; rw [Nat.zero_mul, Nat.zero_add]
      | succ m ih => intro x; rw [Nat.succ_mul, Nat.add_assoc, ih, h]
    rw [Nat.succ_mul, cnt_add, cnt_per P w h q, Nat.succ_mul]
    congr 1
    exact List.countP_congr fun x _ => by rw [hq q x]
/-- the rests modulo p, one by one -/
theorem cnt_split (P : Nat → Bool) (p : Nat) : ∀ M, (List.range (p * M)).countP P = ((List.range p).map fun r => (List.range M).countP fun y => P (r + p * y)).sum
  | 0 => by
    rw [Nat.mul_zero]
    have : ∀ l : List Nat, (l.map fun r => (List.range 0).countP fun y => P (r + p * y)).sum = 0 := fun l => by
      induction l with
      | nil => rfl
      | cons a l ih => rw [List.map_cons, List.sum_cons, ih]; rfl
    rw [this]
    rfl
  | M + 1 => by
    rw [Nat.mul_succ, cnt_add, cnt_split P p M]
    have : ∀ l : List Nat, (l.map fun r => (List.range (M + 1)).countP fun y => P (r + p * y)).sum = (l.map fun r => (List.range M).countP fun y => P (r + p * y)).sum + l.countP fun x => P (p * M + x) := fun l => by
      induction l with
      | nil => rfl
      | cons a l ih =>
        rw [List.map_cons, List.sum_cons, ih, List.map_cons, List.sum_cons, List.range_succ, List.countP_append, List.countP_cons, List.countP_nil, List.countP_cons, Nat.add_comm a (p * M)]
        generalize (if P (p * M + a) = true then 1 else 0) = u
        omega
    rw [this]
def zs (m : Nat) (w : Int) (cs : List Int) : Nat := (List.range m).countP fun x : Nat => decide (ev cs (x : Int) % w = 0)
theorem zs_congr {m : Nat} {w w' : Int} {cs cs' : List Int} (h : ∀ x : Int, ev cs x % w = 0 ↔ ev cs' x % w' = 0) : zs m w cs = zs m w' cs' := List.countP_congr fun x _ => by
  rw [decide_eq_true_iff, decide_eq_true_iff]
  exact h x
theorem ev_shift (w : Int) (cs : List Int) (x y : Int) (h : w ∣ x - y) : ev cs x % w = ev cs y % w := by
  have h1 : ev cs (x % w) % w = ev cs x % w := hv_mod x w cs.reverse
  have h2 : ev cs (y % w) % w = ev cs y % w := hv_mod y w cs.reverse
  rw [← h1, ← h2, Int.emod_eq_emod_iff_emod_sub_eq_zero.mpr (Int.emod_eq_zero_of_dvd h)]
theorem zs_per {q w : Nat} (cs : List Int) : zs (q * w) (w : Int) cs = q * zs w (w : Int) cs :=
  cnt_per _ w (fun x => by
    rw [ev_shift (w : Int) cs ((w + x : Nat) : Int) (x : Int) ⟨1, by omega⟩]) q
/-- a step of the count: p ^ (m + 1) values by the rests that are roots -/
theorem zs_step {p : Nat} (hp : 0 < p) (m : Nat) (f : List Int) : zs (p ^ (m + 1)) ((p ^ (m + 1) : Nat) : Int) f =
    ((List.range p).map fun r : Nat => if ev f (r : Int) % (p : Int) = 0 then zs (p ^ (m + 1)) ((p ^ (m + 1) : Nat) : Int) (mvF r p f.length 1 f) / p else 0).sum := by
  have e1 : zs (p ^ (m + 1)) ((p ^ (m + 1) : Nat) : Int) f = (List.range (p * p ^ m)).countP fun x : Nat => decide (ev f (x : Int) % ((p ^ (m + 1) : Nat) : Int) = 0) := by
    rw [← Nat.pow_succ']
    rfl
  rw [e1, cnt_split]
  congr 1
  refine List.map_congr_left fun r _ => ?_
  have hev : ∀ y : Int, ev (mvF r p f.length 1 f) y = ev f (r + p * y) := fun y => by rw [mvF_ev _ _ _ _ _ _ rfl, Int.one_mul]
  have e2 : (List.range (p ^ m)).countP (fun y => decide (ev f ((r + p * y : Nat) : Int) % ((p ^ (m + 1) : Nat) : Int) = 0)) = (List.range (p ^ m)).countP fun y : Nat => decide (ev (mvF r p f.length 1 f) (y : Int) % ((p ^ (m + 1) : Nat) : Int) = 0) := List.countP_congr fun y _ => by
    rw [hev, Int.natCast_add, Int.natCast_mul]
  rw [e2]
  by_cases hr : ev f (r : Int) % (p : Int) = 0
  · rw [if_pos hr]
    have e3 : zs (p ^ (m + 1)) ((p ^ (m + 1) : Nat) : Int) (mvF r p f.length 1 f) = p * (List.range (p ^ m)).countP fun y : Nat => decide (ev (mvF r p f.length 1 f) (y : Int) % ((p ^ (m + 1) : Nat) : Int) = 0) := by
      unfold zs
      rw [Nat.pow_succ', cnt_per _ (p ^ m) (fun x => by
        rw [hev, hev, ev_shift ((p * p ^ m : Nat) : Int) f _ _ ⟨1, ?_⟩]
        rw [Int.natCast_add, Int.mul_add, Int.natCast_mul]
        omega) p]
    rw [e3, Nat.mul_div_cancel_left _ hp]
  · rw [if_neg hr]
    refine List.countP_eq_zero.mpr fun y _ hy => hr ?_
    have hy := of_decide_eq_true hy
    rw [hev] at hy
    have d := Int.dvd_trans (show (p : Int) ∣ ((p ^ (m + 1) : Nat) : Int) from ⟨((p ^ m : Nat) : Int), by rw [Nat.pow_succ', Int.natCast_mul]⟩) (Int.dvd_of_emod_eq_zero hy)
    rw [← ev_shift (p : Int) f (r + p * (y : Int)) (r : Int) ⟨y, by omega⟩]
    exact Int.emod_eq_zero_of_dvd d

/-- the count of the tree: fuel n -/
def cntT (p : Nat) : Nat → Nat → List Int → Nat
  | 0, k, _ => p ^ k
  | n + 1, k, cs => if (tk p k cs).2.2 = 0 then p ^ k else
      p ^ (tk p k cs).1 * ((List.range p).map fun r : Nat => if ev (tk p k cs).2.1 (r : Int) % (p : Int) = 0 then cntT p n (tk p k cs).2.2 ((mvF r p (tk p k cs).2.1.length 1 (tk p k cs).2.1).map fun z => z % ((p ^ (tk p k cs).2.2 : Nat) : Int)) / p else 0).sum
theorem ev_red (n : Int) (rs : List Int) (x : Int) : ev (rs.map fun z => z % n) x % n = ev rs x % n := by
  have := ev_rest n x rs
  exact Int.emod_eq_emod_iff_emod_sub_eq_zero.mpr (Int.emod_eq_zero_of_dvd this)
theorem cntT_ok {p : Nat} (hp : Pr (p : Int)) : ∀ (n k : Nat) (cs : List Int), k ≤ n → (k = n → n = 0 ∨ ∀ z ∈ cs, (p : Int) ∣ z) → cntT p n k cs = zs (p ^ k) ((p ^ k : Nat) : Int) cs
  | 0, k, cs, hk, _ => by
    have e : k = 0 := by omega
    rw [e]
    unfold zs cntT
    rw [Nat.pow_zero]
    symm
    refine (List.countP_eq_length.mpr fun x _ => decide_eq_true (Int.emod_one _)).trans ?_
    rw [List.length_range]
  | n + 1, k, cs, hk, hd => by
    have hp1 := hp.1
    have hle := tk_le p k cs
    have hev := fun x => tk_ev (p : Int) x k cs
    unfold cntT
    by_cases h0 : (tk p k cs).2.2 = 0
    · rw [if_pos h0]
      unfold zs
      symm
      refine (List.countP_eq_length.mpr fun x _ => decide_eq_true (Int.emod_eq_zero_of_dvd ?_)).trans (by rw [List.length_range])
      rw [hev, show (tk p k cs).1 = k by omega, Int.natCast_pow]
      exact Int.dvd_mul_right _ _
    · rw [if_neg h0]
      have hk1 : (tk p k cs).2.2 ≤ n := by
        by_cases e : k = n + 1
        · have h := (hd e).resolve_left (by omega)
          subst e
          exact tk_less h
        · omega
      generalize (tk p k cs).1 = c at *
      generalize (tk p k cs).2.1 = f at *
      generalize (tk p k cs).2.2 = k' at *
      obtain ⟨m, rfl⟩ : ∃ m, k' = m + 1 := ⟨k' - 1, by omega⟩
      have hpc : (p : Int) ^ c ≠ 0 := Int.pow_ne_zero (by omega)
      have hkc : k = c + (m + 1) := by omega
      have e1 : zs (p ^ k) ((p ^ k : Nat) : Int) cs = p ^ c * zs (p ^ (m + 1)) ((p ^ (m + 1) : Nat) : Int) f := by
        rw [← zs_per, ← Nat.pow_add, ← hkc]
        refine zs_congr fun x => ?_
        have e2 : ((p ^ k : Nat) : Int) = (p : Int) ^ c * ((p ^ (m + 1) : Nat) : Int) := by rw [hkc, Nat.pow_add, Int.natCast_mul, Int.natCast_pow]
        constructor
        · intro h
          have h := Int.dvd_of_emod_eq_zero h
          rw [hev, e2] at h
          exact Int.emod_eq_zero_of_dvd (Int.dvd_of_mul_dvd_mul_left hpc h)
        · intro h
          have h := Int.dvd_of_emod_eq_zero h
          rw [hev, e2]
          exact Int.emod_eq_zero_of_dvd (Int.mul_dvd_mul_left _ h)
      rw [e1, zs_step (by omega) m f]
      congr 2
      refine List.map_congr_left fun r _ => ?_
      by_cases hr : ev f (r : Int) % (p : Int) = 0
      · rw [if_pos hr, if_pos hr, cntT_ok hp n (m + 1) _ hk1 fun e => .inr ?_]
        · congr 1
          refine zs_congr fun x => ?_
          rw [ev_red]
        · intro z hz
          obtain ⟨z0, hz0, rfl⟩ := List.mem_map.mp hz
          have h1 := mvF_root (Int.dvd_of_emod_eq_zero hr) z0 hz0
          rw [Int.emod_def]
          refine Int.dvd_sub h1 (Int.dvd_trans ?_ (Int.dvd_mul_right _ _))
          exact ⟨((p ^ m : Nat) : Int), by rw [Nat.pow_succ', Int.natCast_mul]⟩
      · rw [if_neg hr, if_neg hr]

end Bc
namespace Bc
open PySem PySem.Spec PyProof.Rows L2
/-! ### the classes told, as the law looks at them -/
theorem rc_mem {p : Int} {k : Nat} {cs : List Int} {W : List (Int × Int)} (pm : W.Perm (prs p (RC p k (trim cs)))) {q : Int × Int} (hq : q ∈ W) : ∃ j, (q.1, j) ∈ RC p k (trim cs) ∧ q.2 = p ^ j := by
  have h := (pm.mem_iff (a := q)).mp hq
  unfold prs at h
  obtain ⟨z, hz, e⟩ := List.mem_map.mp h
  refine ⟨z.2, ?_, by rw [← e]⟩
  rw [← e]
  exact hz
theorem rc_one {p : Int} (hp : Pr p) {k : Nat} {cs : List Int} {r : Int} {j : Nat} (h : (r, j) ∈ RC p k (trim cs)) : j ≤ k ∧ 0 ≤ r ∧ r < p ^ j ∧ (∀ y : Int, p ^ k ∣ ev cs (r + p ^ j * y)) ∧ (1 ≤ j → ¬ ∀ y : Int, p ^ k ∣ ev cs (r % p ^ (j - 1) + p ^ (j - 1) * y)) := by
  have hp1 := hp.1
  obtain ⟨_, m, _⟩ := RC_ok hp k (trim cs)
  obtain ⟨⟨wh, mx⟩, r0, r1⟩ := m _ h
  have S : ∀ x, p ^ k ∣ ev (trim cs) x ↔ p ^ k ∣ ev cs x := fun x => by rw [ev_trim]
  have lie : ∀ {q : Int × Nat} {x : Int}, Lie p q x ↔ ∃ y, x = q.1 + p ^ q.2 * y := fun {q x} => by
    constructor
    · rintro ⟨y, hy⟩
      exact ⟨y, by omega⟩
    · rintro ⟨y, hy⟩
      exact ⟨y, by rw [hy]; omega⟩
  have np : 1 ≤ j → ¬ ∀ y : Int, p ^ k ∣ ev cs (r % p ^ (j - 1) + p ^ (j - 1) * y) := fun hj hall => by
    refine (mx.resolve_left (by show j ≠ 0; omega)) fun x hx => ?_
    obtain ⟨y, rfl⟩ := lie.mp hx
    exact (S _).mpr (hall y)
  refine ⟨?_, r0, r1, fun y => (S _).mp (wh _ (lie.mpr ⟨y, rfl⟩)), np⟩
  apply Classical.byContradiction
  intro hjk
  refine np (by omega) fun y => ?_
  have hr := (S r).mp (wh r (Lie.self p (r, j)))
  have hd : p ^ k ∣ r % p ^ (j - 1) + p ^ (j - 1) * y - r := by
    have d1 := pow_dvd_le p (show k ≤ j - 1 by omega)
    have d2 : p ^ (j - 1) ∣ r % p ^ (j - 1) + p ^ (j - 1) * y - r := by
      rw [Int.emod_def]
      exact ⟨y - r / p ^ (j - 1), by rw [Int.mul_sub]; omega⟩
    exact Int.dvd_trans d1 d2
  have := ev_shift (p ^ k) cs _ _ hd
  exact Int.dvd_of_emod_eq_zero (by rw [this]; exact Int.emod_eq_zero_of_dvd hr)
theorem rc_ahead {p : Int} (hp : Pr p) {k : Nat} {cs : List Int} {W : List (Int × Int)} (pm : W.Perm (prs p (RC p k (trim cs)))) (so : (W.map (·.1)).Pairwise (· ≤ ·)) : W.Pairwise fun a b => ¬ (b.1 ≤ a.1 ∨ (b.1 - a.1) % min b.2 a.2 = 0) := by
  have hp1 := hp.1
  obtain ⟨_, m, nd⟩ := RC_ok hp k (trim cs)
  have ndW : (W.map (·.1)).Nodup := by
    refine (pm.map (·.1)).nodup_iff.mpr ?_
    unfold prs
    rw [List.map_map]
    exact nd
  have so2 := List.pairwise_map.mp so
  have nd2 := List.pairwise_map.mp ndW
  refine (so2.and nd2).imp_of_mem ?_
  rintro a b ha hb ⟨hle, hne⟩ (h | h)
  · exact hne (by omega)
  · obtain ⟨s, hs, es⟩ := rc_mem pm ha
    obtain ⟨t, ht, et⟩ := rc_mem pm hb
    have ma := m _ hs
    have mb := m _ ht
    have hd := Int.dvd_of_emod_eq_zero h
    rw [es, et] at hd
    have key : ∀ {i j : Nat}, i ≤ j → p ^ i ≤ p ^ j := fun h => Int.le_of_dvd (Int.pow_pos (by omega)) (pow_dvd_le p h)
    rcases Nat.le_total s t with hst | hst
    · rw [Int.min_eq_right (key hst)] at hd
      have e := mx_uniq ma.1 mb.1 ma.2 mb.2 (x := b.1) hd (Lie.self p _)
      exact hne (by have := congrArg Prod.fst e; exact this)
    · rw [Int.min_eq_left (key hst)] at hd
      have hd2 : Lie p (b.1, t) a.1 := by
        show p ^ t ∣ a.1 - b.1
        have := Int.dvd_neg.mpr hd
        rwa [show -(b.1 - a.1) = a.1 - b.1 by omega] at this
      have e := mx_uniq ma.1 mb.1 ma.2 mb.2 (x := a.1) (Lie.self p _) hd2
      exact hne (by have := congrArg Prod.fst e; exact this)
/-! #### all members, by the classes -/
theorem cnt_lie (p : Nat) (hp : 0 < p) (k j : Nat) (hj : j ≤ k) (r : Int) (r0 : 0 ≤ r) (r1 : r < (p : Int) ^ j) : (List.range (p ^ k)).countP (fun x : Nat => decide ((p : Int) ^ j ∣ (x : Int) - r)) = p ^ (k - j) := by
  have e : p ^ k = p ^ (k - j) * p ^ j := by rw [← Nat.pow_add]; congr 1; omega
  have hpj : (((p ^ j : Nat)) : Int) = (p : Int) ^ j := Int.natCast_pow p j
  rw [e, cnt_per _ (p ^ j) (fun x => ?_)]
  · have h1 : (List.range (p ^ j)).countP (fun x : Nat => decide ((p : Int) ^ j ∣ (x : Int) - r)) = 1 := by
      have h2 : (List.range (p ^ j)).countP (fun x : Nat => decide ((p : Int) ^ j ∣ (x : Int) - r)) = (List.range (p ^ j)).count r.toNat := by
        unfold List.count
        refine List.countP_congr fun x hx => ?_
        have hx := List.mem_range.mp hx
        rw [decide_eq_true_iff, beq_iff_eq]
        constructor
        · intro h
          have := Int.emod_eq_emod_iff_emod_sub_eq_zero.mpr (Int.emod_eq_zero_of_dvd h)
          rw [Int.emod_eq_of_lt (by omega) (by rw [← hpj]; omega), Int.emod_eq_of_lt r0 r1] at this
          omega
        · intro h
          rw [show (x : Int) - r = 0 by omega]
          exact Int.dvd_zero _
      rw [h2, List.nodup_range.count, if_pos (List.mem_range.mpr (by omega))]
    rw [h1, Nat.mul_one]
  · have : ((p : Int) ^ j ∣ ((p ^ j + x : Nat) : Int) - r) ↔ ((p : Int) ^ j ∣ (x : Int) - r) := by
      rw [Int.natCast_add, hpj, Int.add_sub_assoc]
      exact ⟨fun h => by have := Int.dvd_sub h (Int.dvd_refl _); rwa [show (p : Int) ^ j + ((x : Int) - r) - (p : Int) ^ j = (x : Int) - r by omega] at this, fun h => Int.dvd_add (Int.dvd_refl _) h⟩
    rw [decide_eq_decide]
    exact this
theorem cnt_cover {P : Nat → Bool} {α : Type} {C : α → Nat → Bool} : ∀ {F : List α} (l : List Nat), (∀ x, P x = true ↔ ∃ q ∈ F, C q x = true) → F.Pairwise (fun a b => ∀ x, C a x = true → C b x = true → False) → l.countP P = (F.map fun q => l.countP (C q)).sum
  | [], l, h, _ => List.countP_eq_zero.mpr fun x _ hx => by
    obtain ⟨q, hq, _⟩ := (h x).mp hx
    cases hq
  | q :: F, l, h, pw => by
    rw [List.pairwise_cons] at pw
    rw [List.map_cons, List.sum_cons, ← cnt_cover (P := fun x => F.any fun q => C q x) (F := F) l (fun x => by rw [List.any_eq_true]) pw.2]
    induction l with
    | nil => rfl
    | cons a l ih =>
      rw [List.countP_cons, List.countP_cons, List.countP_cons, ih]
      have h1 := h a
      by_cases ha : C q a = true
      · have hn : ¬ (F.any fun q => C q a) = true := fun hz => by
          obtain ⟨b, hb, hb2⟩ := List.any_eq_true.mp hz
          exact pw.1 b hb a ha hb2
        rw [if_pos ha, if_neg hn, if_pos (h1.mpr ⟨q, List.mem_cons_self .., ha⟩)]
        omega
      · rw [if_neg ha]
        by_cases hf : (F.any fun q => C q a) = true
        · obtain ⟨b, hb, hb2⟩ := List.any_eq_true.mp hf
          rw [if_pos hf, if_pos (h1.mpr ⟨b, List.mem_cons_of_mem _ hb, hb2⟩)]
          omega
        · rw [if_neg hf, if_neg fun hz => by
            obtain ⟨b, hb, hb2⟩ := h1.mp hz
            rcases List.mem_cons.mp hb with e | e
            · exact ha (by rw [← e]; exact hb2)
            · exact hf (List.any_eq_true.mpr ⟨b, e, hb2⟩)]
          omega
theorem perm_isum {l m : List Int} (h : l.Perm m) : l.sum = m.sum := by
  induction h with
  | nil => rfl
  | cons x _ ih => rw [List.sum_cons, List.sum_cons, ih]
  | swap x y l =>
    rw [List.sum_cons, List.sum_cons, List.sum_cons, List.sum_cons]
    omega
  | trans _ _ i1 i2 => exact i1.trans i2
theorem rc_total {p : Nat} (hp : Pr (p : Int)) {k : Nat} {cs : List Int} {W : List (Int × Int)} (pm : W.Perm (prs (p : Int) (RC p k (trim cs)))) : ((W.map fun q => ((p ^ k : Nat) : Int) / q.2).sum : Int) = ((zs (p ^ k) ((p ^ k : Nat) : Int) cs : Nat) : Int) := by
  have hp1 := hp.1
  obtain ⟨c, m, nd⟩ := RC_ok hp k (trim cs)
  have e1 : zs (p ^ k) ((p ^ k : Nat) : Int) cs = ((RC (p : Int) k (trim cs)).map fun q => (List.range (p ^ k)).countP fun x : Nat => decide ((p : Int) ^ q.2 ∣ (x : Int) - q.1)).sum := by
    unfold zs
    refine cnt_cover _ (fun x => ?_) ?_
    · rw [decide_eq_true_iff]
      constructor
      · intro h
        have h := Int.dvd_of_emod_eq_zero h
        rw [Int.natCast_pow, ← ev_trim] at h
        obtain ⟨q, hq, hl⟩ := c _ h
        exact ⟨q, hq, decide_eq_true (show (p : Int) ^ q.2 ∣ (x : Int) - q.1 from hl)⟩
      · rintro ⟨q, hq, hl⟩
        have hl : (p : Int) ^ q.2 ∣ (x : Int) - q.1 := of_decide_eq_true hl
        have : (p : Int) ^ k ∣ ev (trim cs) (x : Int) := (m q hq).1.1 _ hl
        rw [ev_trim] at this
        rw [Int.natCast_pow]
        exact Int.emod_eq_zero_of_dvd this
    · refine (List.pairwise_map.mp nd).imp_of_mem fun {a b} ha hb hab x hx hy => hab ?_
      have ma := m a ha
      have mb := m b hb
      have hx : (p : Int) ^ a.2 ∣ (x : Int) - a.1 := of_decide_eq_true hx
      have hy : (p : Int) ^ b.2 ∣ (x : Int) - b.1 := of_decide_eq_true hy
      have e := mx_uniq ma.1 mb.1 ma.2 mb.2 (x := (x : Int)) hx hy
      rw [e]
  have e2 : ((W.map fun q => ((p ^ k : Nat) : Int) / q.2).sum : Int) = (((prs (p : Int) (RC p k (trim cs))).map fun q => ((p ^ k : Nat) : Int) / q.2).sum : Int) := by
    exact perm_isum (pm.map _)
  rw [e1, e2]
  have : ∀ F : List (Int × Nat), (∀ q ∈ F, q ∈ RC (p : Int) k (trim cs)) → (((prs (p : Int) F).map fun q => ((p ^ k : Nat) : Int) / q.2).sum : Int) = ((F.map fun q => (List.range (p ^ k)).countP fun x : Nat => decide ((p : Int) ^ q.2 ∣ (x : Int) - q.1)).sum : Nat) := fun F hF => by
    induction F with
    | nil => rfl
    | cons q F ih =>
      obtain ⟨hj, r0, r1, _⟩ := rc_one (cs := cs) hp (hF q (List.mem_cons_self ..))
      rw [show prs (p : Int) (q :: F) = (q.1, (p : Int) ^ q.2) :: prs p F from rfl, List.map_cons, List.sum_cons, List.map_cons, List.sum_cons, ih fun q hq => hF q (List.mem_cons_of_mem _ hq), cnt_lie p (by omega) k q.2 hj q.1 r0 r1, Int.natCast_add]
      congr 1
      have e : ((p ^ k : Nat) : Int) = (p : Int) ^ q.2 * ((p ^ (k - q.2) : Nat) : Int) := by
        rw [Int.natCast_pow, Int.natCast_pow, ← Int.pow_add]
        congr 1
        omega
      rw [e, Int.mul_ediv_cancel_left _ (Int.pow_ne_zero (by omega))]
  exact this _ fun _ h => h

end Bc
namespace Bc
open PySem PySem.Spec PyProof.Rows L2
/-! ### bits of a row moved -/
theorem ev_bitsR {R : Nat} {r : Int} (hr : r.natAbs < 2 ^ R) {B : Nat} : ∀ {cs : List Int}, Sml B cs → (ev cs r).natAbs < 2 ^ (B + (R + 1) * cs.length)
  | [], _ => by
    rw [ev_nil]
    exact Nat.pow_pos (by decide)
  | c :: cs, h => by
    have ih := ev_bitsR hr (cs := cs) fun z hz => h z (List.mem_cons_of_mem _ hz)
    have hc := h c (List.mem_cons_self ..)
    rw [ev_cons]
    have h1 : (ev cs r * r + c).natAbs ≤ (ev cs r).natAbs * r.natAbs + c.natAbs := by
      have := Int.natAbs_add_le (ev cs r * r) c
      rwa [Int.natAbs_mul] at this
    have h2 : (ev cs r).natAbs * r.natAbs ≤ 2 ^ (B + (R + 1) * cs.length) * 2 ^ R := Nat.mul_le_mul (Nat.le_of_lt ih) (Nat.le_of_lt hr)
    rw [← Nat.pow_add] at h2
    have h3 : 2 ^ B ≤ 2 ^ (B + (R + 1) * cs.length + R) := Nat.pow_le_pow_right (by decide) (by omega)
    have e : 2 ^ (B + (R + 1) * (cs.length + 1)) = 2 * 2 ^ (B + (R + 1) * cs.length + R) := by
      rw [show B + (R + 1) * (cs.length + 1) = B + (R + 1) * cs.length + R + 1 by rw [Nat.mul_succ]; omega, Nat.pow_succ, Nat.mul_comm]
    rw [List.length_cons, e]
    omega
theorem suf_bitsR {R : Nat} {r : Int} (hr : r.natAbs < 2 ^ R) {B : Nat} : ∀ {cs : List Int}, Sml B cs → Sml (B + (R + 1) * cs.length) (suf r cs)
  | [], _, z, hz => by cases hz
  | c :: cs, h, z, hz => by
    rcases List.mem_cons.mp hz with e | e
    · rw [e]
      exact ev_bitsR hr h
    · have := suf_bitsR hr (cs := cs) (fun z hz => h z (List.mem_cons_of_mem _ hz)) z e
      refine Nat.lt_of_lt_of_le this (Nat.pow_le_pow_right (by decide) ?_)
      rw [List.length_cons, Nat.mul_succ]
      omega
theorem mvF_bits {R : Nat} {r s : Int} (hr : r.natAbs < 2 ^ R) (hs : s.natAbs < 2 ^ R) : ∀ (n : Nat) (fac : Int) (cs : List Int) (B F : Nat), cs.length = n → Sml B cs → fac.natAbs ≤ 2 ^ F → Sml (B + F + 2 * (R + 1) * n * n) (mvF r s n fac cs)
  | 0, _, _, _, _, _, _, _, z, hz => by cases hz
  | n + 1, _, [], _, _, h, _, _, z, hz => by cases hz
  | n + 1, fac, c :: cs, B, F, hl, hS, hF, z, hz => by
    have hl : cs.length = n := by simpa using hl
    have e : 2 * (R + 1) * (n + 1) * (n + 1) = 2 * (R + 1) * n * n + 4 * ((R + 1) * n) + 2 * (R + 1) := by
      rw [Nat.mul_succ, Nat.mul_succ, Nat.add_mul, Nat.mul_assoc 2 (R + 1) n]
      omega
    rcases List.mem_cons.mp hz with e1 | e1
    · rw [e1, Int.natAbs_mul]
      have h1 := ev_bitsR hr hS
      rw [List.length_cons, hl, Nat.mul_succ] at h1
      have h2 : (ev (c :: cs) r).natAbs * fac.natAbs ≤ (ev (c :: cs) r).natAbs * 2 ^ F := Nat.mul_le_mul_left _ hF
      have h3 := Nat.mul_lt_mul_of_pos_right h1 (show 0 < 2 ^ F from Nat.pow_pos (by decide))
      rw [← Nat.pow_add] at h3
      refine Nat.lt_of_lt_of_le (Nat.lt_of_le_of_lt h2 h3) (Nat.pow_le_pow_right (by decide) ?_)
      rw [e]
      omega
    · have hS2 := suf_bitsR hr (cs := cs) (fun z hz => hS z (List.mem_cons_of_mem _ hz))
      rw [hl] at hS2
      have hF2 : (fac * s).natAbs ≤ 2 ^ (F + R) := by
        rw [Int.natAbs_mul, Nat.pow_add]
        exact Nat.mul_le_mul hF (Nat.le_of_lt hs)
      have := mvF_bits hr hs n (fac * s) (suf r cs) _ _ (by rw [suf_len, hl]) hS2 hF2 z e1
      refine Nat.lt_of_lt_of_le this (Nat.pow_le_pow_right (by decide) ?_)
      rw [e]
      omega
def spMvR : Sp := fun vs H Q _ => ∃ (l : Addr) (cs : List Int) (r s : Int) (B : Nat), vs = [.ref l, .int r, .int s] ∧ H l = some (.lst (cs.map V.int)) ∧ cs.length ≤ 30 ∧ Sml B cs ∧ B ≤ 8000 ∧ r.natAbs < 2 ^ 62 ∧ s.natAbs < 2 ^ 62 ∧
  ∀ l' H', H l' = none → Same H H' → H' l' = some (.lst ((mvF r s cs.length 1 cs).map V.int)) → Q (.ref l') H'
def spVan : Sp := fun vs H Q _ => ∃ (l : Addr) (cs : List Int) (n : Int) (B : Nat), vs = [.ref l, .int n] ∧ H l = some (.lst (cs.map V.int)) ∧ cs.length ≤ 30 ∧ Sml B cs ∧ B ≤ 200000 ∧ 0 < n ∧ n < 2 ^ 62 ∧
  ∀ b H', Same H H' → (b = true ↔ ∀ x : Int, n ∣ ev cs x) → Q (.bl b) H'
theorem nwt_drop : ∀ (n k : Nat) (cs : List Int) (d : Int) (t : List Int), nwt n k cs = d :: t → ∃ (m : Nat) (c : Int) (ds : List Int), n = m + 1 ∧ cs = c :: ds ∧ d = ev (c :: ds) k ∧ t = nwt m (k + 1) (suf k ds)
  | n + 1, k, c :: cs, d, t, h => by
    have h : ev (c :: cs) (k : Int) :: nwt n (k + 1) (suf (k : Int) cs) = d :: t := h
    injection h with h1 h2
    exact ⟨n, c, cs, rfl, rfl, h1.symm, h2.symm⟩
def spDrow25 : Sp := fun vs H Q _ => ∃ (a : Addr) (p : Int) (k : Nat) (c : Int), vs = [.ref a, .int p, .int (k : Nat)] ∧ 1 < p ∧ p ≤ 101 ∧ 1 ≤ k ∧ k ≤ 60 ∧ p ^ k < 2 ^ 61 ∧ c < 2 ^ 47 ∧ Purse H a c ∧
  ∀ (l : Addr) (rs : List Int) (H' : Hp), Same (rm a H) (rm a H') → Purse H' a (c + 1000) → rm a H' l = some (.lst (rs.map V.int)) → rs.length ≤ 9 → Sml 62 rs → Q (.ref l) H'
def spCntN (n : Nat) : Sp := fun vs H Q _ => ∃ (l : Addr) (cs : List Int) (p k : Nat), vs = [.ref l, .int (p : Nat), .int ((p ^ k : Nat) : Int)] ∧ H l = some (.lst (cs.map V.int)) ∧ cs.length ≤ 30 ∧ Pr (p : Int) ∧ p ≤ 101 ∧ k ≤ n ∧ (k = n → n = 0 ∨ ∀ z ∈ cs, (p : Int) ∣ z) ∧ p ^ k < 2 ^ 61 ∧
  ∀ H', Same H H' → Q (.int ((cntT p n k (cs.map fun z => z % ((p ^ k : Nat) : Int)) : Nat) : Int)) H'
theorem pow_sml {p : Int} (hp : 1 < p) {i k : Nat} (h : i ≤ k) {B : Int} (hb : p ^ k < B) : 0 < p ^ i ∧ p ^ i < B := ⟨Int.pow_pos (by omega), Int.lt_of_le_of_lt (Int.le_of_dvd (Int.pow_pos (by omega)) (pow_dvd_le p h)) hb⟩

end Bc
set_option maxHeartbeats 4000000
open Bc
local macro_rules | `(tactic| walk_at "same0") => `(tactic| first
  | with_reducible exact L2.Same.refl _
  | with_reducible assumption
  | with_reducible exact rm_le
  | with_reducible exact L2.Same.trans rm_le rm_le
  | ((with_reducible refine L2.Same.trans ?_ (by with_reducible assumption)); walk_at "same0")
  | ((with_reducible refine L2.Same.trans ?_ (L2.Same.rm (by with_reducible assumption))); walk_at "same0")
  | ((with_reducible refine L2.Same.trans ?_ (Same.new (by with_reducible assumption))); walk_at "same0")
  | ((with_reducible apply same_rm); (first | with_reducible assumption | ((with_reducible refine L2.Same.trans ?_ (by with_reducible assumption)); walk_at "same0") | ((with_reducible refine L2.Same.trans ?_ (L2.Same.rm (by with_reducible assumption))); walk_at "same0")))
  | ((with_reducible refine L2.Same.rm ?_); walk_at "same0"))
local macro_rules | `(tactic| walk_at "same") => `(tactic| first
  | walk_at "same0"
  | ((with_reducible apply same_rm); walk_at "same0")
  | ((with_reducible apply same_rm); (with_reducible apply same_rm); walk_at "same0"))
local macro_rules | `(tactic| walk_at "hp0") => `(tactic| first
  | with_reducible assumption
  | ((with_reducible apply hpL); (with_reducible assumption); walk_at "same")
  | exact L2.upd_same
  | assumption
  | ((with_reducible apply hpL); assumption; walk_at "same"))
local macro_rules | `(tactic| walk_at "hp") => `(tactic| first
  | with_reducible assumption
  | (exact sq (by walk_at "hp0"))
  | (exact sqt (by walk_at "hp0"))
  | ((with_reducible apply hpL); (with_reducible assumption); walk_at "same")
  | ((with_reducible apply WayAt.same); (with_reducible assumption); walk_at "same")
  | ((with_reducible apply MkAt.same); (with_reducible assumption); walk_at "same")
  | ((with_reducible apply ModAt.same); (with_reducible assumption); walk_at "same")
  | ((with_reducible apply PrL.same); (with_reducible assumption); walk_at "same")
  | ((with_reducible apply TextAt.same); (with_reducible assumption); walk_at "same")
  | ((with_reducible apply Purse.same); (with_reducible assumption); walk_at "same")
  | assumption)
local macro_rules | `(tactic| walk_at "side") => `(tactic| first
  | with_reducible assumption
  | assumption
  | (exact rfl)
  | (refine mx_l ⟨?_, ?_⟩ <;> decide)
  | (refine mx_r ⟨?_, ?_⟩ <;> decide)
  | (refine mx_l ⟨?_, ?_⟩ <;> omega)
  | (refine mx_r ⟨?_, ?_⟩ <;> omega)
  | (refine wdiv60 ?_ ?_ <;> omega)
  | decide
  | omega)
local macro_rules | `(tactic| walk_at "go1") => `(tactic| first
  | ((with_reducible apply w_st); ((simp only [L2.start, List.map_cons, List.map_nil, List.length_cons, List.length_nil, List.cons_append, List.nil_append, List.append_nil, Nat.reduceAdd, Nat.reduceSub, List.reduceReplicate]); exact rfl))
  | with_reducible refine w_seq ?_
  | with_reducible refine w_atV ?_
  | ((with_reducible refine w_nxD ?_); (with_reducible refine w_nx ?_))
  | ((with_reducible refine w_rtD ?_); (with_reducible refine w_rt ?_))
  | ((with_reducible refine w_ctD ?_); (with_reducible refine w_ct ?_))
  | ((with_reducible refine w_bkD ?_); (with_reducible refine w_bk ?_))
  | ((with_reducible apply w_var); (exact rfl))
  | with_reducible refine w_c ?_
  | with_reducible refine w_op ?_
  | with_reducible refine w_cons ?_
  | with_reducible refine w_nil ?_
  | with_reducible refine w_cb ?_
  | ((with_reducible apply w_setN); ((intro _; simp only [List.set_cons_zero, List.set_cons_succ]); exact rfl))
  | with_reducible refine w_set ?_
  | with_reducible refine w_ret ?_
  | with_reducible refine w_if ?_
  | with_reducible refine w_test ?_
  | with_reducible refine w_tB ?_
  | with_reducible refine w_bl ?_
  | with_reducible refine w_I0 ?_
  | ((with_reducible refine w_I ?_ ?_); (first | walk_at "side" | rotate_left))
  | ((with_reducible apply w_ixL); (walk_at "hp"); (exact rfl))
  | ((with_reducible apply w_ixT); (walk_at "hp"); (exact rfl))
  | with_reducible refine w_call ?_
  | with_reducible refine w_next ?_
  | with_reducible refine w_drop ?_
  | with_reducible refine w_retN ?_
  | with_reducible refine w_un ?_
  | with_reducible refine w_U ?_
  | ((with_reducible refine w_eq ?_ ?_); (exact rfl))
  | ((with_reducible refine w_ne ?_ ?_); (exact rfl))
  | with_reducible refine w_and ?_
  | with_reducible refine w_or ?_
  | with_reducible refine w_not ?_
  | with_reducible refine w_andV ?_
  | with_reducible refine w_orV ?_
  | with_reducible refine w_notV ?_
  | with_reducible refine w_ifE ?_
  | with_reducible refine w_tup ?_
  | with_reducible refine w_lst ?_
  | ((with_reducible refine w_andsz ?_ ?_); (exact rfl))
  | with_reducible refine w_par ?_
  | with_reducible refine w_par2 ?_
  | ((with_reducible apply w_aug); (exact rfl))
  | with_reducible refine w_ipI ?_
  | with_reducible refine w_yes ?_
  | with_reducible refine w_chain ?_
  | with_reducible refine w_int1 ?_
  | with_reducible refine w_int1b ?_
  | with_reducible refine w_abs ?_
  | with_reducible refine w_max2 ?_
  | with_reducible refine w_min2 ?_
  | with_reducible refine w_for ?_
  | with_reducible refine w_rng1 ?_
  | with_reducible refine w_rng2 ?_
  | ((with_reducible refine w_rng1i ?_ ?_ ?_); omega; omega)
  | ((with_reducible refine w_rng2i ?_ ?_); omega)
  | with_reducible refine w_iList ?_
  | with_reducible refine w_iTup ?_
  | with_reducible refine w_iAt ?_
  | with_reducible refine w_asg ?_
  | with_reducible refine w_name ?_
  | with_reducible refine w_gsub ?_
  | with_reducible refine w_sl ?_
  | with_reducible refine w_noPart ?_
  | with_reducible refine w_part ?_
  | with_reducible refine w_isI ?_
  | with_reducible refine w_revL ?_
  | with_reducible refine w_isN ?_
  | with_reducible refine w_notN ?_
  | with_reducible refine w_bits ?_
  | with_reducible refine w_gcons ?_
  | with_reducible refine w_gnil ?_
  | with_reducible refine w_fld ?_
  | ((with_reducible apply w_wbase); assumption; (walk_at "hp"))
  | ((with_reducible apply w_wnum); assumption; (walk_at "hp"))
  | ((with_reducible apply w_wmark); assumption; (walk_at "hp"); intro _ _)
  | (((with_reducible apply w_wmod); assumption; (walk_at "hp")); intro _ _)
  | ((with_reducible apply w_mnum); assumption; (walk_at "hp"))
  | (((with_reducible apply w_mfac); assumption; (walk_at "hp")); intro _ _ _ _)
  | ((with_reducible apply w_klow); assumption; (walk_at "hp"))
  | ((with_reducible apply w_kshift); assumption; (walk_at "hp"))
  | ((with_reducible apply w_klead); assumption; (walk_at "hp"))
  | ((with_reducible apply w_setL); (walk_at "hp"); (exact rfl))
  | ((with_reducible apply w_len); (walk_at "hp"))
  | ((with_reducible apply w_lenT); (walk_at "hp"))
  | with_reducible refine while_n ?_
  | with_reducible refine while_nm ?_
  | with_reducible refine w_cO ?_
  | with_reducible refine w_m1 ?_
  | with_reducible refine w_isStr ?_
  | ((with_reducible apply w_tyL); (walk_at "hp"))
  | with_reducible refine w_makeK ?_
  | with_reducible refine w_callN ?_
  | ((with_reducible apply w_gtup); (walk_at "hp"); (exact rfl))
  | ((with_reducible apply w_unl); (walk_at "hp"); (exact rfl))
  | with_reducible refine w_sfld ?_
  | with_reducible refine w_make ?_
  | with_reducible refine w_meth ?_
  | with_reducible refine w_iEnum ?_
  | with_reducible refine w_lc ?_
  | with_reducible refine w_iStr ?_
  | with_reducible refine w_isS ?_
  | with_reducible refine w_leS ?_
  | with_reducible refine w_ord ?_
  | ((with_reducible apply w_iL); (walk_at "hp"))
  | ((with_reducible apply w_iT); (walk_at "hp"))
  | with_reducible refine w_bm ?_
  | with_reducible refine w_callX ?_
  | with_reducible refine w_mkO ?_
  | with_reducible refine w_xf ?_
  | with_reducible refine w_lstRg ?_
  | with_reducible refine w_rg1 ?_
  | with_reducible refine w_rg2 ?_
  | with_reducible refine w_rg2i ?_
  | ((with_reducible refine w_rgok ?_ ?_); omega)
  | with_reducible refine w_dnew ?_
  | with_reducible refine w_isB ?_
  | with_reducible refine w_strB ?_
  | with_reducible refine w_iRng3 ?_
  | with_reducible refine w_lstB ?_
  | with_reducible refine w_iZip ?_
  | ((with_reducible apply w_zipi); (walk_at "hp"); (walk_at "hp"))
  | with_reducible refine w_methK ?_
  | with_reducible refine w_cOK ?_
  | with_reducible refine w_makeX ?_
  | with_reducible refine w_makeKS ?_
  | with_reducible refine w_methX ?_
  | with_reducible refine w_mkV ?_
  | with_reducible refine w_rev0 ?_
  | with_reducible refine w_xk ?_
  | with_reducible refine w_lenSet ?_
  | with_reducible refine w_cOX ?_
  | with_reducible refine w_bm0 ?_)
local macro_rules | `(tactic| walk_at "go") => `(tactic| repeat (walk_at "go1"))
local macro_rules | `(tactic| walk_at "goI") => `(tactic| repeat ((fail_if_success (with_reducible refine w_if ?_)); walk_at "go1"))
namespace Lw
open PySem PySem.Spec PyProof.Rows L2 Bc C8
def top (i : Nat) : Stmt := PySem.Challenge.pw_baseclash_k25_widest_classes_of_great_po.main.body.getD i (.Pass ⟨0, 0, 0, 0⟩)
section
variable {P : Program} {w : World} {K : PySem.W.Frag} {mg : Str → Option Value} {base : Heap}

abbrev s_isint : Stmt := (top 6)
theorem sc_isint : FnScope ["thing"] ["thing"] (defScope s_isint) :=
  ⟨rfl, rfl, rfl, by decide +kernel, rfl, by decide +kernel, by decide +kernel⟩
theorem ok_isint (F : Dn K mg "is_integer" s_isint ["thing"]) (T : Bt mg) : Cal P w K mg base 1 "is_integer" (spIsInt K) [] := by
  refine F.cal sc_isint (fun vs H Q E h => ?_) (fun f cdv A outer s H vs Q E hr h => ?_)
  · obtain ⟨v, t, b1, b2, rfl, _⟩ := h
    rfl
  · obtain ⟨v, t, b1, b2, rfl, ty, k1, k2, q⟩ := h
    refine ⟨_, (pss_one (ps_ret (pe_and (pe_callB call_isi (by rfl) T.isinstance (by decide +kernel) (pa_cons (pv 0) (pa_cons (pe_bltn (v := .ty "int") (by rfl) T.int (by decide +kernel) rfl) pa_nil))) (pe_one (pe_not (pe_callB call_isi (by rfl) T.isinstance (by decide +kernel) (pa_cons (pv 0) (pa_cons (pe_bltn (v := .ty "bool") (by rfl) T.bool (by decide +kernel) rfl) pa_nil)))))))), ?_⟩
    walk_at "go"
    refine w_isi ty k1 ?_
    walk_at "go"
    cases b1 with
    | false => exact iteF q
    | true =>
      refine iteT ?_
      walk_at "go"
      refine w_isi ty k2 ?_
      walk_at "go"
      exact q
abbrev s_raised : Stmt := (top 7)
theorem sc_raised : FnScope ["factor", "power", "found", "turn"] ["factor", "power"] (defScope s_raised) :=
  ⟨rfl, rfl, rfl, by decide +kernel, rfl, by decide +kernel, by decide +kernel⟩
theorem ok_raised (F : Dn K mg "raised" s_raised ["factor", "power"]) (T : Bt mg) : Cal P w K mg base 1 "raised" spRaised [] := by
  refine F.cal sc_raised (fun vs H Q E h => ?_) (fun f cdv A outer s H vs Q E hr h => ?_)
  · obtain ⟨g, p, b, rfl, _⟩ := h
    rfl
  · obtain ⟨g, p, b, rfl, p0, p1, gb, hb, q⟩ := h
    refine ⟨_, (pss_cons (ps_set (i := 2) sc_raised.nd rfl (Or.inl rfl) pe_int)
      (pss_cons (ps_for PassesOwn.never rfl (pi_range1 (by rfl) T.range (pa_cons (pv 1) pa_nil)) (pg_name (i := 3) sc_raised.nd rfl (Or.inl rfl)) (pss_one (ps_set (i := 2) sc_raised.nd rfl (Or.inl rfl) (pe_op oMul (pv 2) (pv 0)))))
      (pss_one (ps_ret (pv 2))))), ?_⟩
    walk_at "go"
    refine for_range (lo := 0) (n := p.toNat) (fun i σ H' => ∃ (u : Option V), σ = [some (.int g), some (.int p), some (.int (g ^ i)), u] ∧ H' = H)
      ⟨none, by rw [Int.pow_zero], rfl⟩ ?_ ?_
    · rintro i σ H' hi ⟨u, rfl, rfl⟩
      walk_at "go"
      · exact ⟨_, by rw [Int.pow_succ], rfl⟩
      · refine mx_w (natAbs_pow_lt gb i) gb ?_
        have h1 : b * i ≤ b * p.toNat := Nat.mul_le_mul_left b (by omega)
        omega
    · rintro σ H' ⟨u, rfl, rfl⟩
      walk_at "go"
      exact q
abbrev s_prime : Stmt := (top 9)
theorem sc_prime : FnScope ["number", "divisor"] ["number"] (defScope s_prime) :=
  ⟨rfl, rfl, rfl, by decide +kernel, rfl, by decide +kernel, by decide +kernel⟩
theorem ok_prime (F : Dn K mg "is_prime_number" s_prime ["number"]) (T : Bt mg) : Cal P w K mg base 1 "is_prime_number" spPrime [] := by
  refine F.cal sc_prime (fun vs H Q E h => ?_) (fun f cdv A outer s H vs Q E hr h => ?_)
  · obtain ⟨n, rfl, _⟩ := h
    rfl
  · obtain ⟨n, rfl, n1, q⟩ := h
    refine ⟨_, (pss_cons (ps_set (i := 1) sc_prime.nd rfl (Or.inl rfl) pe_int)
      (pss_cons (ps_while PassesOwn.never (pt_cmpR op_le (pe_op oMul (pv 1) (pv 1)) (pv 0) (nomark _)) (pss_cons (ps_if (pt_cmpR op_eq (pe_op op_mod (pv 0) (pv 1)) pe_int (nomark _)) (pss_one (ps_ret pe_bl)) pss_nil)
      (pss_one (ps_aug (i := 1) sc_prime.nd rfl (Or.inl rfl) pe_int ip_add))))
      (pss_one (ps_ret (pe_cmpR op_gt (pv 0) pe_int (nomark _)))))), ?_⟩
    walk_at "go"
    refine while_go (fun σ H' => ∃ d : Int, σ = [some (.int n), some (.int d)] ∧ 2 ≤ d ∧ d ≤ 2 ^ 31 ∧ (∀ e : Int, 2 ≤ e → e < d → n % e ≠ 0) ∧ H' = H) (fun σ _ => match σ with | [_, some (.int d)] => (2 ^ 31 - d).toNat | _ => 0)
      ⟨2, rfl, by decide, by decide, fun e h1 h2 => by omega, rfl⟩ ?_
    rintro σ H' ⟨d, rfl, d2, d3, hd, rfl⟩
    walk_at "go"
    refine ite_d (fun h => ?_) (fun h => ?_)
    · have hd30 : d < 2 ^ 31 - 1 := by
        refine Int.not_le.mp fun z => ?_
        have h4 : (2 ^ 31 - 1) * (2 ^ 31 - 1) ≤ d * d := Int.mul_le_mul z z (by decide) (by omega)
        omega
      walk_at "go"
      refine ite_d (fun h2 => ?_) (fun h2 => ?_)
      · walk_at "go"
        have e0 : n % d = 0 := by injection h2
        exact q false ⟨(fun z => by cases z), fun z => absurd e0 (z.2 d d2 h)⟩
      · walk_at "go"
        have e0 : n % d ≠ 0 := fun z => h2 (by rw [z])
        refine ⟨?_, d + 1, rfl, by omega, by omega, fun e h3 h4 => ?_, rfl⟩
        · show (2 ^ 31 - (d + 1)).toNat < (2 ^ 31 - d).toNat
          omega
        · by_cases h5 : e = d
          · rw [h5]; exact e0
          · exact hd e h3 (by omega)
    · walk_at "go"
      refine q _ ?_
      rw [decide_eq_true_iff]
      refine ⟨fun z => ⟨z, fun e h1 h2 => ?_⟩, fun z => z.1⟩
      by_cases h5 : e < d
      · exact hd e h1 h5
      · exfalso
        have h4 : d * d ≤ e * e := Int.mul_le_mul (by omega) (by omega) (by omega) (by omega)
        omega

abbrev s_mixed : Stmt := (top 30)
theorem sc_mixed : FnScope ["_law_cell", "_law_k", "_law_stirred"] ["_law_cell", "_law_k"] (defScope s_mixed) :=
  ⟨rfl, rfl, rfl, by decide +kernel, rfl, by decide +kernel, by decide +kernel⟩
theorem ok_mixed (F : Dn K mg "_law_mixed" s_mixed ["_law_cell", "_law_k"]) (T : Bt mg) : Cal P w K mg base 1 "_law_mixed" spMixed [] := by
  refine F.cal sc_mixed (fun vs H Q E h => ?_) (fun f cdv A outer s H vs Q E hr h => ?_)
  · obtain ⟨a, b, rfl, _⟩ := h
    rfl
  · obtain ⟨a, b, rfl, a0, a1, b0, b1, k⟩ := h
    refine ⟨_, (pss_cons (ps_set (i := 2) sc_mixed.nd rfl (Or.inl rfl) (pe_op op_mod (pe_callTy cInt1 (by rfl) T.int (by decide +kernel) (pa_cons (pe_op op_add (pe_op op_add (pe_op op_add (pe_op oMul (pv 0) pe_int) (pe_op oMul (pe_op oMul pe_int (pv 1)) (pv 1))) (pe_op oMul pe_int (pv 1))) pe_int) pa_nil)) pe_int))
      (pss_one (ps_ret (pe_op op_fdivW (pe_op op_mod (pe_callTy cInt1 (by rfl) T.int (by decide +kernel) (pa_cons (pe_op op_add (pe_op op_add (pe_op oMul (pv 2) (pv 2)) (pe_op oMul pe_int (pv 2))) pe_int) pa_nil)) pe_int) pe_int)))), ?_⟩
    walk_at "go"
    · exact k _ (by omega) (by omega)
abbrev s_purse : Stmt := (top 31)
theorem sc_purse : FnScope ["_law_cells", "_law_at", "_law_cell"] ["_law_cells", "_law_at"] (defScope s_purse) :=
  ⟨rfl, rfl, rfl, by decide +kernel, rfl, by decide +kernel, by decide +kernel⟩
theorem ok_purse (F : Dn K mg "_law_purse" s_purse ["_law_cells", "_law_at"]) (T : Bt mg) : Cal P w K mg base 1 "_law_purse" (spPurse K) [] := by
  refine F.cal sc_purse (fun vs H Q E h => ?_) (fun f cdv A outer s H vs Q E hr h => ?_)
  · obtain ⟨a, ns, i, rfl, _⟩ := h
    rfl
  · obtain ⟨a, ns, i, rfl, hS, i0, hl, k⟩ := h
    have e1 : CPowW 10 18 := ⟨by decide, by decide +kernel⟩
    have e2 : CPowW 10 60 := ⟨by decide, by decide +kernel⟩
    have e3 : CPowW (10 ^ Int.toNat 60) 8 := ⟨by decide, by decide +kernel⟩
    have e4 : (0 : Int) < (10 ^ Int.toNat 60) ^ Int.toNat 8 := by decide +kernel
    have e5 : ((10 : Int) ^ Int.toNat 60) ^ Int.toNat 8 < 2 ^ 1600 := by decide +kernel
    generalize e6 : ((10 : Int) ^ Int.toNat 60) ^ Int.toNat 8 = g at e4 e5
    have fin : ∀ c : Int, Q = Q → ∀ p, H p = none → Q (.ref p) (upd H p (.lst [.int ((if 0 > c - 10 ^ Int.toNat 18 then 0 else c - 10 ^ Int.toNat 18) % g), .int (c % 2147483647), .int (1000 * i)])) := fun c _ p np =>
      k p _ np (Same.new np) ⟨_, _, _, upd_same, Int.emod_nonneg _ (by omega), Int.lt_trans (Int.emod_lt_of_pos _ e4) e5, by omega, by omega, by omega, by omega⟩
    refine ⟨_, (pss_cons (ps_set (i := 2) sc_purse.nd rfl (Or.inl rfl) pe_int)
      (pss_cons (ps_if (pt_cmpR op_lt (pv 1) (pe_callB cLen (by rfl) T.len (by decide +kernel) (pa_cons (pv 0) pa_nil)) (nomark _)) (pss_one (ps_set (i := 2) sc_purse.nd rfl (Or.inl rfl) (pe_ix ix_list (pv 0) (pv 1) (fun _ _ => rfl)))) pss_nil)
      (pss_one (ps_ret (pe_lst (pa_cons (pe_op op_mod (pe_callTy cInt1 (by rfl) T.int (by decide +kernel) (pa_cons (pe_callB (cMax2 rfl) (by rfl) T.max (by decide +kernel) (pa_cons (pe_op op_sub (pv 2) (pe_op oPowW pe_int pe_int)) (pa_cons pe_int pa_nil))) pa_nil)) (pe_op oPowW (pe_op oPowW pe_int pe_int) pe_int)) (pa_cons (pe_op op_mod (pe_callTy cInt1 (by rfl) T.int (by decide +kernel) (pa_cons (pv 2) pa_nil)) pe_int) (pa_cons (pe_op oMul pe_int (pv 1)) pa_nil)))))))), ?_⟩
    walk_at "go"
    refine ite_d (fun h => ?_) (fun h => ?_)
    · walk_at "go"
      refine w_ixL hS (atI_ints i0 h) ?_
      walk_at "go"
      rw [e6]
      exact fin _ rfl
    · walk_at "go"
      rw [e6]
      exact fin _ rfl
abbrev s_draw : Stmt := (top 32)
theorem sc_draw : FnScope ["_law_purse_here", "_law_out_of", "_law_drawn"] ["_law_purse_here", "_law_out_of"] (defScope s_draw) :=
  ⟨rfl, rfl, rfl, by decide +kernel, rfl, by decide +kernel, by decide +kernel⟩
theorem ok_draw (F : Dn K mg "_law_draw" s_draw ["_law_purse_here", "_law_out_of"]) (T : Bt mg) (c_mixed : Cal P w K mg base 1 "_law_mixed" spMixed []) : Cal P w K mg base 2 "_law_draw" spDraw [] := by
  refine F.cal sc_draw (fun vs H Q E h => ?_) (fun f cdv A outer s H vs Q E hr h => ?_)
  · obtain ⟨a, n, c, rfl, _⟩ := h
    rfl
  · obtain ⟨a, n, c, rfl, n0, n1, hc, ⟨x, y, z, hp, x0, x1, y0, y1, z0, z1⟩, k⟩ := h
    refine ⟨_, (pss_cons (ps_if (pt_cmpR op_gt (pe_ix ix_list (pv 0) pe_int (fun _ _ => rfl)) pe_int (nomark _)) (pss_cons (ps_set (i := 2) sc_draw.nd rfl (Or.inl rfl) (pe_op op_mod (pe_callTy cInt1 (by rfl) T.int (by decide +kernel) (pa_cons (pe_ix ix_list (pv 0) pe_int (fun _ _ => rfl)) pa_nil)) (pv 1)))
      (pss_cons (ps_asg (pe_op op_fdivW (pe_ix ix_list (pv 0) pe_int (fun _ _ => rfl)) (pv 1)) (pg_sub (pv 0) pe_int set_list))
      (pss_one (ps_ret (pv 2))))) pss_nil)
      (pss_cons (ps_asg (pe_op op_add (pe_ix ix_list (pv 0) pe_int (fun _ _ => rfl)) pe_int) (pg_sub (pv 0) pe_int set_list))
      (pss_one (ps_ret (pe_op op_mod (pe_callTy cInt1 (by rfl) T.int (by decide +kernel) (pa_cons (pe_c c_mixed hr (by decide) (by rfl) (pa_cons (pe_ix ix_list (pv 0) pe_int (fun _ _ => rfl)) (pa_cons (pe_ix ix_list (pv 0) pe_int (fun _ _ => rfl)) pa_nil))) pa_nil)) (pv 1)))))), ?_⟩
    walk_at "go"
    refine ite_d (fun h => ?_) (fun h => ?_)
    · walk_at "go"
      exact k _ _ (Int.emod_nonneg _ (by omega)) (Int.emod_lt_of_pos _ n0) Keep.refl.upd ⟨_, _, _, upd_same, Int.ediv_nonneg x0 (by omega), Int.lt_of_le_of_lt (Int.ediv_le_self _ x0) x1, y0, y1, z0, by omega⟩
    · walk_at "go"
      refine ⟨_, _, rfl, y0, y1, (by omega), (by omega), fun r r0 r1 => ?_⟩
      walk_at "go"
      exact k _ _ (Int.emod_nonneg _ (by omega)) (Int.emod_lt_of_pos _ n0) Keep.refl.upd ⟨_, _, _, upd_same, x0, x1, y0, y1, by omega, by omega⟩
abbrev s_great : Stmt := (top 33)
theorem sc_great : FnScope ["_law_purse_here", "_law_figures", "_law_found", "_law_turn"] ["_law_purse_here", "_law_figures"] (defScope s_great) :=
  ⟨rfl, rfl, rfl, by decide +kernel, rfl, by decide +kernel, by decide +kernel⟩
theorem ok_great (F : Dn K mg "_law_great" s_great ["_law_purse_here", "_law_figures"]) (T : Bt mg) (c_draw : Cal P w K mg base 2 "_law_draw" spDraw []) : Cal P w K mg base 3 "_law_great" spGreat [] := by
  refine F.cal sc_great (fun vs H Q E h => ?_) (fun f cdv A outer s H vs Q E hr h => ?_)
  · obtain ⟨a, n, c, rfl, _⟩ := h
    rfl
  · obtain ⟨a, n, c, rfl, n0, n1, hc, p, k⟩ := h
    refine ⟨_, (pss_cons (ps_set (i := 2) sc_great.nd rfl (Or.inl rfl) pe_int)
      (pss_cons (ps_for PassesOwn.never rfl (pi_range1 (by rfl) T.range (pa_cons (pv 1) pa_nil)) (pg_name (i := 3) sc_great.nd rfl (Or.inl rfl)) (pss_one (ps_set (i := 2) sc_great.nd rfl (Or.inl rfl) (pe_op op_add (pe_op oMul pe_int (pv 2)) (pe_c c_draw hr (by decide) (by rfl) (pa_cons (pv 0) (pa_cons pe_int pa_nil)))))))
      (pss_one (ps_ret (pv 2))))), ?_⟩
    walk_at "go"
    refine for_range (lo := 0) (n := n.toNat) (fun i σ H' => ∃ (v : Int) (u : Option V), σ = [some (.ref a), some (.int n), some (.int v), u] ∧ 0 ≤ v ∧ v < 10 ^ i ∧ Keep a H H' ∧ Purse H' a (c + i))
      ⟨0, none, rfl, by decide, by decide, Keep.refl, p.le (by omega)⟩ ?_ ?_
    · rintro i σ H' hi ⟨v, u, rfl, v0, v1, kp, pu⟩
      walk_at "go"
      refine use_draw pu (by decide) (by decide) (by omega) (fun r H2 r0 r1 k2 p2 => ?_)
      walk_at "go"
      refine ⟨_, _, rfl, by omega, ?_, kp.trans k2, p2.le (by omega)⟩
      rw [Int.pow_succ]
      omega
    · rintro σ H' ⟨v, u, rfl, v0, v1, kp, pu⟩
      walk_at "go"
      exact k _ _ v0 v1 kp (pu.le (by omega))

abbrev s_inverse : Stmt := (top 8)
theorem sc_inverse : FnScope ["unit", "number", "one", "other", "first", "second", "times"] ["unit", "number"] (defScope s_inverse) :=
  ⟨rfl, rfl, rfl, by decide +kernel, rfl, by decide +kernel, by decide +kernel⟩
theorem ok_inverse (F : Dn K mg "inverse" s_inverse ["unit", "number"]) (T : Bt mg) : Cal P w K mg base 1 "inverse" spInverse [] := by
  refine F.cal sc_inverse (fun vs H Q E h => ?_) (fun f cdv A outer s H vs Q E hr h => ?_)
  · obtain ⟨u, n, rfl, _⟩ := h
    rfl
  · obtain ⟨u, n, rfl, hn, hb, hg, q⟩ := h
    refine ⟨_, (pss_cons (ps_par (i := 2) (j := 3) (by rfl) sc_inverse.nd rfl rfl (by decide) rfl rfl (pa_cons (pv 1) (pa_cons (pe_op op_mod (pv 0) (pv 1)) pa_nil)) (by rfl))
      (pss_cons (ps_asg (pe_tup (pa_cons pe_int (pa_cons pe_int pa_nil))) (pg_tup rfl (pgs_cons (pg_name (i := 4) sc_inverse.nd rfl (Or.inl rfl)) (pgs_cons (pg_name (i := 5) sc_inverse.nd rfl (Or.inl rfl)) pgs_nil))))
      (pss_cons (ps_while PassesOwn.never (pt_cmpR op_ne (pv 3) pe_int (nomark _)) (pss_cons (ps_set (i := 6) sc_inverse.nd rfl (Or.inl rfl) (pe_op op_fdivW (pv 2) (pv 3)))
      (pss_cons (ps_par (i := 2) (j := 3) (by rfl) sc_inverse.nd rfl rfl (by decide) rfl rfl (pa_cons (pv 3) (pa_cons (pe_op op_sub (pv 2) (pe_op oMul (pv 6) (pv 3))) pa_nil)) (by rfl))
      (pss_one (ps_par (i := 4) (j := 5) (by rfl) sc_inverse.nd rfl rfl (by decide) rfl rfl (pa_cons (pv 5) (pa_cons (pe_op op_sub (pv 4) (pe_op oMul (pv 6) (pv 5))) pa_nil)) (by rfl))))))
      (pss_one (ps_ret (pe_op op_mod (pv 4) (pv 1))))))), ?_⟩
    walk_at "go"
    refine al fun p0 H1 n1 s1 h1 => ?_
    walk_at "go"
    have h00 := Int.emod_lt_of_pos u hn
    refine while_m (fun m σ H' => ∃ (one other first second : Int) (v : Option V), σ = [some (.int u), some (.int n), some (.int one), some (.int other), some (.int first), some (.int second), v] ∧ H' = H1 ∧ InvOk u n one other first second ∧ one ≤ n ∧ other ≤ n ∧ 0 < one ∧ m = other.toNat) _ ⟨n, u % n, 0, 1, none, rfl, rfl, InvOk.start hn, Int.le_refl _, by omega, hn, rfl⟩ ?_
    rintro m σ H' ⟨one, other, first, second, v, rfl, rfl, hI, hon, hot, hop, rfl⟩
    walk_at "go"
    refine ite_nd (fun h2 => ?_) (fun h2 => ?_)
    · have ho : 0 < other := by
        have := hI.2.1
        have : other ≠ 0 := fun z => h2 (by rw [z])
        omega
      obtain ⟨l1, l2, l3, l4⟩ := hI.le hn ho
      have l2 := l2 hop
      have hN := hI.step hn ho
      have hr1 := Int.emod_lt_of_pos one ho
      have hr : one - one / other * other = one % other := by
        have := Int.mul_ediv_add_emod one other
        rw [Int.mul_comm] at this
        omega
      have hd : CDivW one other := wdiv (b := 8000) ho (by omega) (by decide)
      have m1 : CMx (one / other) other := mx_w (a := 8000) (b := 8000) (by omega) (by omega) (by decide)
      have m2 : CMx (one / other) second := mx_w (a := 8000) (b := 8000) (by omega) (by omega) (by decide)
      walk_at "go"
      refine ⟨_, ?_, _, _, _, _, _, rfl, rfl, hN, hot, by omega, ho, rfl⟩
      have := hI.2.1
      omega
    · have hz : other = 0 := by injection h2
      subst hz
      walk_at "go"
      exact q _ _ s1 (Int.emod_nonneg _ (by omega)) (Int.emod_lt_of_pos _ hn) (hI.done hn hg)
abbrev s_invco : Stmt := (inClass (top 2) 0)
theorem sc_invco : FnScope ["self", "place"] ["self", "place"] (defScope s_invco) :=
  ⟨rfl, rfl, rfl, by decide +kernel, rfl, by decide +kernel, by decide +kernel⟩
theorem ok_invco {C f : Addr} {fd : FuncData} (F : FunD K "__init__" "InvalidCoefficients.__init__" (defArgs s_invco) (defBody s_invco) (defScope s_invco) [] [] f fd) (T : Bt mg) (hC : OexC K C) (hf : PySem.W.findIn K (.ref C) "place" = some none) : FnOk P w K mg base L2.CX0 1 f fd ["self", "place"] (spErr C "place") := by
  refine fnD_ok F sc_invco (fun vs H Q E h => ?_) (fun cdv A outer s H vs Q E hr h => ?_)
  · obtain ⟨a, v, rfl, _⟩ := h
    rfl
  · obtain ⟨a, v, rfl, ha, q⟩ := h
    refine ⟨_, (pss_one (ps_ost (pv 0) (pv 1))), ?_⟩
    walk_at "go"
    exact ⟨v, rfl, .ref a, rfl, a, C, rfl, hC, hf, .inl ⟨ha, q⟩⟩
abbrev s_invpr : Stmt := (inClass (top 3) 0)
theorem sc_invpr : FnScope ["self", "prime"] ["self", "prime"] (defScope s_invpr) :=
  ⟨rfl, rfl, rfl, by decide +kernel, rfl, by decide +kernel, by decide +kernel⟩
theorem ok_invpr {C f : Addr} {fd : FuncData} (F : FunD K "__init__" "InvalidPrime.__init__" (defArgs s_invpr) (defBody s_invpr) (defScope s_invpr) [] [] f fd) (T : Bt mg) (hC : OexC K C) (hf : PySem.W.findIn K (.ref C) "prime" = some none) : FnOk P w K mg base L2.CX0 1 f fd ["self", "prime"] (spErr C "prime") := by
  refine fnD_ok F sc_invpr (fun vs H Q E h => ?_) (fun cdv A outer s H vs Q E hr h => ?_)
  · obtain ⟨a, v, rfl, _⟩ := h
    rfl
  · obtain ⟨a, v, rfl, ha, q⟩ := h
    refine ⟨_, (pss_one (ps_ost (pv 0) (pv 1))), ?_⟩
    walk_at "go"
    exact ⟨v, rfl, .ref a, rfl, a, C, rfl, hC, hf, .inl ⟨ha, q⟩⟩
abbrev s_reqprx : Stmt := (top 11)
theorem sc_reqprx : FnScope ["prime"] ["prime"] (defScope s_reqprx) :=
  ⟨rfl, rfl, rfl, by decide +kernel, rfl, by decide +kernel, by decide +kernel⟩
theorem ok_reqprx {Cp : Addr} (F : Dn K mg "require_prime" s_reqprx ["prime"]) (T : Bt mg) (c_isint : Cal P w K mg base 1 "is_integer" (spIsInt K) []) (c_prime : Cal P w K mg base 1 "is_prime_number" spPrime []) (c_invpr : Err P w K mg base 1 "InvalidPrime" Cp "prime") : CalX P w K mg base 3 "require_prime" (spReqPr K Cp) [] := by
  refine F.calX sc_reqprx (fun vs H Q E h => ?_) (fun f cdv A outer s H vs Q E hr h => ?_)
  · obtain ⟨v, rfl, _⟩ := h
    rfl
  · obtain ⟨v, rfl, h⟩ := h
    refine ⟨_, (pss_one (ps_if (PW.pt (pw_or (pt_not (pt_val (pe_c c_isint hr (by decide) (by rfl) (pa_cons (pv 0) pa_nil)))) (pw_or1 (pt_not (pt_val (pe_c c_prime hr (by decide) (by rfl) (pa_cons (pv 0) pa_nil))))))) (pss_one (ps_rse c_invpr rfl hr (by decide) (takes_of rfl rfl rfl rfl) (by rfl) (pa_cons (pv 0) pa_nil))) pss_nil)), ?_⟩
    walk_at "go"
    rcases h with ⟨n, rfl, hn, hp, k⟩ | ⟨pb, er⟩
    · refine ⟨.int n, _, true, false, rfl, ty_int n, kit_ty (by decide +kernel), kit_ty (by decide +kernel), ?_⟩
      walk_at "go"
      refine iteF ?_
      walk_at "go"
      refine ⟨n, rfl, hn, fun b hb => ?_⟩
      rw [hb.mpr hp]
      walk_at "go"
      refine iteF ?_
      walk_at "go"
      exact k
    · cases pb with
      | oth h =>
        obtain ⟨t, b1, b2, ty, k1, k2, e⟩ := h
        refine ⟨v, t, b1, b2, rfl, ty, k1, k2, ?_⟩
        rw [← e]
        walk_at "go"
        refine iteT ?_
        refine iteT ?_
        walk_at "go"
        exact w_fly er
      | int n hn hp =>
        refine ⟨.int n, _, true, false, rfl, ty_int n, kit_ty (by decide +kernel), kit_ty (by decide +kernel), ?_⟩
        walk_at "go"
        refine iteF ?_
        walk_at "go"
        refine ⟨n, rfl, hn, fun b hb => ?_⟩
        have hb' : b = false := by
          cases b with
          | false => rfl
          | true => exact absurd (hb.mp rfl) hp
        rw [hb']
        walk_at "go"
        refine iteT ?_
        walk_at "go"
        exact w_fly er

abbrev s_trimx : Stmt := (top 14)
theorem sc_trimx : FnScope ["coefficients", "end"] ["coefficients"] (defScope s_trimx) :=
  ⟨rfl, rfl, rfl, by decide +kernel, rfl, by decide +kernel, by decide +kernel⟩
theorem ok_trimx (F : Dn K mg "trimmed" s_trimx ["coefficients"]) (T : Bt mg) : Cal P w K mg base 1 "trimmed" spTrimX [] := by
  refine F.cal sc_trimx (fun vs H Q E h => ?_) (fun f cdv A outer s H vs Q E hr h => ?_)
  · obtain ⟨p, cs, rfl, _⟩ := h
    rfl
  · obtain ⟨v, cs, rfl, hv, hl, q⟩ := h
    cases hv with
    | lst p _ hp =>
      refine ⟨_, (pss_cons (ps_set (i := 1) sc_trimx.nd rfl (Or.inl rfl) (pe_callB cLen (by rfl) T.len (by decide +kernel) (pa_cons (pv 0) pa_nil)))
      (pss_cons (ps_while PassesOwn.never (PW.pt (pw_and (pt_cmpR op_gt (pv 1) pe_int (nomark _)) (pw_and1 (pt_cmpR op_eq (pe_ix ix_list (pv 0) (pe_op op_sub (pv 1) pe_int) (fun _ _ => rfl)) pe_int (nomark _))))) (pss_one (ps_aug (i := 1) sc_trimx.nd rfl (Or.inl rfl) pe_int ip_sub)))
      (pss_one (ps_ret (pe_callTy cListOf (by rfl) T.list (by decide +kernel) (pa_cons (pe_slice sl_list (pv 0) po_none (po_some (pv 1))) pa_nil)))))), ?_⟩
      walk_at "go"
      rw [List.length_map]
      refine while_go (fun σ H' => ∃ e : Nat, σ = [some (.ref p), some (.int (e : Int))] ∧ e ≤ cs.length ∧ trim (cs.take e) = trim cs ∧ H' = H) (fun σ _ => match σ with | [_, some (.int y)] => y.toNat | _ => 0)
        ⟨cs.length, rfl, Nat.le_refl _, by rw [List.take_length], rfl⟩ ?_
      rintro σ H' ⟨e, rfl, he, ht, rfl⟩
      walk_at "go"
      refine ite_d (fun h0 => ?_) (fun h0 => ?_)
      · obtain ⟨m, rfl⟩ : ∃ m, e = m + 1 := ⟨e - 1, by omega⟩
        have hm : m < cs.length := by omega
        have em := List.getElem?_eq_getElem hm
        have tk : cs.take (m + 1) = cs.take m ++ [cs[m]] := List.take_succ_eq_append_getElem hm
        rw [tk] at ht
        generalize cs[m] = z at em tk ht
        walk_at "go"
        refine w_ixL (xs := cs.map V.int) (by walk_at "hp") (atI_map (x := z) (by omega) (by rw [show (((m + 1 : Nat) : Int) - 1).toNat = m by omega]; exact em)) ?_
        walk_at "go"
        rw [decI]
        refine ite_d (fun h1 => ?_) (fun h1 => ?_)
        · subst h1
          walk_at "go"
          refine ⟨?_, m, by rw [show ((m + 1 : Nat) : Int) - 1 = (m : Int) by omega]; rfl, by omega, by rw [← ht, trim_zero], rfl⟩
          show (((m + 1 : Nat) : Int) - 1).toNat < ((m + 1 : Nat) : Int).toNat
          omega
        · walk_at "go"
          refine w_slL (xs := cs.map V.int) (by walk_at "hp") (al fun p1 H1 n1 s1 h1' => ?_)
          rw [cut_to] at h1'
          walk_at "go"
          refine w_listL (by walk_at "hp") (al fun p2 H2 n2 s2 h2 => ?_)
          walk_at "go"
          refine q p2 H2 (s1.free n2) (s1.trans s2) ?_
          rw [← ht, trim_snoc _ h1, ← tk]
          exact h2
      · have e0 : e = 0 := by omega
        subst e0
        refine iteF ?_
        walk_at "go"
        refine w_slL (xs := cs.map V.int) (by walk_at "hp") (al fun p1 H1 n1 s1 h1' => ?_)
        rw [show ((0 : Nat) : Int) = ((0 : Nat) : Int) from rfl, cut_to] at h1'
        walk_at "go"
        refine w_listL (by walk_at "hp") (al fun p2 H2 n2 s2 h2 => ?_)
        walk_at "go"
        refine q p2 H2 (s1.free n2) (s1.trans s2) ?_
        rw [← ht, List.take_zero, trim_nil]
        exact h2
    | tup p _ hp =>
      refine ⟨_, (pss_cons (ps_set (i := 1) sc_trimx.nd rfl (Or.inl rfl) (pe_callB cLen (by rfl) T.len (by decide +kernel) (pa_cons (pv 0) pa_nil)))
      (pss_cons (ps_while PassesOwn.never (PW.pt (pw_and (pt_cmpR op_gt (pv 1) pe_int (nomark _)) (pw_and1 (pt_cmpR op_eq (pe_ix ix_tup (pv 0) (pe_op op_sub (pv 1) pe_int) (fun _ _ => rfl)) pe_int (nomark _))))) (pss_one (ps_aug (i := 1) sc_trimx.nd rfl (Or.inl rfl) pe_int ip_sub)))
      (pss_one (ps_ret (pe_callTy cListOf (by rfl) T.list (by decide +kernel) (pa_cons (pe_slice sl_tupA (pv 0) po_none (po_some (pv 1))) pa_nil)))))), ?_⟩
      walk_at "go"
      rw [List.length_map]
      refine while_go (fun σ H' => ∃ e : Nat, σ = [some (.ref p), some (.int (e : Int))] ∧ e ≤ cs.length ∧ trim (cs.take e) = trim cs ∧ H' = H) (fun σ _ => match σ with | [_, some (.int y)] => y.toNat | _ => 0)
        ⟨cs.length, rfl, Nat.le_refl _, by rw [List.take_length], rfl⟩ ?_
      rintro σ H' ⟨e, rfl, he, ht, rfl⟩
      have fin : ∀ j : Nat, j ≤ cs.length → trim cs = cs.take j → ∀ (Q2 : VK), (∀ p2 H2, H' p2 = none → Same H' H2 → H2 p2 = some (.lst ((trim cs).map V.int)) → Q2 (.ref p2) H2) → rSlA K (.ref p) none (some (j : Int)) H' fun x H1 => rListOf K [x] H1 Q2 := fun j hj ej Q2 q2 => by
        refine ⟨p, cs.map V.int, rfl, sqt hp, fun hw => ?_, fun hw p1 n1 => ?_⟩
        · have hcut := cut_to cs j
          have hfull : cutV (cs.map V.int) none (some (j : Int)) = cs.map V.int := by
            unfold cutV
            rw [hw.1, hw.2, List.drop_zero, Nat.sub_zero, List.take_length]
          refine w_listT (sqt hp) (al fun p2 H2 n2 s2 h2 => q2 p2 H2 n2 s2 ?_)
          rw [ej, ← hcut, hfull]
          exact h2
        · refine w_listT (sqt upd_same) (al fun p2 H2 n2 s2 h2 => q2 p2 H2 ((Same.new n1).free n2) ((Same.new n1).trans s2) ?_)
          rw [cut_to] at h2
          rw [ej]
          exact h2
      walk_at "go"
      refine ite_d (fun h0 => ?_) (fun h0 => ?_)
      · obtain ⟨m, rfl⟩ : ∃ m, e = m + 1 := ⟨e - 1, by omega⟩
        have hm : m < cs.length := by omega
        have em := List.getElem?_eq_getElem hm
        have tk : cs.take (m + 1) = cs.take m ++ [cs[m]] := List.take_succ_eq_append_getElem hm
        rw [tk] at ht
        generalize cs[m] = z at em tk ht
        walk_at "go"
        refine w_ixT (xs := cs.map V.int) (sqt hp) (atI_map (x := z) (by omega) (by rw [show (((m + 1 : Nat) : Int) - 1).toNat = m by omega]; exact em)) ?_
        walk_at "go"
        rw [decI]
        refine ite_d (fun h1 => ?_) (fun h1 => ?_)
        · subst h1
          walk_at "go"
          refine ⟨?_, m, by rw [show ((m + 1 : Nat) : Int) - 1 = (m : Int) by omega]; rfl, by omega, by rw [← ht, trim_zero], rfl⟩
          show (((m + 1 : Nat) : Int) - 1).toNat < ((m + 1 : Nat) : Int).toNat
          omega
        · walk_at "go"
          refine fin (m + 1) (by omega) (by rw [← ht, trim_snoc _ h1, ← tk]) _ ?_
          intro p2 H2 n2 s2 h2
          walk_at "go"
          exact q p2 H2 n2 s2 h2
      · have e0 : e = 0 := by omega
        subst e0
        refine iteF ?_
        walk_at "go"
        refine fin 0 (by omega) (by rw [← ht, List.take_zero, trim_nil]) _ ?_
        intro p2 H2 n2 s2 h2
        walk_at "go"
        exact q p2 H2 n2 s2 h2

abbrev s_rmdx : Stmt := (top 17)
theorem sc_rmdx : FnScope ["coefficients", "prime", "coefficient"] ["coefficients", "prime"] (defScope s_rmdx) :=
  ⟨rfl, rfl, rfl, by decide +kernel, rfl, by decide +kernel, by decide +kernel⟩
theorem ok_rmdx (F : Dn K mg "remainders" s_rmdx ["coefficients", "prime"]) (T : Bt mg) (c_trimx : Cal P w K mg base 1 "trimmed" spTrimX []) : Cal P w K mg base 2 "remainders" spRmd [] := by
  refine F.cal sc_rmdx (fun vs H Q E h => ?_) (fun f cdv A outer s H vs Q E hr h => ?_)
  · obtain ⟨l, cs, n, rfl, _⟩ := h
    rfl
  · obtain ⟨l, cs, n, rfl, hl, hc, n0, n1, q⟩ := h
    refine ⟨_, (pss_one (ps_ret (pe_c c_trimx hr (by decide) (by rfl) (pa_cons (pe_lc (own := [("coefficient", 2)]) (g := gName 2) (tt := tYes) (te := (tOp _ (tVar 2) (tVar 1))) rfl sc_rmdx.nd (pi_list (pv 0)) (blkOk_by (own := [("coefficient", 2)]) (N := ["coefficients", "prime", "coefficient"]) (sc := defScope s_rmdx) (by decide +kernel)) (fun _ _ _ _ _ => (pg_name (i := 2) sc_rmdx.nd rfl (Or.inl rfl))) (fun _ _ _ _ _ => pts_nil) (fun _ _ _ _ _ => (pe_op op_mod (pv 2) (pv 1)))) pa_nil)))), ?_⟩
    walk_at "go"
    intro D hD
    refine lc_pure (cs.map V.int) ((cs.map fun x => x % n).map V.int) walk_list hD (fun _ sm => sq (sm _ _ hl)) (by simp) (by simp; omega) (fun _ => rfl) ?_ ?_
    · intro i x z H' hx hz sm Q' q'
      obtain ⟨z1, hz1, rfl⟩ := get_map hx
      obtain ⟨z2, hz2, rfl⟩ := get_map hz
      obtain ⟨z3, hz3, rfl⟩ := get_map hz2
      rw [hz1] at hz3
      cases hz3
      walk_at "go"
      exact q' _ (Same.refl _)
    intro H1 s1 h1
    walk_at "go"
    refine ⟨.ref D, _, rfl, .lst D _ h1, by rw [List.length_map]; omega, fun l2 H2 n2 s2 h2 => ?_⟩
    walk_at "go"
    exact q l2 H2 (s1.trans s2) h2
abbrev s_valp : Stmt := (top 18)
theorem sc_valp : FnScope ["coefficients", "place", "prime", "found", "coefficient"] ["coefficients", "place", "prime"] (defScope s_valp) :=
  ⟨rfl, rfl, rfl, by decide +kernel, rfl, by decide +kernel, by decide +kernel⟩
theorem ok_valp (F : Dn K mg "value_at" s_valp ["coefficients", "place", "prime"]) (T : Bt mg) : Cal P w K mg base 1 "value_at" spValP [] := by
  refine F.cal sc_valp (fun vs H Q E h => ?_) (fun f cdv A outer s H vs Q E hr h => ?_)
  · obtain ⟨l, cs, x, n, rfl, _⟩ := h
    rfl
  · obtain ⟨l, cs, x, n, rfl, hl, hb, hc, x0, x1, n0, n1, q⟩ := h
    refine ⟨_, (pss_cons (ps_set (i := 3) sc_valp.nd rfl (Or.inl rfl) pe_int)
      (pss_cons (ps_for PassesOwn.never rfl (pi_list (pe_revL (pv 0))) (pg_name (i := 4) sc_valp.nd rfl (Or.inl rfl)) (pss_one (ps_set (i := 3) sc_valp.nd rfl (Or.inl rfl) (pe_op op_mod (pe_op op_add (pe_op oMul (pv 3) (pv 1)) (pv 4)) (pv 2)))))
      (pss_one (ps_ret (pv 3))))), ?_⟩
    walk_at "go"
    refine w_revx (xs := cs.map V.int) (sq hl) (al fun p H1 np s1 hp => ?_)
    rw [← List.map_reverse] at hp
    walk_at "go"
    refine for_list (K := K) (a := p) (xs := cs.reverse.map V.int) (fun i σ H' => ∃ (u : Option V), σ = [some (.ref l), some (.int x), some (.int n), some (.int (hv (cs.reverse.take i) x % n)), u] ∧ H' = H1)
      ⟨none, by rw [List.take_zero, show hv [] x % n = 0 from Int.zero_emod n], rfl⟩ (fun i σ H' _ z => by obtain ⟨_, _, rfl⟩ := z; exact sq hp) ?_ ?_
    · rintro i y σ H' hy ⟨u, rfl, rfl⟩
      obtain ⟨z, hz, rfl⟩ := get_map hy
      have h1 := Int.emod_nonneg (hv (cs.reverse.take i) x) (show n ≠ 0 by omega)
      have h2 := Int.emod_lt_of_pos (hv (cs.reverse.take i) x) n0
      have hmx : CMx (hv (cs.reverse.take i) x % n) x := mx_r (by omega)
      have e : hv (cs.reverse.take (i + 1)) x % n = (hv (cs.reverse.take i) x % n * x + z) % n := by
        rw [hv_take hz, Int.add_emod, Int.mul_emod, ← Int.emod_emod_of_dvd (hv (cs.reverse.take i) x) (Int.dvd_refl n), ← Int.mul_emod, ← Int.add_emod, Int.emod_emod_of_dvd _ (Int.dvd_refl n)]
      rw [e]
      generalize hv (cs.reverse.take i) x % n = f at h1 h2 hmx ⊢
      walk_at "go"
      exact ⟨_, rfl, rfl⟩
    · rintro σ H' ⟨u, rfl, rfl⟩
      walk_at "go"
      rw [List.length_map, List.take_length]
      exact q _ s1
abbrev s_rootsof : Stmt := (top 19)
theorem sc_rootsof : FnScope ["coefficients", "prime", "rest", "place"] ["coefficients", "prime"] (defScope s_rootsof) :=
  ⟨rfl, rfl, rfl, by decide +kernel, rfl, by decide +kernel, by decide +kernel⟩
theorem ok_rootsof (F : Dn K mg "roots_of" s_rootsof ["coefficients", "prime"]) (T : Bt mg) (c_rmdx : Cal P w K mg base 2 "remainders" spRmd []) (c_valp : Cal P w K mg base 1 "value_at" spValP []) (c_inverse : Cal P w K mg base 1 "inverse" spInverse []) : Cal P w K mg base 3 "roots_of" spRootsOf [] := by
  refine F.cal sc_rootsof (fun vs H Q E h => ?_) (fun f cdv A outer s H vs Q E hr h => ?_)
  · obtain ⟨l, cs, n, rfl, _⟩ := h
    rfl
  · obtain ⟨l, cs, n, rfl, hl, hc, hp, n1, q⟩ := h
    have hn := hp.1
    refine ⟨_, (pss_cons (ps_set (i := 2) sc_rootsof.nd rfl (Or.inr rfl) (pe_c c_rmdx hr (by decide) (by rfl) (pa_cons (pv 0) (pa_cons (pv 1) pa_nil))))
      (pss_cons (ps_if (pt_cmpR op_eq (pe_callB cLen (by rfl) T.len (by decide +kernel) (pa_cons (pv 2) pa_nil)) pe_int (nomark _)) (pss_one (ps_ret (pe_lst (pa_cons (pe_op op_mod (pe_op oMul (pe_un un_neg (pe_ix ix_list (pv 2) pe_int (fun _ _ => rfl))) (pe_c c_inverse hr (by decide) (by rfl) (pa_cons (pe_ix ix_list (pv 2) pe_int (fun _ _ => rfl)) (pa_cons (pv 1) pa_nil)))) (pv 1)) pa_nil)))) pss_nil)
      (pss_one (ps_ret (pe_lc (own := [("place", 3)]) (g := gName 3) (tt := (tTest (tOp _ (tCall _ _ _ (tCons (tVar 2) (tCons (tVar 3) (tCons (tVar 1) tNil)))) _))) (te := (tVar 3)) rfl sc_rootsof.nd (pi_range1 (by rfl) T.range (pa_cons (pv 1) pa_nil)) (blkOk_by (own := [("place", 3)]) (N := ["coefficients", "prime", "rest", "place"]) (sc := defScope s_rootsof) (by decide +kernel)) (fun _ _ _ _ _ => (pg_name (i := 3) sc_rootsof.nd rfl (Or.inl rfl))) (fun _ _ _ _ _ => (pts_one (pt_cmpR op_eq (pe_c c_valp hr (by decide) (by rfl) (pa_cons (pv 2) (pa_cons (pv 3) (pa_cons (pv 1) pa_nil)))) pe_int (nomark _)))) (fun _ _ _ _ _ => (pv 3))))))), ?_⟩
    walk_at "go"
    refine ⟨l, cs, n, rfl, hl, hc, by omega, by omega, fun l1 H1 s1 h1 => ?_⟩
    have hq : ∀ l' H', Same H H' → H' l' = some (.lst ((rts n (rmd n cs)).map V.int)) → Q (.ref l') H' := fun l' H' s' h' => q l' H' s' (by rw [← rts_rmd]; exact h')
    have hrl : (rmd n cs).length ≤ 1000 := by
      have := trim_len (cs.map fun x => x % n)
      rw [List.length_map] at this
      show (trim _).length ≤ _
      omega
    have hrb : ∀ z ∈ rmd n cs, 0 ≤ z ∧ z < n := fun z hz => by
      obtain ⟨x, _, rfl⟩ := List.mem_map.mp (trim_mem hz)
      exact ⟨Int.emod_nonneg _ (by omega), Int.emod_lt_of_pos _ (by omega)⟩
    have hla : ∀ (ys : List Int) (z : Int), rmd n cs = ys ++ [z] → z ≠ 0 := fun ys z e => trim_last _ _ (Nat.le_refl _) e
    clear q
    generalize rmd n cs = rs at h1 hq hrl hrb hla
    walk_at "go"
    rw [List.length_map]
    refine ite_d (fun h2 => ?_) (fun h2 => ?_)
    · have hl2 : rs.length = 2 := by
        have : ((rs.length : Nat) : Int) = 2 := by first | exact h2 | injection h2
        omega
      obtain ⟨r0, r1, rfl⟩ : ∃ r0 r1, rs = [r0, r1] := by
        match rs, hl2 with
        | [a, b], _ => exact ⟨a, b, rfl⟩
      have b0 := hrb r0 (by simp)
      have b1 := hrb r1 (by simp)
      have z1 := hla [r0] r1 rfl
      have hco := hp.cop (show 0 < r1 by omega) b1.2
      walk_at "go"
      refine ⟨r1, n, rfl, by omega, ?_, hco, fun i H2 s2 i0 i1 hi => ?_⟩
      · have : (2 : Nat) ^ 20 ≤ 2 ^ 8000 := Nat.pow_le_pow_right (by decide) (by decide)
        omega
      have hmx : CMx (0 - r0) i := mx_r (by omega)
      walk_at "go"
      refine al fun p3 H3 n3 s3 h3 => ?_
      refine hq p3 H3 (s1.trans (s2.trans s3)) ?_
      rw [h3, rts_two hn hi, Int.zero_sub]
      rfl
    · walk_at "go"
      intro D hD
      refine lc_filt ((List.range n.toNat).map fun i : Nat => V.int (0 + (i : Int))) (fun v => match v with | .int x => decide (ev rs x % n = 0) | _ => false) (fun v => v) walk_rangeY hD (fun _ _ => trivial) (by simp; omega) (fun _ => rfl) ?_ ?_ ?_
      · intro i x H' hx sm Q' q'
        obtain ⟨j, hj, rfl⟩ := get_map hx
        have hjl : j < n.toNat := List.mem_range.mp (List.mem_of_getElem? hj)
        walk_at "go"
        refine ⟨l1, rs, _, n, rfl, sm _ _ h1, fun z hz => by have := hrb z hz; omega, hrl, by omega, by omega, by omega, by omega, fun H2 s2 => ?_⟩
        walk_at "go"
        rw [decI]
        exact q' _ s2
      · intro i x H' hx hpx sm Q' q'
        walk_at "go"
        exact q' _ (Same.refl _)
      · intro H2 s2 h2'
        walk_at "go"
        refine hq D H2 (s1.trans s2) ?_
        rw [h2']
        unfold rts
        rw [List.filter_map, List.map_map, List.map_map]
        congr 2
        rw [show (fun i : Nat => V.int (0 + (i : Int))) = fun i : Nat => V.int (i : Int) from funext fun i => by rw [Int.zero_add]]
        rfl

abbrev s_reqcox : Stmt := (top 15)
theorem sc_reqcox : FnScope ["thing", "place", "coefficient"] ["thing"] (defScope s_reqcox) :=
  ⟨rfl, rfl, rfl, by decide +kernel, rfl, by decide +kernel, by decide +kernel⟩
theorem ok_reqcox {Cc : Addr} (F : Dn K mg "require_coefficients" s_reqcox ["thing"]) (T : Bt mg) (c_isint : Cal P w K mg base 1 "is_integer" (spIsInt K) []) (c_trimx : Cal P w K mg base 1 "trimmed" spTrimX []) (c_invco : Err P w K mg base 1 "InvalidCoefficients" Cc "place") : CalX P w K mg base 3 "require_coefficients" (spReqCo K Cc) [] := by
  refine F.calX sc_reqcox (fun vs H Q E h => ?_) (fun f cdv A outer s H vs Q E hr h => ?_)
  · obtain ⟨v, rfl, _⟩ := h
    rfl
  · obtain ⟨v, rfl, h⟩ := h
    rcases h with ⟨t, ty, hk, er⟩ | ⟨cs, x, xs, hv, hl, hx, er⟩ | ⟨cs, hv, hl, q⟩
    · refine ⟨_, (pss_cons (ps_if (pt_not (pt_val (pe_callB call_isiT (by rfl) T.isinstance (by decide +kernel) (pa_cons (pv 0) (pa_cons (pe_tup (pa_cons (pe_bltn (v := .ty "list") (by rfl) T.list (by decide +kernel) rfl) (pa_cons (pe_bltn (v := .ty "tuple") (by rfl) T.tuple (by decide +kernel) rfl) pa_nil))) pa_nil))))) (pss_one (ps_rse c_invco rfl hr (by decide) (takes_of rfl rfl rfl rfl) (by rfl) (pa_cons pe_non pa_nil))) pss_nil)
      (pss_cons (ps_for (passes_of rfl) rfl (pi_enum (by rfl) T.enumerate (pa_cons (pv 0) pa_nil)) (pg_tup rfl (pgs_cons (pg_name (i := 1) sc_reqcox.nd rfl (Or.inl rfl)) (pgs_cons (pg_name (i := 2) sc_reqcox.nd rfl (Or.inl rfl)) pgs_nil))) (pss_one (ps_if (pt_not (pt_val (pe_c c_isint hr (by decide) (by rfl) (pa_cons (pv 2) pa_nil)))) (pss_one (ps_rse c_invco rfl hr (by decide) (takes_of rfl rfl rfl rfl) (by rfl) (pa_cons (pv 1) pa_nil))) pss_nil)))
      (pss_one (ps_ret (pe_c c_trimx hr (by decide) (by rfl) (pa_cons (pv 0) pa_nil)))))), ?_⟩
      walk_at "go"
      refine al fun p H1 np s1 hp => ?_
      walk_at "go"
      refine w_isi2 hp (tyx_same ty s1) hk ?_
      walk_at "go"
      refine iteT ?_
      walk_at "go"
      exact w_fly fun d H2 n2 s2 h2 => er d H2 (s1.free n2) (s1.trans s2) h2
    · cases hv with
      | lst a _ ha =>
        refine ⟨_, (pss_cons (ps_if (pt_not (pt_val (pe_callB call_isiT (by rfl) T.isinstance (by decide +kernel) (pa_cons (pv 0) (pa_cons (pe_tup (pa_cons (pe_bltn (v := .ty "list") (by rfl) T.list (by decide +kernel) rfl) (pa_cons (pe_bltn (v := .ty "tuple") (by rfl) T.tuple (by decide +kernel) rfl) pa_nil))) pa_nil))))) (pss_one (ps_rse c_invco rfl hr (by decide) (takes_of rfl rfl rfl rfl) (by rfl) (pa_cons pe_non pa_nil))) pss_nil)
      (pss_cons (ps_for (passes_of rfl) rfl (pi_enum (by rfl) T.enumerate (pa_cons (pv 0) pa_nil)) (pg_tup rfl (pgs_cons (pg_name (i := 1) sc_reqcox.nd rfl (Or.inl rfl)) (pgs_cons (pg_name (i := 2) sc_reqcox.nd rfl (Or.inl rfl)) pgs_nil))) (pss_one (ps_if (pt_not (pt_val (pe_c c_isint hr (by decide) (by rfl) (pa_cons (pv 2) pa_nil)))) (pss_one (ps_rse c_invco rfl hr (by decide) (takes_of rfl rfl rfl rfl) (by rfl) (pa_cons (pv 1) pa_nil))) pss_nil)))
      (pss_one (ps_ret (pe_c c_trimx hr (by decide) (by rfl) (pa_cons (pv 0) pa_nil)))))), ?_⟩
        walk_at "go"
        refine al fun p H1 np s1 hp => ?_
        walk_at "go"
        refine w_isi2 (b := true) hp (.base (.lst (s1 _ _ ha))) (kitA (by decide +kernel)) ?_
        walk_at "go"
        refine iteF ?_
        walk_at "go"
        refine w_enumi (sq (s1 _ _ ha)) ?_
        refine for_it (walk_enum (xs := cs.map V.int ++ x :: xs)) (fun i σ H' => ∃ (v1 v2 : Option V), σ = [some (.ref a), v1, v2] ∧ i ≤ cs.length ∧ Same H H') ⟨_, _, rfl, Nat.zero_le _, s1⟩
          (fun i σ H' _ z => by obtain ⟨_, _, _, _, z⟩ := z; exact sq (z _ _ ha)) ?_ ?_
        · rintro i y σ H6 H7 hi ⟨v1, v2, rfl, hi2, s6⟩ ⟨t, z1, z2, rfl, nt, rfl, e1, e2⟩
          cases e1
          refine w_gtup (sqt upd_same) rfl ?_
          have S7 : Same H (upd H6 t (.tup [.int (i : Nat), z2])) := s6.trans (Same.new nt)
          generalize upd H6 t (.tup [.int (i : Nat), z2]) = H7 at S7 ⊢
          have e2 : (cs.map V.int ++ x :: xs)[i]? = some z2 := e2
          walk_at "go"
          by_cases hlt : i < cs.length
          · rw [List.getElem?_append_left (by rw [List.length_map]; exact hlt)] at e2
            obtain ⟨z, hz, rfl⟩ := get_map e2
            refine ⟨.int z, _, true, false, rfl, ty_int z, kit_ty (by decide +kernel), kit_ty (by decide +kernel), ?_⟩
            walk_at "go"
            refine iteF ?_
            walk_at "go"
            exact ⟨_, _, rfl, by omega, S7⟩
          · have ei : i = cs.length := by omega
            rw [List.getElem?_append_right (by rw [List.length_map]; omega), List.length_map, ei, Nat.sub_self] at e2
            cases e2
            obtain ⟨tt, b1, b2, ty, k1, k2, e⟩ := hx
            refine ⟨x, tt, b1, b2, rfl, tyx_same ty S7, k1, k2, ?_⟩
            rw [← e]
            walk_at "go"
            refine iteT ?_
            walk_at "go"
            subst ei
            exact w_fly fun d H2 n2 s2 h2 => er d H2 (S7.free n2) (S7.trans s2) h2
        · rintro σ H6 ⟨v1, v2, rfl, hi2, s6⟩
          rw [List.length_append, List.length_map, List.length_cons] at hi2
          omega
      | tup a _ ha =>
        refine ⟨_, (pss_cons (ps_if (pt_not (pt_val (pe_callB call_isiT (by rfl) T.isinstance (by decide +kernel) (pa_cons (pv 0) (pa_cons (pe_tup (pa_cons (pe_bltn (v := .ty "list") (by rfl) T.list (by decide +kernel) rfl) (pa_cons (pe_bltn (v := .ty "tuple") (by rfl) T.tuple (by decide +kernel) rfl) pa_nil))) pa_nil))))) (pss_one (ps_rse c_invco rfl hr (by decide) (takes_of rfl rfl rfl rfl) (by rfl) (pa_cons pe_non pa_nil))) pss_nil)
      (pss_cons (ps_for (passes_of rfl) rfl (pi_enumT (by rfl) T.enumerate (pa_cons (pv 0) pa_nil)) (pg_tup rfl (pgs_cons (pg_name (i := 1) sc_reqcox.nd rfl (Or.inl rfl)) (pgs_cons (pg_name (i := 2) sc_reqcox.nd rfl (Or.inl rfl)) pgs_nil))) (pss_one (ps_if (pt_not (pt_val (pe_c c_isint hr (by decide) (by rfl) (pa_cons (pv 2) pa_nil)))) (pss_one (ps_rse c_invco rfl hr (by decide) (takes_of rfl rfl rfl rfl) (by rfl) (pa_cons (pv 1) pa_nil))) pss_nil)))
      (pss_one (ps_ret (pe_c c_trimx hr (by decide) (by rfl) (pa_cons (pv 0) pa_nil)))))), ?_⟩
        walk_at "go"
        refine al fun p H1 np s1 hp => ?_
        walk_at "go"
        refine w_isi2 (b := true) hp (.base (.tup (s1 _ _ ha))) (kitA (by decide +kernel)) ?_
        walk_at "go"
        refine iteF ?_
        walk_at "go"
        unfold iEnumT
        walk_at "go"
        refine w_enumT (sqt (s1 _ _ ha)) ?_
        refine for_it (walk_enumT (xs := cs.map V.int ++ x :: xs)) (fun i σ H' => ∃ (v1 v2 : Option V), σ = [some (.ref a), v1, v2] ∧ i ≤ cs.length ∧ Same H H') ⟨_, _, rfl, Nat.zero_le _, s1⟩
          (fun i σ H' _ z => by obtain ⟨_, _, _, _, z⟩ := z; exact sqt (z _ _ ha)) ?_ ?_
        · rintro i y σ H6 H7 hi ⟨v1, v2, rfl, hi2, s6⟩ ⟨t, z1, z2, rfl, nt, rfl, e1, e2⟩
          cases e1
          refine w_gtup (sqt upd_same) rfl ?_
          have S7 : Same H (upd H6 t (.tup [.int (i : Nat), z2])) := s6.trans (Same.new nt)
          generalize upd H6 t (.tup [.int (i : Nat), z2]) = H7 at S7 ⊢
          have e2 : (cs.map V.int ++ x :: xs)[i]? = some z2 := e2
          walk_at "go"
          by_cases hlt : i < cs.length
          · rw [List.getElem?_append_left (by rw [List.length_map]; exact hlt)] at e2
            obtain ⟨z, hz, rfl⟩ := get_map e2
            refine ⟨.int z, _, true, false, rfl, ty_int z, kit_ty (by decide +kernel), kit_ty (by decide +kernel), ?_⟩
            walk_at "go"
            refine iteF ?_
            walk_at "go"
            exact ⟨_, _, rfl, by omega, S7⟩
          · have ei : i = cs.length := by omega
            rw [List.getElem?_append_right (by rw [List.length_map]; omega), List.length_map, ei, Nat.sub_self] at e2
            cases e2
            obtain ⟨tt, b1, b2, ty, k1, k2, e⟩ := hx
            refine ⟨x, tt, b1, b2, rfl, tyx_same ty S7, k1, k2, ?_⟩
            rw [← e]
            walk_at "go"
            refine iteT ?_
            walk_at "go"
            subst ei
            exact w_fly fun d H2 n2 s2 h2 => er d H2 (S7.free n2) (S7.trans s2) h2
        · rintro σ H6 ⟨v1, v2, rfl, hi2, s6⟩
          rw [List.length_append, List.length_map, List.length_cons] at hi2
          omega
    · cases hv with
      | lst a _ ha =>
        refine ⟨_, (pss_cons (ps_if (pt_not (pt_val (pe_callB call_isiT (by rfl) T.isinstance (by decide +kernel) (pa_cons (pv 0) (pa_cons (pe_tup (pa_cons (pe_bltn (v := .ty "list") (by rfl) T.list (by decide +kernel) rfl) (pa_cons (pe_bltn (v := .ty "tuple") (by rfl) T.tuple (by decide +kernel) rfl) pa_nil))) pa_nil))))) (pss_one (ps_rse c_invco rfl hr (by decide) (takes_of rfl rfl rfl rfl) (by rfl) (pa_cons pe_non pa_nil))) pss_nil)
      (pss_cons (ps_for (passes_of rfl) rfl (pi_enum (by rfl) T.enumerate (pa_cons (pv 0) pa_nil)) (pg_tup rfl (pgs_cons (pg_name (i := 1) sc_reqcox.nd rfl (Or.inl rfl)) (pgs_cons (pg_name (i := 2) sc_reqcox.nd rfl (Or.inl rfl)) pgs_nil))) (pss_one (ps_if (pt_not (pt_val (pe_c c_isint hr (by decide) (by rfl) (pa_cons (pv 2) pa_nil)))) (pss_one (ps_rse c_invco rfl hr (by decide) (takes_of rfl rfl rfl rfl) (by rfl) (pa_cons (pv 1) pa_nil))) pss_nil)))
      (pss_one (ps_ret (pe_c c_trimx hr (by decide) (by rfl) (pa_cons (pv 0) pa_nil)))))), ?_⟩
        walk_at "go"
        refine al fun p H1 np s1 hp => ?_
        walk_at "go"
        refine w_isi2 (b := true) hp (.base (.lst (s1 _ _ ha))) (kitA (by decide +kernel)) ?_
        walk_at "go"
        refine iteF ?_
        walk_at "go"
        refine w_enumi (sq (s1 _ _ ha)) ?_
        refine for_it (walk_enum (xs := cs.map V.int)) (fun i σ H' => ∃ (v1 v2 : Option V), σ = [some (.ref a), v1, v2] ∧ Same H H') ⟨_, _, rfl, s1⟩
          (fun i σ H' _ z => by obtain ⟨_, _, _, z⟩ := z; exact sq (z _ _ ha)) ?_ ?_
        · rintro i y σ H6 H7 hi ⟨v1, v2, rfl, s6⟩ ⟨t, z1, z2, rfl, nt, rfl, e1, e2⟩
          cases e1
          refine w_gtup (sqt upd_same) rfl ?_
          have S7 : Same H (upd H6 t (.tup [.int (i : Nat), z2])) := s6.trans (Same.new nt)
          generalize upd H6 t (.tup [.int (i : Nat), z2]) = H7 at S7 ⊢
          obtain ⟨z, hz, rfl⟩ := get_map e2
          walk_at "go"
          refine ⟨.int z, _, true, false, rfl, ty_int z, kit_ty (by decide +kernel), kit_ty (by decide +kernel), ?_⟩
          walk_at "go"
          refine iteF ?_
          walk_at "go"
          exact ⟨_, _, rfl, S7⟩
        · rintro σ H6 ⟨v1, v2, rfl, s6⟩
          walk_at "go"
          refine ⟨.ref a, cs, rfl, .lst a _ (s6 _ _ ha), hl, fun l2 H2 n2 s2 h2 => ?_⟩
          walk_at "go"
          exact q l2 H2 (s6.free n2) (s6.trans s2) h2
      | tup a _ ha =>
        refine ⟨_, (pss_cons (ps_if (pt_not (pt_val (pe_callB call_isiT (by rfl) T.isinstance (by decide +kernel) (pa_cons (pv 0) (pa_cons (pe_tup (pa_cons (pe_bltn (v := .ty "list") (by rfl) T.list (by decide +kernel) rfl) (pa_cons (pe_bltn (v := .ty "tuple") (by rfl) T.tuple (by decide +kernel) rfl) pa_nil))) pa_nil))))) (pss_one (ps_rse c_invco rfl hr (by decide) (takes_of rfl rfl rfl rfl) (by rfl) (pa_cons pe_non pa_nil))) pss_nil)
      (pss_cons (ps_for (passes_of rfl) rfl (pi_enumT (by rfl) T.enumerate (pa_cons (pv 0) pa_nil)) (pg_tup rfl (pgs_cons (pg_name (i := 1) sc_reqcox.nd rfl (Or.inl rfl)) (pgs_cons (pg_name (i := 2) sc_reqcox.nd rfl (Or.inl rfl)) pgs_nil))) (pss_one (ps_if (pt_not (pt_val (pe_c c_isint hr (by decide) (by rfl) (pa_cons (pv 2) pa_nil)))) (pss_one (ps_rse c_invco rfl hr (by decide) (takes_of rfl rfl rfl rfl) (by rfl) (pa_cons (pv 1) pa_nil))) pss_nil)))
      (pss_one (ps_ret (pe_c c_trimx hr (by decide) (by rfl) (pa_cons (pv 0) pa_nil)))))), ?_⟩
        walk_at "go"
        refine al fun p H1 np s1 hp => ?_
        walk_at "go"
        refine w_isi2 (b := true) hp (.base (.tup (s1 _ _ ha))) (kitA (by decide +kernel)) ?_
        walk_at "go"
        refine iteF ?_
        walk_at "go"
        unfold iEnumT
        walk_at "go"
        refine w_enumT (sqt (s1 _ _ ha)) ?_
        refine for_it (walk_enumT (xs := cs.map V.int)) (fun i σ H' => ∃ (v1 v2 : Option V), σ = [some (.ref a), v1, v2] ∧ Same H H') ⟨_, _, rfl, s1⟩
          (fun i σ H' _ z => by obtain ⟨_, _, _, z⟩ := z; exact sqt (z _ _ ha)) ?_ ?_
        · rintro i y σ H6 H7 hi ⟨v1, v2, rfl, s6⟩ ⟨t, z1, z2, rfl, nt, rfl, e1, e2⟩
          cases e1
          refine w_gtup (sqt upd_same) rfl ?_
          have S7 : Same H (upd H6 t (.tup [.int (i : Nat), z2])) := s6.trans (Same.new nt)
          generalize upd H6 t (.tup [.int (i : Nat), z2]) = H7 at S7 ⊢
          obtain ⟨z, hz, rfl⟩ := get_map e2
          walk_at "go"
          refine ⟨.int z, _, true, false, rfl, ty_int z, kit_ty (by decide +kernel), kit_ty (by decide +kernel), ?_⟩
          walk_at "go"
          refine iteF ?_
          walk_at "go"
          exact ⟨_, _, rfl, S7⟩
        · rintro σ H6 ⟨v1, v2, rfl, s6⟩
          walk_at "go"
          refine ⟨.ref a, cs, rfl, .tup a _ (s6 _ _ ha), hl, fun l2 H2 n2 s2 h2 => ?_⟩
          walk_at "go"
          exact q l2 H2 (s6.free n2) (s6.trans s2) h2
abbrev s_tkn : Stmt := (top 21)
theorem sc_tkn : FnScope ["coefficients", "prime", "whole", "count", "rest", "number"] ["coefficients", "prime", "whole"] (defScope s_tkn) :=
  ⟨rfl, rfl, rfl, by decide +kernel, rfl, by decide +kernel, by decide +kernel⟩
theorem ok_tkn (F : Dn K mg "taken_out" s_tkn ["coefficients", "prime", "whole"]) (T : Bt mg) : Cal P w K mg base 1 "taken_out" spTk [] := by
  refine F.cal sc_tkn (fun vs H Q E h => ?_) (fun f cdv A outer s H vs Q E hr h => ?_)
  · obtain ⟨l, cs, p, k, rfl, _⟩ := h
    rfl
  · obtain ⟨l, cs, p, k, rfl, hl, hlen, p1, p2, q⟩ := h
    refine ⟨_, (pss_cons (ps_set (i := 3) sc_tkn.nd rfl (Or.inl rfl) pe_int)
      (pss_cons (ps_set (i := 4) sc_tkn.nd rfl (Or.inl rfl) (pe_callTy cListOf (by rfl) T.list (by decide +kernel) (pa_cons (pv 0) pa_nil)))
      (pss_cons (ps_while PassesOwn.never (PW.pt (pw_and (pt_cmpR op_gt (pv 2) pe_int (nomark _)) (pw_and1 (pt_cmpR (op_eqD hr.units) (pe_lc (own := [("number", 5)]) (g := gName 5) (tt := (tTest (tOp _ (tOp _ (tVar 5) (tVar 1)) _))) (te := (tVar 5)) rfl sc_tkn.nd (pi_list (pv 4)) (blkOk_by (own := [("number", 5)]) (N := ["coefficients", "prime", "whole", "count", "rest", "number"]) (sc := defScope s_tkn) (by decide +kernel)) (fun _ _ _ _ _ => (pg_name (i := 5) sc_tkn.nd rfl (Or.inl rfl))) (fun _ _ _ _ _ => (pts_one (pt_cmpR op_ne (pe_op op_mod (pv 5) (pv 1)) pe_int (nomark _)))) (fun _ _ _ _ _ => (pv 5))) (pe_lst pa_nil) (nomark _))))) (pss_cons (ps_setLc (i := 4) (own := [("number", 5)]) (g := gName 5) (tt := tYes) (te := (tOp _ (tVar 5) (tVar 1))) rfl sc_tkn.nd rfl rfl (sw_true rfl rfl rfl (by decide +kernel)) (pi_list (pv 4)) (blkOk_by (own := [("number", 5)]) (N := ["coefficients", "prime", "whole", "count", "rest", "number"]) (sc := defScope s_tkn) (by decide +kernel)) (fun _ _ _ _ _ => (pg_name (i := 5) sc_tkn.nd rfl (Or.inl rfl))) (fun _ _ _ _ _ => pts_nil) (fun _ _ _ _ _ => (pe_op op_fdivW (pv 5) (pv 1))))
      (pss_cons (ps_set (i := 2) sc_tkn.nd rfl (Or.inl rfl) (pe_op op_fdivW (pv 2) (pv 1)))
      (pss_one (ps_aug (i := 3) sc_tkn.nd rfl (Or.inl rfl) pe_int ip_add)))))
      (pss_one (ps_ret (pe_tup (pa_cons (pv 3) (pa_cons (pv 4) (pa_cons (pv 2) pa_nil))))))))), ?_⟩
    have hdp : ∀ z : Int, CDivW z p := fun z => wdiv (b := 10) (by omega) (by omega) (by decide)
    walk_at "go"
    refine w_listL (sq hl) (al fun r H1 n1 s1 h1 => ?_)
    walk_at "go"
    refine while_m (fun m σ' H' => ∃ (r' : Addr) (cs' : List Int) (c : Nat), σ' = [some (.ref l), some (.int p), some (.int (p ^ m)), some (.int (c : Int)), some (.ref r'), none] ∧ Same H H' ∧ H' r' = some (.lst (cs'.map V.int)) ∧ cs'.length = cs.length ∧ tk p k cs = (c + (tk p m cs').1, (tk p m cs').2)) k ⟨r, cs, 0, rfl, s1, h1, rfl, by rw [Nat.zero_add]⟩ ?_
    rintro m σ' H2 ⟨r', cs', c, rfl, s2, h2, hl2, hk⟩
    have fin : ∀ {H3 : Hp} {u : Addr} {m0 : Nat}, Same H2 H3 → tk p m cs' = (0, cs', m0) → m0 = m → H3 u = some (.tup [.int (c : Int), .ref r', .int (p ^ m)]) → Q (.ref u) H3 := fun {H3 u m0} s3 e e0 hu => by
      subst e0
      rw [e] at hk
      refine q u r' H3 (s2.trans s3) ?_ ?_
      · rw [hk]
        exact hu
      · rw [hk]
        exact s3 _ _ h2
    walk_at "go"
    cases m with
    | zero =>
      rw [show decide (1 < p ^ 0) = false by rw [Int.pow_zero]; rfl]
      refine iteF (iteF ?_)
      walk_at "go"
      refine al fun u H3 _ s3 hu => ?_
      walk_at "go"
      exact fin s3 rfl rfl hu
    | succ m =>
      have hpm : 0 < p ^ m := Int.pow_pos (by omega)
      rw [show decide (1 < p ^ (m + 1)) = true from decide_eq_true (by
        rw [Int.pow_succ]
        have := Int.mul_le_mul_of_nonneg_right (show (1 : Int) ≤ p ^ m by omega) (show 0 ≤ p by omega)
        omega)]
      refine iteT ?_
      walk_at "go"
      intro D hD
      refine lc_filt (cs'.map V.int) (stepsN p) (fun v => v) walk_list hD (fun H' sm => sq (sm _ _ h2)) (by rw [List.length_map]; omega) (fun _ => rfl) ?_ ?_ ?_
      · intro i v0 H' hx sm Q' q'
        obtain ⟨z0, hz0, rfl⟩ := get_map hx
        walk_at "go"
        have ee : (!decide (V.int (z0 % p) = V.int 0)) = stepsN p (.int z0) := by
          rw [decI]
          unfold stepsN
          by_cases g : z0 % p = 0
          · simp [g]
          · simp [g]
        rw [ee]
        exact q' _ (Same.refl _)
      · intro i v0 H' hx hpx sm Q' q'
        walk_at "go"
        exact q' _ (Same.refl _)
      intro H3 s3 h3
      rw [show ((cs'.map V.int).filter (stepsN p)).map (fun v => v) = (cs'.filter fun z => decide (z % p ≠ 0)).map V.int by rw [List.filter_map, List.map_map]; rfl] at h3
      walk_at "go"
      refine al fun e H4 _ s4 h4 => ?_
      walk_at "go"
      refine w_eqLL (ls := cs'.filter fun z => decide (z % p ≠ 0)) (ms := []) (sq (s4 _ _ h3)) (sq h4) ?_
      walk_at "go"
      refine ite_d (fun he => ?_) (fun he => ?_)
      · refine while_nm ?_
        walk_at "go"
        intro D2 hD2
        have h2' := s4 _ _ (s3 _ _ h2)
        refine lc_pure (cs'.map V.int) ((cs'.map fun z => z / p).map V.int) walk_list hD2 (fun H' sm => sq (sm _ _ h2')) (by simp) (by simp; omega) (fun _ => rfl) ?_ ?_
        · intro i v0 y0 H' hx hy sm Q' q'
          obtain ⟨z0, hz0, rfl⟩ := get_map hx
          rw [List.map_map, List.getElem?_map, hz0] at hy
          cases hy
          walk_at "go"
          exact q' _ (Same.refl _)
        intro H5 s5 h5
        walk_at "go"
        have ep : p ^ (m + 1) / p = p ^ m := by rw [Int.pow_succ]; exact Int.mul_ediv_cancel _ (by omega)
        rw [ep]
        refine ⟨m, Nat.lt_succ_self m, D2, cs'.map (fun z => z / p), c + 1, rfl, s2.trans (s3.trans (s4.trans s5)), h5, by rw [List.length_map, hl2], ?_⟩
        rw [hk, tk_on he]
        exact Prod.ext (by show c + ((tk p m _).1 + 1) = c + 1 + (tk p m _).1; omega) rfl
      · walk_at "go"
        refine al fun u H5 _ s5 hu => ?_
        walk_at "go"
        exact fin (s3.trans (s4.trans s5)) (tk_off he) rfl hu

abbrev s_mvto : Stmt := (top 22)
theorem sc_mvto : FnScope ["coefficients", "root", "prime", "whole", "found", "rest", "factor", "quotient", "carried", "coefficient"] ["coefficients", "root", "prime", "whole"] (defScope s_mvto) :=
  ⟨rfl, rfl, rfl, by decide +kernel, rfl, by decide +kernel, by decide +kernel⟩
theorem ok_mvto (F : Dn K mg "moved_to" s_mvto ["coefficients", "root", "prime", "whole"]) (T : Bt mg) (c_trimx : Cal P w K mg base 1 "trimmed" spTrimX []) : Cal P w K mg base 2 "moved_to" spMvd [] := by
  refine F.cal sc_mvto (fun vs H Q E h => ?_) (fun f cdv A outer s H vs Q E hr h => ?_)
  · obtain ⟨l, cs, r, p, w, B, rfl, _⟩ := h
    rfl
  · obtain ⟨l, cs, r, p, ww, B, rfl, hl, hlen, hB, hB2, r0, r1, p1, p2, w0, w1, q⟩ := h
    refine ⟨_, (pss_cons (ps_set (i := 4) sc_mvto.nd rfl (Or.inl rfl) (pe_lst pa_nil))
      (pss_cons (ps_set (i := 5) sc_mvto.nd rfl (Or.inl rfl) (pe_callTy cListOf (by rfl) T.list (by decide +kernel) (pa_cons (pv 0) pa_nil)))
      (pss_cons (ps_set (i := 6) sc_mvto.nd rfl (Or.inl rfl) pe_int)
      (pss_cons (ps_while PassesOwn.never (pt_cmpR (op_neD hr.units) (pv 5) (pe_lst pa_nil) (nomark _)) (pss_cons (ps_set (i := 7) sc_mvto.nd rfl (Or.inl rfl) (pe_lst pa_nil))
      (pss_cons (ps_set (i := 8) sc_mvto.nd rfl (Or.inl rfl) pe_int)
      (pss_cons (ps_for PassesOwn.never rfl (pi_list (pe_revL (pv 5))) (pg_name (i := 9) sc_mvto.nd rfl (Or.inl rfl)) (pss_cons (ps_set (i := 8) sc_mvto.nd rfl (Or.inl rfl) (pe_op op_add (pe_op oMul (pv 8) (pv 1)) (pv 9)))
      (pss_one (ps_expr (pe_bm PySem.F.plainAttrs_list PySem.F.slot_list_append PySem.F.type_list_append mt_append (pv 7) (pa_cons (pv 8) pa_nil))))))
      (pss_cons (ps_expr (pe_bm PySem.F.plainAttrs_list PySem.F.slot_list_append PySem.F.type_list_append mt_append (pv 4) (pa_cons (pe_op op_mod (pe_op oMul (pe_bm0 PySem.F.plainAttrs_list PySem.F.slot_list_pop PySem.F.type_list_pop mt_pop (pv 7)) (pv 6)) (pv 3)) pa_nil)))
      (pss_cons (ps_set (i := 6) sc_mvto.nd rfl (Or.inl rfl) (pe_op oMul (pv 6) (pv 2)))
      (pss_one (ps_set (i := 5) sc_mvto.nd rfl (Or.inl rfl) (pe_revL (pv 7))))))))))
      (pss_one (ps_ret (pe_c c_trimx hr (by decide) (by rfl) (pa_cons (pv 4) pa_nil)))))))), ?_⟩
    walk_at "go"
    refine al fun fd H1 n1 s1 h1 => ?_
    walk_at "go"
    refine w_listL (sq (s1 _ _ hl)) (al fun rs H2 n2 s2 h2 => ?_)
    walk_at "go"
    refine while_m (fun m σ' H' => ∃ (rr : Addr) (cs' acc : List Int) (j : Nat) (v7 v8 v9 : Option V), σ' = [some (.ref l), some (.int r), some (.int p), some (.int ww), some (.ref fd), some (.ref rr), some (.int (p ^ j)), v7, v8, v9] ∧ Same H H' ∧ H' rr = some (.lst (cs'.map V.int)) ∧ H' fd = some (.lst (acc.map V.int)) ∧ rr ≠ fd ∧ cs'.length = m ∧ j + m = cs.length ∧ acc.length = j ∧ Sml (B + 11 * 30 * j) cs' ∧ acc ++ mvd r p ww m (p ^ j) cs' = mvd r p ww cs.length 1 cs) cs.length
      ⟨rs, cs, [], 0, none, none, none, by rw [Int.pow_zero], s1.trans s2, h2, s2 _ _ h1, (fun e => by rw [e, h1] at n2; cases n2), rfl, by omega, rfl, by simpa using hB, by rw [Int.pow_zero]; rfl⟩ ?_
    rintro m σ' H3 ⟨rr, cs', acc, j, v7, v8, v9, rfl, s3, h3, hf3, hne, hm, hjm, haj, hS, hmv⟩
    walk_at "go"
    refine al fun e H4 n4 s4 h4 => ?_
    walk_at "go"
    refine w_neLL (ls := cs') (ms := []) (sq (s4 _ _ h3)) (sq h4) ?_
    walk_at "go"
    refine ite_nd (fun he => ?_) (fun he => ?_)
    · refine while_nm ?_
      walk_at "go"
      refine al fun qd H5 n5 s5 h5 => ?_
      walk_at "go"
      refine w_revx (xs := cs'.map V.int) (sq (s5 _ _ (s4 _ _ h3))) (al fun rv H6 n6 s6 h6 => ?_)
      walk_at "go"
      have S6 : Same H3 H6 := s4.trans (s5.trans s6)
      have n6' : H5 rv ≠ some (.lst []) := fun e => by rw [n6] at e; cases e
      have q6 : H6 qd = some (.lst []) := s6 _ _ h5
      refine for_list (K := K) (a := rv) (xs := (cs'.map V.int).reverse) (fun i σ H' => ∃ (v9 : Option V), σ = [some (.ref l), some (.int r), some (.int p), some (.int ww), some (.ref fd), some (.ref rr), some (.int (p ^ j)), some (.ref qd), some (.int (ev (cs'.drop (m - i)) r)), v9] ∧ Same H4 H' ∧ H' rv = some (.lst (cs'.map V.int).reverse) ∧ H' qd = some (.lst ((suf r (cs'.drop (m - i))).reverse.map V.int))) ?_ ?_ ?_ ?_
      · have ed : cs'.drop (m - 0) = [] := List.drop_eq_nil_of_le (by omega)
        rw [ed]
        exact ⟨v9, rfl, s5.trans s6, h6, q6⟩
      · intro i σ H' _ z
        obtain ⟨_, _, _, z, _⟩ := z
        exact sq z
      · rintro i x0 σ H7 hx ⟨v9, rfl, s7, h7, q7⟩
        have hi : i < m := by
          have := (List.getElem?_eq_some_iff.mp hx).1
          rw [List.length_reverse, List.length_map] at this
          omega
        have hd : cs'.drop (m - (i + 1)) = cs'[m - (i + 1)]'(by omega) :: cs'.drop (m - i) := by
          rw [List.drop_eq_getElem_cons (show m - (i + 1) < cs'.length by omega), show m - (i + 1) + 1 = m - i by omega]
        have hx0 : x0 = .int (cs'[m - (i + 1)]'(by omega)) := by
          rw [List.getElem?_reverse (by rw [List.length_map]; omega), List.length_map, List.getElem?_map, hm, show m - 1 - i = m - (i + 1) by omega, List.getElem?_eq_getElem (show m - (i + 1) < cs'.length by omega)] at hx
          exact (Option.some.inj hx).symm
        rw [hd]
        generalize cs'[m - (i + 1)]'(by omega) = c0 at hx0
        subst hx0
        walk_at "go"
        rw [← ev_cons]
        have nqr : rv ≠ qd := fun e => n6' (by rw [e]; exact h5)
        have hlq : ((suf r (cs'.drop (m - i))).reverse.map V.int).length ≤ 30 := by
          rw [List.length_map, List.length_reverse, suf_len, List.length_drop]
          omega
        refine w_append q7 (by have : (100 : Nat) < sizeLine := by decide
                               omega) ?_
        walk_at "go"
        refine ⟨_, rfl, fun b o hb => ?_, (upd_ne nqr).trans h7, ?_⟩
        · rw [upd_ne (fun e => by rw [e, n5] at hb; cases hb)]
          exact s7 _ _ hb
        · rw [upd_same, show suf r (c0 :: cs'.drop (m - i)) = ev (c0 :: cs'.drop (m - i)) r :: suf r (cs'.drop (m - i)) from rfl, List.reverse_cons, List.map_append]
          rfl
      · rintro σ H7 ⟨v9, rfl, s7, h7, q7⟩
        rw [show m - (cs'.map V.int).reverse.length = 0 by rw [List.length_reverse, List.length_map]; omega, List.drop_zero] at q7
        rw [show m - (cs'.map V.int).reverse.length = 0 by rw [List.length_reverse, List.length_map]; omega, List.drop_zero]
        cases cs' with
        | nil => exact absurd rfl he
        | cons c ds =>
          have hj30 : j < 30 := by
            rw [List.length_cons] at hm
            omega
          have hev := ev_bits (r := r) (by omega) hS
          have hds : ds.length + 1 = m := hm
          rw [show (suf r (c :: ds)).reverse.map V.int = (suf r ds).reverse.map V.int ++ [V.int (ev (c :: ds) r)] by
            rw [show suf r (c :: ds) = ev (c :: ds) r :: suf r ds from rfl, List.reverse_cons, List.map_append]
            rfl] at q7
          have hpj : (p ^ j).natAbs < 2 ^ (10 * j + 1) := by
            rw [Int.natAbs_pow, Nat.pow_succ, Nat.pow_mul]
            have h1 : p.natAbs ^ j ≤ (2 ^ 10) ^ j := Nat.pow_le_pow_left (by show p.natAbs ≤ 1024; omega) j
            have h2 : 0 < (2 ^ 10) ^ j := Nat.pow_pos (by decide)
            omega
          have m1 : CMx (ev (c :: ds) r) (p ^ j) := mx_w hev hpj (by simp only [List.length_cons]; omega)
          have d1 : CDivW (ev (c :: ds) r * p ^ j) ww := wdiv w0 w1 (by decide)
          have m2 : CMx (p ^ j) p := mx_w (b := 10) hpj (by omega) (by omega)
          have nfq : fd ≠ qd := fun e => by
            have := s4 _ _ hf3
            rw [e, n5] at this
            cases this
          walk_at "go"
          refine w_pop q7 ?_
          have s8 : Same H4 (upd H7 qd (.lst ((suf r ds).reverse.map V.int))) := fun b o hb => by
            rw [upd_ne (fun e => by rw [e, n5] at hb; cases hb)]
            exact s7 _ _ hb
          have q8 : upd H7 qd (.lst ((suf r ds).reverse.map V.int)) qd = some (.lst ((suf r ds).reverse.map V.int)) := upd_same
          generalize upd H7 qd (.lst ((suf r ds).reverse.map V.int)) = H8 at s8 q8 ⊢
          have f8 : H8 fd = some (.lst (acc.map V.int)) := s8 _ _ (s4 _ _ hf3)
          have S8 : Same H H8 := s3.trans (s4.trans s8)
          clear q7 s7 h7
          walk_at "go"
          refine w_append f8 (by rw [List.length_map]; have : (100 : Nat) < sizeLine := by decide
                                 omega) ?_
          have q9 : upd H8 fd (.lst (acc.map V.int ++ [.int (ev (c :: ds) r * p ^ j % ww)])) qd = some (.lst ((suf r ds).reverse.map V.int)) := (upd_ne (Ne.symm nfq)).trans q8
          have f9 : upd H8 fd (.lst (acc.map V.int ++ [.int (ev (c :: ds) r * p ^ j % ww)])) fd = some (.lst (acc.map V.int ++ [.int (ev (c :: ds) r * p ^ j % ww)])) := upd_same
          have S9 : Same H (upd H8 fd (.lst (acc.map V.int ++ [.int (ev (c :: ds) r * p ^ j % ww)]))) := fun b o hb => by
            rw [upd_ne (fun e => by rw [e, n1] at hb; cases hb)]
            exact S8 _ _ hb
          generalize upd H8 fd (.lst (acc.map V.int ++ [.int (ev (c :: ds) r * p ^ j % ww)])) = H9 at q9 f9 S9 ⊢
          walk_at "go"
          refine w_revx (xs := (suf r ds).reverse.map V.int) (sq q9) (al fun rn H10 n10 s10 h10 => ?_)
          rw [← List.map_reverse, List.reverse_reverse] at h10
          walk_at "go"
          refine ⟨ds.length, by omega, rn, suf r ds, acc ++ [ev (c :: ds) r * p ^ j % ww], j + 1, _, _, _, by rw [Int.pow_succ], S9.trans s10, h10, ?_, (fun e => by rw [e, f9] at n10; cases n10), suf_len r ds, by omega, by rw [List.length_append, haj]; rfl, ?_, ?_⟩
          · rw [List.map_append]
            exact s10 _ _ f9
          · intro z hz
            have := suf_bits (r := r) (by omega) (cs := ds) (fun z hz => hS z (List.mem_cons_of_mem _ hz)) z hz
            refine Nat.lt_of_lt_of_le this (Nat.pow_le_pow_right (by decide) ?_)
            omega
          · rw [← hmv, List.append_assoc, ← hds, Int.pow_succ]
            rfl
    · subst he
      have e0 : m = 0 := hm.symm
      subst e0
      walk_at "go"
      refine ⟨.ref fd, acc, rfl, .lst fd _ (s4 _ _ hf3), by omega, fun l' H5 n5 s5 h5 => ?_⟩
      walk_at "go"
      rw [show acc = mvd r p ww cs.length 1 cs by rw [← hmv]; exact (List.append_nil acc).symm] at h5
      exact q l' H5 (s3.trans (s4.trans s5)) h5

abbrev s_paper0 : Stmt := (top 23)
theorem sc_paper0 : FnScope ["coefficients", "prime", "whole", "count", "rest", "left", "found", "root"] ["coefficients", "prime", "whole"] (defScope s_paper0) :=
  ⟨rfl, rfl, rfl, by decide +kernel, rfl, by decide +kernel, by decide +kernel⟩
theorem ok_paper0 (F : Dn K mg "paper_of" s_paper0 ["coefficients", "prime", "whole"]) (T : Bt mg) (c_tkn : Cal P w K mg base 1 "taken_out" spTk []) (c_rootsof : Cal P w K mg base 3 "roots_of" spRootsOf []) : Cal P w K mg base 4 "paper_of" (spPaperN 0) [] := by
  refine F.cal sc_paper0 (fun vs H Q E h => ?_) (fun f cdv A outer s H vs Q E hr h => ?_)
  · obtain ⟨l, cs, p, k, rfl, _⟩ := h
    rfl
  · obtain ⟨l, cs, p, k, rfl, hl, hlen, hS, hp, p2, hk7, hkn, hd, q⟩ := h
    have k0 : k = 0 := by omega
    subst k0
    have hp1 := hp.1
    refine ⟨_, (pss_cons (ps_asg (pe_c c_tkn hr (by decide) (by rfl) (pa_cons (pv 0) (pa_cons (pv 1) (pa_cons (pv 2) pa_nil)))) (pg_tup rfl (pgs_cons (pg_name (i := 3) sc_paper0.nd rfl (Or.inl rfl)) (pgs_cons (pg_name (i := 4) sc_paper0.nd rfl (Or.inl rfl)) (pgs_cons (pg_name (i := 5) sc_paper0.nd rfl (Or.inl rfl)) pgs_nil)))))
      (pss_cons (ps_if (pt_cmpR op_eq (pv 5) pe_int (nomark _)) (pss_one (ps_ret pe_str)) pss_nil)
      (pss_cons (ps_set (i := 6) sc_paper0.nd rfl (Or.inl rfl) (pe_lst pa_nil))
      (pss_cons (ps_for PassesOwn.never rfl (pi_list (pe_c c_rootsof hr (by decide) (by rfl) (pa_cons (pv 4) (pa_cons (pv 1) pa_nil)))) (pg_name (i := 7) sc_paper0.nd rfl (Or.inl rfl)) pss_never)
      (pss_one (ps_ret (pe_tup (pa_cons (pv 3) (pa_cons (pe_callTy cTupOf (by rfl) T.tuple (by decide +kernel) (pa_cons (pv 6) pa_nil)) pa_nil))))))))), ?_⟩
    walk_at "go"
    refine ⟨l, cs, p, 0, rfl, hl, by omega, hp1, p2, fun t r H1 s1 ht hr1 => ?_⟩
    walk_at "go"
    rw [show decide (V.int (p ^ (tk p 0 cs).2.2) = V.int 1) = true from by rw [show (tk p 0 cs).2.2 = 0 from rfl, Int.pow_zero]; rfl]
    refine iteT ?_
    walk_at "go"
    exact q (.str "all") H1 s1 rfl
abbrev s_papern : Stmt := (top 23)
theorem sc_papern : FnScope ["coefficients", "prime", "whole", "count", "rest", "left", "found", "root"] ["coefficients", "prime", "whole"] (defScope s_papern) :=
  ⟨rfl, rfl, rfl, by decide +kernel, rfl, by decide +kernel, by decide +kernel⟩
theorem ok_papern {n L : Nat} (hL : 4 ≤ L) (F : Dn K mg "paper_of" s_papern ["coefficients", "prime", "whole"]) (T : Bt mg) (c_tkn : Cal P w K mg base 1 "taken_out" spTk []) (c_rootsof : Cal P w K mg base 3 "roots_of" spRootsOf []) (c_mvto : Cal P w K mg base 2 "moved_to" spMvd []) (c_rec : Cal P w K mg base L "paper_of" (spPaperN n) []) : Cal P w K mg base (L + 1) "paper_of" (spPaperN (n + 1)) [] := by
  refine F.cal sc_papern (fun vs H Q E h => ?_) (fun f cdv A outer s H vs Q E hr h => ?_)
  · obtain ⟨l, cs, p, k, rfl, _⟩ := h
    rfl
  · obtain ⟨l, cs, p, k, rfl, hl, hlen, hS, hp, p2, hk7, hkn, hd, q⟩ := h
    have hp1 := hp.1
    refine ⟨_, (pss_cons (ps_asg (pe_c c_tkn hr (by omega) (by rfl) (pa_cons (pv 0) (pa_cons (pv 1) (pa_cons (pv 2) pa_nil)))) (pg_tup rfl (pgs_cons (pg_name (i := 3) sc_papern.nd rfl (Or.inl rfl)) (pgs_cons (pg_name (i := 4) sc_papern.nd rfl (Or.inl rfl)) (pgs_cons (pg_name (i := 5) sc_papern.nd rfl (Or.inl rfl)) pgs_nil)))))
      (pss_cons (ps_if (pt_cmpR op_eq (pv 5) pe_int (nomark _)) (pss_one (ps_ret pe_str)) pss_nil)
      (pss_cons (ps_set (i := 6) sc_papern.nd rfl (Or.inl rfl) (pe_lst pa_nil))
      (pss_cons (ps_for PassesOwn.never rfl (pi_list (pe_c c_rootsof hr (by omega) (by rfl) (pa_cons (pv 4) (pa_cons (pv 1) pa_nil)))) (pg_name (i := 7) sc_papern.nd rfl (Or.inl rfl)) (pss_one (ps_expr (pe_bm PySem.F.plainAttrs_list PySem.F.slot_list_append PySem.F.type_list_append mt_append (pv 6) (pa_cons (pe_tup (pa_cons (pv 7) (pa_cons (pe_c c_rec hr (by omega) (by rfl) (pa_cons (pe_c c_mvto hr (by omega) (by rfl) (pa_cons (pv 4) (pa_cons (pv 7) (pa_cons (pv 1) (pa_cons (pv 5) pa_nil))))) (pa_cons (pv 1) (pa_cons (pv 5) pa_nil)))) pa_nil))) pa_nil)))))
      (pss_one (ps_ret (pe_tup (pa_cons (pv 3) (pa_cons (pe_callTy cTupOf (by rfl) T.tuple (by decide +kernel) (pa_cons (pv 6) pa_nil)) pa_nil))))))))), ?_⟩
    walk_at "go"
    refine ⟨l, cs, p, k, rfl, hl, by omega, hp1, p2, fun t r H1 s1 ht hr1 => ?_⟩
    walk_at "go"
    have hle := tk_le p k cs
    by_cases h0 : (tk p k cs).2.2 = 0
    · rw [show decide (V.int (p ^ (tk p k cs).2.2) = V.int 1) = true from by rw [h0, Int.pow_zero]; rfl]
      refine iteT ?_
      walk_at "go"
      refine q (.str "all") H1 s1 ?_
      unfold paperT
      rw [if_pos h0]
      rfl
    · have hk1 : (tk p k cs).2.2 ≤ n := by
        by_cases e : k = n + 1
        · have h := (hd e).resolve_left (by omega)
          subst e
          exact tk_less h
        · omega
      have hun := tk_unit p k cs (by omega)
      have htl := tk_len p k cs
      have hT : paperT p (n + 1) k cs = .node (tk p k cs).1 ((rts p (tk p k cs).2.1).map fun r => (r, paperT p n (tk p k cs).2.2 (trim (mvd r p (p ^ (tk p k cs).2.2) (tk p k cs).2.1.length 1 (tk p k cs).2.1)))) := by
        conv => lhs; unfold paperT
        rw [if_neg h0]
      have hSr : Sml 8000 (tk p k cs).2.1 := tk_sml hS hp1 k
      rw [hT] at q
      have hrl := rts_len hp _ (tk p k cs).2.1 rfl hun
      generalize (tk p k cs).1 = cc at *
      generalize (tk p k cs).2.1 = rest at *
      generalize (tk p k cs).2.2 = k' at *
      have hpk : p ^ k' ≠ 1 := fun e => by
        obtain ⟨j, rfl⟩ : ∃ j, k' = j + 1 := ⟨k' - 1, by omega⟩
        have hpj : 0 < p ^ j := Int.pow_pos (by omega)
        rw [Int.pow_succ] at e
        have := Int.mul_le_mul_of_nonneg_right (show (1 : Int) ≤ p ^ j by omega) (show 0 ≤ p by omega)
        omega
      have hpk0 : 0 < p ^ k' := Int.pow_pos (by omega)
      have hpw : p ∣ p ^ k' := by
        obtain ⟨j, rfl⟩ : ∃ j, k' = j + 1 := ⟨k' - 1, by omega⟩
        rw [Int.pow_succ]
        exact Int.dvd_mul_left _ _
      have hpb : (p ^ k').natAbs < 2 ^ 8000 := by
        rw [Int.natAbs_pow]
        refine Nat.lt_of_le_of_lt (Nat.pow_le_pow_left (show p.natAbs ≤ 2 ^ 10 by show p.natAbs ≤ 1024; omega) k') ?_
        rw [← Nat.pow_mul]
        exact Nat.pow_lt_pow_right (by decide) (by omega)
      rw [decI, decide_eq_false hpk]
      refine iteF ?_
      walk_at "go"
      refine al fun fd H2 n2 s2 h2 => ?_
      walk_at "go"
      refine ⟨r, rest, p, rfl, s2 _ _ hr1, by omega, hp, by omega, fun l' H3 s3 h3 => ?_⟩
      walk_at "go"
      refine for_list (K := K) (a := l') (xs := (rts p rest).map V.int) (fun i σ H' => ∃ (as : List Addr) (v7 : Option V), σ = [some (.ref l), some (.int p), some (.int (p ^ k)), some (.int (cc : Nat)), some (.ref r), some (.int (p ^ k')), some (.ref fd), v7] ∧ Same H1 H' ∧ H' l' = some (.lst ((rts p rest).map V.int)) ∧ H' fd = some (.lst (as.map V.ref)) ∧ Paired (fun (q : Int × Tr) a => ∃ u, H' a = some (.tup [.int q.1, u]) ∧ TrAt H' n u q.2) (((rts p rest).take i).map (fun r0 => (r0, paperT p n k' (trim (mvd r0 p (p ^ k') rest.length 1 rest))))) as) ⟨[], none, rfl, s2.trans s3, h3, s3 _ _ h2, .nil⟩ (fun i σ H' _ z => by obtain ⟨_, _, _, _, z, _⟩ := z; exact sq z) ?_ ?_
      · rintro i x0 σ H4 hx ⟨as, v7, rfl, s4, h4, f4, P4⟩
        obtain ⟨r0, hr0, rfl⟩ := get_map hx
        have hmem := List.mem_of_getElem? hr0
        obtain ⟨hr00, hr01⟩ := (rts_nd p rest).2 r0 hmem
        have hroot : p ∣ ev rest r0 := by
          unfold rts at hmem
          obtain ⟨j, hj, ej⟩ := List.mem_map.mp hmem
          rw [← ej]
          exact Int.dvd_of_emod_eq_zero (of_decide_eq_true (List.mem_filter.mp hj).2)
        have hi : i < (rts p rest).length := (List.getElem?_eq_some_iff.mp hr0).1
        have etk : (rts p rest).take (i + 1) = (rts p rest).take i ++ [r0] := by rw [List.take_succ_eq_append_getElem hi, (List.getElem?_eq_some_iff.mp hr0).2]
        have hal : as.length ≤ 30 := by
          have := P4.length
          rw [List.length_map, List.length_take] at this
          omega
        walk_at "go"
        refine ⟨r, rest, r0, p, p ^ k', 8000, rfl, s4 _ _ hr1, by omega, hSr, by omega, hr00, by omega, hp1, p2, hpk0, hpb, fun l2 H5 s5 h5 => ?_⟩
        walk_at "go"
        refine ⟨l2, _, p, k', rfl, h5, ?_, fun z hz => ?_, hp, p2, by omega, hk1, fun _ => .inr fun z hz => mvd_root hpw hroot z (trim_mem hz), fun u H6 s6 hu => ?_⟩
        · have := trim_len (mvd r0 p (p ^ k') rest.length 1 rest)
          rw [mvd_len r0 p (p ^ k') rest.length 1 rest rfl] at this
          omega
        · have := mvd_rng r0 p (p ^ k') hpk0 _ _ _ z (trim_mem hz)
          exact wide_le this.1 (Int.le_of_lt this.2) hpb
        walk_at "go"
        refine al fun tp H7 n7 s7 h7 => ?_
        walk_at "go"
        have S7 : Same H4 H7 := s5.trans (s6.trans s7)
        have f7 := S7 _ _ f4
        refine w_append f7 (by rw [List.length_map]; have : (100 : Nat) < sizeLine := by decide
                               omega) ?_
        have nl : l' ≠ fd := fun e => by
          have e1 := h3
          rw [e, s3 _ _ h2] at e1
          have e2 := congrArg List.length (HO.lst.inj (Option.some.inj e1))
          rw [List.length_nil, List.length_map] at e2
          omega
        walk_at "go"
        refine ⟨as ++ [tp], _, rfl, fun b o hb => ?_, (upd_ne nl).trans (S7 _ _ h4), by rw [upd_same, List.map_append]; rfl, ?_⟩
        · rw [upd_ne (fun e => by rw [e, n2] at hb; cases hb)]
          exact S7 _ _ (s4 _ _ hb)
        · rw [etk, List.map_append]
          refine Paired.snoc (paired_imp (fun _ _ z => ?_) P4) ?_
          · obtain ⟨u', z1, z2⟩ := z
            have z1 := S7 _ _ z1
            exact ⟨u', (upd_ne (fun e => by rw [e, f7] at z1; cases z1)).trans z1, TrAt.upd f7 (TrAt.same S7 z2)⟩
          · exact ⟨u, (upd_ne (fun e => by rw [e, f7] at h7; cases h7)).trans h7, TrAt.upd f7 (TrAt.same s7 hu)⟩
      · rintro σ H4 ⟨as, v7, rfl, s4, h4, f4, P4⟩
        rw [List.length_map, List.take_length] at P4
        walk_at "go"
        refine w_tupL (sq f4) (al fun e H5 n5 s5 h5 => ?_)
        walk_at "go"
        refine al fun t2 H6 n6 s6 h6 => ?_
        walk_at "go"
        exact q (.ref t2) H6 (s1.trans (s4.trans (s5.trans s6))) ⟨t2, e, as, rfl, h6, s6 _ _ h5, paired_imp (fun _ _ z => by
          obtain ⟨u, z1, z2⟩ := z
          exact ⟨u, (s5.trans s6) _ _ z1, TrAt.same (s5.trans s6) z2⟩) P4⟩
theorem ok_papof (F : Dn K mg "paper_of" s_paper0 ["coefficients", "prime", "whole"]) (T : Bt mg) (c_tkn : Cal P w K mg base 1 "taken_out" spTk []) (c_rootsof : Cal P w K mg base 3 "roots_of" spRootsOf []) (c_mvto : Cal P w K mg base 2 "moved_to" spMvd []) (n : Nat) : Cal P w K mg base (4 + n) "paper_of" (spPaperN n) [] := by
  induction n with
  | zero => exact ok_paper0 F T c_tkn c_rootsof
  | succ n ih => exact ok_papern (Nat.le_add_right 4 n) F T c_tkn c_rootsof c_mvto ih

abbrev s_leaves : Stmt := (top 24)
theorem sc_leaves : FnScope ["tree", "prime", "found", "waiting", "rest", "wide", "here", "root", "below"] ["tree", "prime"] (defScope s_leaves) :=
  ⟨rfl, rfl, rfl, by decide +kernel, rfl, by decide +kernel, by decide +kernel⟩
theorem ok_leaves (F : Dn K mg "leaves" s_leaves ["tree", "prime"]) (T : Bt mg) : Cal P w K mg base 1 "leaves" spLeaves [] := by
  refine F.cal sc_leaves (fun vs H Q E h => ?_) (fun f cdv A outer s H vs Q E hr h => ?_)
  · obtain ⟨v, p, n, T, rfl, _⟩ := h
    rfl
  · obtain ⟨v, p, n, tr, rfl, ht, hg, p1, p2, hn, hN, q⟩ := h
    refine ⟨_, (pss_cons (ps_set (i := 2) sc_leaves.nd rfl (Or.inl rfl) (pe_lst pa_nil))
      (pss_cons (ps_set (i := 3) sc_leaves.nd rfl (Or.inl rfl) (pe_lst (pa_cons (pe_tup (pa_cons pe_int (pa_cons pe_int (pa_cons (pv 0) pa_nil)))) pa_nil)))
      (pss_cons (ps_while PassesOwn.never (pt_cmpR (op_neE hr.units) (pv 3) (pe_lst pa_nil) (nomark _)) (pss_cons (ps_asg (pe_bm0 PySem.F.plainAttrs_list PySem.F.slot_list_pop PySem.F.type_list_pop mt_pop (pv 3)) (pg_tup rfl (pgs_cons (pg_name (i := 4) sc_leaves.nd rfl (Or.inl rfl)) (pgs_cons (pg_name (i := 5) sc_leaves.nd rfl (Or.inl rfl)) (pgs_cons (pg_name (i := 6) sc_leaves.nd rfl (Or.inl rfl)) pgs_nil)))))
      (pss_one (ps_if (pt_cmpR (op_eqTS (u0 hr)) (pv 6) pe_str (nomark _)) (pss_one (ps_expr (pe_bm PySem.F.plainAttrs_list PySem.F.slot_list_append PySem.F.type_list_append mt_append (pv 2) (pa_cons (pe_tup (pa_cons (pv 4) (pa_cons (pv 5) pa_nil))) pa_nil)))) (pss_one (ps_for PassesOwn.never rfl (pi_tup (pe_ix ix_tup (pv 6) pe_int (fun _ _ => rfl))) (pg_tup rfl (pgs_cons (pg_name (i := 7) sc_leaves.nd rfl (Or.inl rfl)) (pgs_cons (pg_name (i := 8) sc_leaves.nd rfl (Or.inl rfl)) pgs_nil))) (pss_one (ps_expr (pe_bm PySem.F.plainAttrs_list PySem.F.slot_list_append PySem.F.type_list_append mt_append (pv 3) (pa_cons (pe_tup (pa_cons (pe_op op_add (pv 4) (pe_op oMul (pv 5) (pv 7))) (pa_cons (pe_op oMul (pv 5) (pv 1)) (pa_cons (pv 8) pa_nil)))) pa_nil))))))))))
      (pss_one (ps_ret (pv 2)))))), ?_⟩
    walk_at "go"
    refine al fun fd H1 n1 s1 h1 => ?_
    walk_at "go"
    refine al fun t0 H2 n2 s2 h2 => ?_
    walk_at "go"
    refine al fun wd H3 n3 s3 h3 => ?_
    walk_at "go"
    have hne : wd ≠ fd := fun e => by
      rw [e, s2 _ _ h1] at n3
      cases n3
    have nw : H wd = none := none_of (s1.trans s2) n3
    refine while_m (fun m σ' H' => ∃ (st : List Wt) (as fs : List Addr) (F : List (Int × Int)) (v4 v5 v6 v7 v8 : Option V), σ' = [some v, some (.int p), some (.ref fd), some (.ref wd), v4, v5, v6, v7, v8] ∧ Same H H' ∧ H' wd = some (.lst (as.map V.ref)) ∧ H' fd = some (.lst (fs.map V.ref)) ∧ Paired (Tp H') F fs ∧ Paired (WtAt H') st as ∧ (∀ q ∈ st, WtOk p n q) ∧ F ++ st.reverse.flatMap (WtS p) = lv p n tr 0 1 ∧ m = (st.map fun q => nds q.2.2.1 q.2.2.2).sum ∧ F.length + m ≤ 50000) (nds n tr)
      ⟨[(0, 1, n, tr)], [t0], [], [], none, none, none, none, none, rfl, s1.trans (s2.trans s3), h3, s3 _ _ (s2 _ _ h1), .nil, .cons ⟨v, s3 _ _ h2, ht.same (s1.trans (s2.trans s3))⟩ .nil, fun q hq => ?_, ?_, by simp, by simpa using hN⟩ ?_
    · rw [List.mem_singleton.mp hq]
      exact ⟨hg, 0, by rw [Int.pow_zero], Nat.zero_add n⟩
    · simp [WtS]
    rintro m σ' H4 ⟨st, as, fs, F, v4, v5, v6, v7, v8, rfl, s4, hw, hf, PF, PS, ok, hlv, hm, hN4⟩
    clear h1 h2 h3 s1 s2 s3 n2 n3
    walk_at "go"
    refine al fun e H5 n5 s5 h5 => ?_
    walk_at "go"
    refine w_neE (sq (s5 _ _ hw)) (sq h5) ?_
    walk_at "go"
    rcases List.eq_nil_or_concat as with rfl | ⟨as', a, rfl⟩
    · cases PS
      refine iteF ?_
      walk_at "go"
      refine q fd fs H5 (s4.trans s5) (s5 _ _ hf) ?_
      rw [← hlv]
      show Paired (Tp H5) (F ++ []) fs
      rw [List.append_nil]
      exact paired_imp (fun _ _ z => s5 _ _ z) PF
    · rw [List.concat_eq_append] at *
      obtain ⟨st', ⟨r, ww, k, t⟩, rfl, PS', hx⟩ := paired_snoc PS
      clear PS
      rw [show (!((as' ++ [a]).map V.ref).isEmpty) = true by simp]
      refine iteT (while_nm ?_)
      have hw5 := s5 _ _ hw
      rw [List.map_append] at hw5
      walk_at "go"
      refine w_pop hw5 ?_
      have f6 : upd H5 wd (.lst (as'.map V.ref)) fd = some (.lst (fs.map V.ref)) := (upd_ne hne.symm).trans (s5 _ _ hf)
      have w6 : upd H5 wd (.lst (as'.map V.ref)) wd = some (.lst (as'.map V.ref)) := upd_same
      have S6 : Same H (upd H5 wd (.lst (as'.map V.ref))) := fun b o hb => by
        rw [upd_ne (fun e => by rw [e, nw] at hb; cases hb)]
        exact s5 _ _ (s4 _ _ hb)
      have PF6 : Paired (Tp (upd H5 wd (.lst (as'.map V.ref)))) F fs := paired_imp (fun _ _ z => Tp.upd hw5 (s5 _ _ z)) PF
      have PS6 : Paired (WtAt (upd H5 wd (.lst (as'.map V.ref)))) st' as' := paired_imp (fun _ _ z => WtAt.upd hw5 (z.same s5)) PS'
      obtain ⟨u, hu, hut⟩ := WtAt.upd (ys := as'.map V.ref) hw5 (hx.same s5)
      clear hw hw5 hf PF PS' hx
      generalize upd H5 wd (.lst (as'.map V.ref)) = H6 at *
      have hu : H6 a = some (.tup [.int r, .int ww, u]) := hu
      have hut : TrAt H6 k u t := hut
      refine w_gtup (sqt hu) rfl ?_
      walk_at "go"
      obtain ⟨gx, j, ej, ek⟩ := ok (r, ww, k, t) (by simp)
      have eww : ww = p ^ j := ej
      have ekk : j + k = n := ek
      clear ej ek
      have ok' : ∀ q ∈ st', WtOk p n q := fun q hq => ok q (List.mem_append_left _ hq)
      rw [List.reverse_append, List.map_append, List.sum_append] at *
      have hlv : F ++ (lv p k t r ww ++ st'.reverse.flatMap (WtS p)) = lv p n tr 0 1 := hlv
      have hm : m = (st'.map fun q => nds q.2.2.1 q.2.2.2).sum + (nds k t + 0) := hm
      have hn1 := nds_pos k t
      cases t with
      | all =>
        have eu : u = .str "all" := by cases k <;> exact hut
        subst eu
        refine w_eqS rfl ?_
        walk_at "go"
        refine iteT ?_
        walk_at "go"
        refine al fun tp H7 n7 s7 h7 => ?_
        walk_at "go"
        have f7 := s7 _ _ f6
        have hFl : fs.length < 50001 := by
          have := PF6.length
          omega
        refine w_append f7 (by rw [List.length_map]; have : (50001 : Nat) < sizeLine := by decide
                               omega) ?_
        walk_at "go"
        refine ⟨m - 1, by omega, st', as', fs ++ [tp], F ++ [(r, ww)], _, _, _, _, _, rfl, fun b o hb => ?_, (upd_ne hne).trans (s7 _ _ w6), ?_, ?_, paired_imp (fun _ _ z => WtAt.upd f7 (z.same s7)) PS6, ok', ?_, ?_, ?_⟩
        · rw [upd_ne (fun e => by rw [e, n1] at hb; cases hb)]
          exact s7 _ _ (S6 _ _ hb)
        · rw [upd_same, List.map_append]
          rfl
        · exact Paired.snoc (paired_imp (fun _ _ z => Tp.upd f7 (s7 _ _ z)) PF6) (Tp.upd f7 h7)
        · rw [← hlv, List.append_assoc]
          cases k <;> rfl
        · have : nds k .all = 1 := by cases k <;> rfl
          omega
        · rw [List.length_append, List.length_singleton]
          omega
      | node c ks =>
        cases k with
        | zero => exact hut.elim
        | succ k =>
          obtain ⟨t, e2, bs, rfl, ht2, he2, P2⟩ := hut
          refine w_eqTS ht2 ?_
          walk_at "go"
          refine iteF ?_
          walk_at "go"
          have PB : nds (k + 1) (.node c ks) = 1 + (ks.map fun q => nds k q.2).sum := rfl
          have hm' : (ks.map fun q => nds k q.2).sum + F.length + (st'.map fun q => nds q.2.2.1 q.2.2.2).sum ≤ 50000 := by omega
          refine for_it (walk_tup (K := K) (xs := bs.map V.ref)) (fun i σ H' => ∃ (cs : List Addr) (v7 v8 : Option V), σ = [some v, some (.int p), some (.ref fd), some (.ref wd), some (.int r), some (.int ww), some (.ref t), v7, v8] ∧ Same H H' ∧ H' wd = some (.lst ((as' ++ cs).map V.ref)) ∧ H' fd = some (.lst (fs.map V.ref)) ∧ Paired (Tp H') F fs ∧ Paired (WtAt H') (st' ++ (ks.take i).map fun q => (r + ww * q.1, ww * p, k, q.2)) (as' ++ cs) ∧ H' e2 = some (.tup (bs.map V.ref)) ∧ Paired (fun (q : Int × Tr) a => ∃ u, H' a = some (.tup [.int q.1, u]) ∧ TrAt H' k u q.2) ks bs)
            ⟨[], _, _, rfl, S6, by rw [List.append_nil]; exact w6, f6, PF6, by simpa using PS6, he2, P2⟩ (fun i σ H' _ z => by obtain ⟨_, _, _, _, _, _, _, _, _, z, _⟩ := z; exact sqt z) ?_ ?_
          · rintro i x0 σ H7 _ hi ⟨cs, v7, v8, rfl, S7, w7, f7, PF7, PS7, he7, P7⟩ ⟨rfl, hv⟩
            obtain ⟨a2, ha2, rfl⟩ := get_map hv
            obtain ⟨pr, hpr, u2, hu2, ht3⟩ := paired_get P7 ha2
            have hmem : pr ∈ ks := List.mem_of_getElem? hpr
            obtain ⟨gr0, gr1⟩ : (0 ≤ pr.1 ∧ pr.1 < p) ∧ Good p pr.2 := by
              have gx : Good p (.node c ks) := gx
              cases gx with
              | node nd rg sub => exact ⟨rg pr hmem, sub pr hmem⟩
            have hwb : ww.natAbs < 2 ^ 7011 := by
              rw [eww]
              exact Nat.lt_of_lt_of_le (pow_bits p1 p2 j) (Nat.pow_le_pow_right (by decide) (by omega))
            have m1 : CMx ww pr.1 := mx_w (b := 10) hwb (by omega) (by decide)
            have m2 : CMx ww p := mx_w (b := 10) hwb (by omega) (by decide)
            refine w_gtup (sqt hu2) rfl ?_
            walk_at "go"
            refine al fun tp H8 n8 s8 h8 => ?_
            walk_at "go"
            have w8 := s8 _ _ w7
            have hl8 : (as' ++ cs).length ≤ 50000 := by
              have := PS7.length
              rw [List.length_append, List.length_map, List.length_take] at this
              have h1 := len_nds k ks
              have h2 := len_ndsW st'
              omega
            refine w_append w8 (by rw [List.length_map]; have : (50001 : Nat) < sizeLine := by decide
                                   omega) ?_
            walk_at "go"
            refine ⟨cs ++ [tp], _, _, rfl, fun b o hb => ?_, ?_, (upd_ne hne.symm).trans (s8 _ _ f7), paired_imp (fun _ _ z => Tp.upd w8 (s8 _ _ z)) PF7, ?_, (upd_ne (fun e => by rw [e, w7] at he7; cases he7)).trans (s8 _ _ he7), paired_imp (fun _ _ z => ?_) P7⟩
            · rw [upd_ne (fun e => by rw [e, nw] at hb; cases hb)]
              exact s8 _ _ (S7 _ _ hb)
            · rw [upd_same, ← List.append_assoc, List.map_append (l₁ := as' ++ cs)]
              rfl
            · rw [← List.append_assoc, Paired.take_snoc hpr, List.map_append (l₁ := ks.take i), ← List.append_assoc]
              exact Paired.snoc (paired_imp (fun _ _ z => WtAt.upd w8 (z.same s8)) PS7) (WtAt.upd w8 ⟨u2, h8, ht3.same s8⟩)
            · obtain ⟨u', z1, z2⟩ := z
              have z1 := s8 _ _ z1
              exact ⟨u', (upd_ne (fun e => by rw [e, w8] at z1; cases z1)).trans z1, TrAt.upd w8 (TrAt.same s8 z2)⟩
          · rintro σ H7 ⟨cs, v7, v8, rfl, S7, w7, f7, PF7, PS7, he7, P7⟩
            rw [List.length_map, ← P2.length, List.take_length] at PS7
            walk_at "go"
            refine ⟨m - 1, by omega, st' ++ ks.map fun q => (r + ww * q.1, ww * p, k, q.2), as' ++ cs, fs, F, _, _, _, _, _, rfl, S7, w7, f7, PF7, PS7, fun q hq => ?_, ?_, ?_, ?_⟩
            · rcases List.mem_append.mp hq with h | h
              · exact ok' q h
              · obtain ⟨pr, hpr, rfl⟩ := List.mem_map.mp h
                have gx : Good p (.node c ks) := gx
                cases gx with
                | node nd rg sub => exact ⟨sub pr hpr, j + 1, by show ww * p = _; rw [eww, Int.pow_succ], by show j + 1 + k = n; omega⟩
            · rw [← hlv, List.reverse_append, List.flatMap_append, ← List.map_reverse]
              congr 2
              show (ks.reverse.map fun q => (r + ww * q.1, ww * p, k, q.2)).flatMap (WtS p) = ks.reverse.flatMap fun q => lv p k q.2 (r + ww * q.1) (ww * p)
              rw [List.flatMap_map]
              rfl
            · rw [List.map_append, List.sum_append, List.map_map, hm, PB]
              have : ((fun q : Wt => nds q.2.2.1 q.2.2.2) ∘ fun q : Int × Tr => (r + ww * q.1, ww * p, k, q.2)) = fun q => nds k q.2 := rfl
              rw [this]
              omega
            · omega

abbrev s_ordered : Stmt := (top 26)
theorem sc_ordered : FnScope ["pairs", "by_first", "rest"] ["pairs"] (defScope s_ordered) :=
  ⟨rfl, rfl, rfl, by decide +kernel, rfl, by decide +kernel, by decide +kernel⟩
theorem ok_ordered (F : Dn K mg "ordered" s_ordered ["pairs"]) (T : Bt mg) (zdict : mg "dict" = none) (zsorted : mg "sorted" = none) : Cal P w K mg base 1 "ordered" spOrd [] := by
  refine F.cal sc_ordered (fun vs H Q E h => ?_) (fun f cdv A outer s H vs Q E hr h => ?_)
  · obtain ⟨l, F, as, rfl, _⟩ := h
    rfl
  · obtain ⟨l, es, as, rfl, hl, hP, hn, hN, q⟩ := h
    refine ⟨_, (pss_cons (ps_set (i := 1) sc_ordered.nd rfl (Or.inr rfl) (pe_callTy (call_dictP rfl) (by rfl) zdict (by decide +kernel) (pa_cons (pv 0) pa_nil)))
      (pss_one (ps_ret (pe_lc (own := [("rest", 2)]) (g := gName 2) (tt := tYes) (te := (tTup (tCons (tVar 2) (tCons (tDGet (tVar 1) (tVar 2)) tNil)))) rfl sc_ordered.nd (pi_list (pe_callB cr_sortedI (by rfl) zsorted (by decide +kernel) (pa_cons (pe_lock (pe_lc (own := [("rest", 2)]) (g := gName 2) (tt := tYes) (te := (tCB _ (tCons (tVar 2) tNil))) rfl sc_ordered.nd (pi_keys (pv 1)) (blkOk_by (own := [("rest", 2)]) (N := ["pairs", "by_first", "rest"]) (sc := defScope s_ordered) (by decide +kernel)) (fun _ _ _ _ _ => (pg_name (i := 2) sc_ordered.nd rfl (Or.inl rfl))) (fun _ _ _ _ _ => pts_nil) (fun _ _ _ _ _ => (pe_callTy cInt1 (by rfl) T.int (by decide +kernel) (pa_cons (pv 2) pa_nil))))) pa_nil))) (blkOk_by (own := [("rest", 2)]) (N := ["pairs", "by_first", "rest"]) (sc := defScope s_ordered) (by decide +kernel)) (fun _ _ _ _ _ => (pg_name (i := 2) sc_ordered.nd rfl (Or.inl rfl))) (fun _ _ _ _ _ => pts_nil) (fun _ _ _ _ _ => (pe_tup (pa_cons (pv 2) (pa_cons (pe_dget (u66 hr) (pv 1) (pv 2) (fun _ _ => rfl)) pa_nil)))))))), ?_⟩
    walk_at "go"
    refine ⟨l, as, toK es, rfl, sq hl, ?_, fun d hd => ?_⟩
    · exact toK_tp hP
    rw [show mergeK [] (toK es) = toK es from mergeK_toK es [] hn]
    have s3 : Same H (upd H d (.dK (toK es))) := Same.new hd
    have h3 : upd H d (.dK (toK es)) d = some (.dK (toK es)) := upd_same
    generalize upd H d (.dK (toK es)) = H3 at s3 h3 ⊢
    walk_at "go"
    refine ⟨d, .dK (toK es), h3, trivial, fun od => ?_⟩
    walk_at "go"
    refine ⟨_, rfl, d, od, rfl, .inl ⟨toK es, upd_same, ?_⟩⟩
    intro D hD
    have nD : D ≠ d := fun z => by
      rw [z, upd_same] at hD
      cases hD
    refine lc_pure ((es.map (·.1)).map V.int) ((es.map (·.1)).map V.int) walk_es hD (fun H' s => s _ _ upd_same) rfl (by rw [List.length_map, List.length_map]; omega) (fun _ => rfl) ?_ ?_
    · intro j x0 y0 H5 hx0 hy0 s5 Q' hQ'
      rw [hx0] at hy0
      cases hy0
      obtain ⟨p0, hp0, rfl⟩ := get_map hx0
      walk_at "go"
      exact hQ' _ (Same.refl _)
    intro H5 s5 hD5
    refine ⟨s5 _ _ upd_same, ?_⟩
    have s6 : Same H3 (upd H5 d (.dK (toK es))) := fun b o hb => by
      by_cases z : b = d
      · subst z
        rw [upd_same, ← h3, hb]
      · rw [upd_ne z]
        exact s5 _ _ ((upd_ne z).trans hb)
    have h6 : upd H5 d (.dK (toK es)) D = some (.lst ((es.map (·.1)).map V.int)) := (upd_ne nD).trans hD5
    have d6 : upd H5 d (.dK (toK es)) d = some (.dK (toK es)) := upd_same
    generalize upd H5 d (.dK (toK es)) = H6 at s6 h6 d6 ⊢
    walk_at "go"
    refine ⟨D, es.map (·.1), rfl, sq h6, fun qs p pm so np => ?_⟩
    have s7 : Same H6 (upd H6 p (.lst (qs.map V.int))) := Same.new np
    have h7 : upd H6 p (.lst (qs.map V.int)) p = some (.lst (qs.map V.int)) := upd_same
    have d7 := s7 _ _ d6
    generalize upd H6 p (.lst (qs.map V.int)) = H7 at s7 h7 d7 ⊢
    walk_at "go"
    have qlen : qs.length ≤ 50000 := by rw [pm.length_eq, List.length_map]; omega
    intro D2 hD2
    refine lc_rel (qs.map V.int) (fun x y G => ∃ (p : Int) (t : Addr), x = V.int p ∧ y = V.ref t ∧ G t = some (.tup [.int p, .int (look es p)])) (fun x y G G' sm z => by
      obtain ⟨p, t, e1, e2, e3⟩ := z
      exact ⟨p, t, e1, e2, sm _ _ e3⟩) walk_list hD2 (fun H' s => sq (s _ _ h7)) (by rw [List.length_map]; omega) (fun _ => rfl) ?_ ?_
    · intro j x0 H8 hx0 s8 hacc Q' hQ'
      obtain ⟨acc, hacc⟩ := hacc
      obtain ⟨p0, hp0, rfl⟩ := get_map hx0
      have hin : p0 ∈ es.map (·.1) := pm.mem_iff.mp (List.mem_of_getElem? hp0)
      obtain ⟨z0, hz0, ez0⟩ := List.mem_map.mp hin
      have hv := val_some hn hz0
      rw [show z0.1 = p0 from ez0] at hv
      walk_at "go"
      refine w_dget ?_
      walk_at "go"
      refine ⟨d, .int (look es p0), rfl, ?_, ?_⟩
      · rw [← hv]
        exact DGet.k (k := .inl p0) (s8 _ _ d7)
      walk_at "go"
      refine al fun t H9 n9 s9 h9 => ?_
      exact hQ' _ H9 s9 ⟨p0, t, rfl, rfl, rm_of (fun e => by rw [e] at n9; rw [n9] at hacc; cases hacc) h9⟩
    intro H8 ys s8 h8 pr8
    obtain ⟨ts8, rfl, hp8⟩ := prl_of pr8
    have S8 : Same H H8 := s3.trans (s6.trans (s7.trans s8))
    walk_at "go"
    exact q _ _ ts8 H8 S8 (look_perm hn pm) (by rw [List.map_map, show ((fun x : Int × Int => x.1) ∘ fun p => (p, look es p)) = id from rfl, List.map_id]; exact so) h8 hp8

abbrev s_widest : Stmt := (top 25)
theorem sc_widest : FnScope ["classes", "prime", "levels", "rest", "wide", "found", "number", "here", "many", "near"] ["classes", "prime"] (defScope s_widest) :=
  ⟨rfl, rfl, rfl, by decide +kernel, rfl, by decide +kernel, by decide +kernel⟩
theorem ok_widest (F : Dn K mg "widest" s_widest ["classes", "prime"]) (T : Bt mg) (c_ordered : Cal P w K mg base 1 "ordered" spOrd []) : Cal P w K mg base 2 "widest" spWid [] := by
  refine F.cal sc_widest (fun vs H Q E h => ?_) (fun f cdv A outer s H vs Q E hr h => ?_)
  · obtain ⟨c, cl, as, p, K, rfl, _⟩ := h
    rfl
  · obtain ⟨c, cl, as, p, KK, rfl, hc, hP, hpw, p1, p2, hK, hN, hnd, q⟩ := h
    refine ⟨_, (pss_cons (ps_set (i := 2) sc_widest.nd rfl (Or.inl rfl) pe_dnewK)
      (pss_cons (ps_for PassesOwn.never rfl (pi_list (pv 0)) (pg_tup rfl (pgs_cons (pg_name (i := 3) sc_widest.nd rfl (Or.inl rfl)) (pgs_cons (pg_name (i := 4) sc_widest.nd rfl (Or.inl rfl)) pgs_nil))) (pss_one (ps_expr (pe_bm PySem.F.plainAttrs_list PySem.F.slot_list_append PySem.F.type_list_append mt_append (pe_dsetd (pv 2) (pv 4) (pe_lst pa_nil) ⟨rfl, rfl, rfl, rfl⟩) (pa_cons (pv 3) pa_nil)))))
      (pss_cons (ps_set (i := 5) sc_widest.nd rfl (Or.inl rfl) (pe_lst pa_nil))
      (pss_cons (ps_while PassesOwn.never (pt_cmpR (op_neDE (u0 hr)) (pv 2) pe_dnewK (nomark _)) (pss_cons (ps_set (i := 4) sc_widest.nd rfl (Or.inl rfl) (pe_callB (cr_max rfl) (by rfl) T.max (by decide +kernel) (pa_cons (pe_lock (pe_lc (own := [("number", 6)]) (g := gName 6) (tt := tYes) (te := (tCB _ (tCons (tVar 6) tNil))) rfl sc_widest.nd (pi_keys (pv 2)) (blkOk_by (own := [("number", 6)]) (N := ["classes", "prime", "levels", "rest", "wide", "found", "number", "here", "many", "near"]) (sc := defScope s_widest) (by decide +kernel)) (fun _ _ _ _ _ => (pg_name (i := 6) sc_widest.nd rfl (Or.inl rfl))) (fun _ _ _ _ _ => pts_nil) (fun _ _ _ _ _ => (pe_callTy cInt1 (by rfl) T.int (by decide +kernel) (pa_cons (pv 6) pa_nil))))) pa_nil)))
      (pss_cons (ps_set (i := 7) sc_widest.nd rfl (Or.inl rfl) (pe_dpop1 (pv 2) (pv 4) ⟨rfl, rfl, rfl, rfl⟩))
      (pss_cons (ps_set (i := 8) sc_widest.nd rfl (Or.inl rfl) pe_dnewK)
      (pss_cons (ps_for PassesOwn.never rfl (pi_list (pv 7)) (pg_name (i := 3) sc_widest.nd rfl (Or.inl rfl)) (pss_one (ps_asg (pe_op op_add (pe_dget2 (u66 hr) (pv 8) (pe_op op_mod (pv 3) (pe_callB (cMax2 rfl) (by rfl) T.max (by decide +kernel) (pa_cons pe_int (pa_cons (pe_op op_fdivW (pv 4) (pv 1)) pa_nil)))) pe_int ⟨rfl, rfl, rfl, rfl⟩) pe_int) (pg_sub (pv 8) (pe_op op_mod (pv 3) (pe_callB (cMax2 rfl) (by rfl) T.max (by decide +kernel) (pa_cons pe_int (pa_cons (pe_op op_fdivW (pv 4) (pv 1)) pa_nil)))) (set_dict (u66 hr))))))
      (pss_one (ps_for PassesOwn.never rfl (pi_list (pv 7)) (pg_name (i := 3) sc_widest.nd rfl (Or.inl rfl)) (pss_cons (ps_set (i := 9) sc_widest.nd rfl (Or.inl rfl) (pe_op op_mod (pv 3) (pe_callB (cMax2 rfl) (by rfl) T.max (by decide +kernel) (pa_cons pe_int (pa_cons (pe_op op_fdivW (pv 4) (pv 1)) pa_nil)))))
      (pss_one (ps_if (PW.pt (pw_or (pt_cmpR op_eq (pv 4) pe_int (nomark _)) (pw_or1 (pt_cmpR op_lt (pe_dget (u66 hr) (pv 8) (pv 9) (fun _ _ => rfl)) (pv 1) (nomark _))))) (pss_one (ps_expr (pe_bm PySem.F.plainAttrs_list PySem.F.slot_list_append PySem.F.type_list_append mt_append (pv 5) (pa_cons (pe_tup (pa_cons (pv 3) (pa_cons (pv 4) pa_nil))) pa_nil)))) (pss_one (ps_if (pt_cmpR op_eq (pv 3) (pv 9) (nomark _)) (pss_one (ps_expr (pe_bm PySem.F.plainAttrs_list PySem.F.slot_list_append PySem.F.type_list_append mt_append (pe_dsetd (pv 2) (pe_op op_fdivW (pv 4) (pv 1)) (pe_lst pa_nil) ⟨rfl, rfl, rfl, rfl⟩) (pa_cons (pv 9) pa_nil)))) pss_nil))))))))))))
      (pss_one (ps_ret (pe_callTy cTupOf (by rfl) T.tuple (by decide +kernel) (pa_cons (pe_c c_ordered hr (by decide) (by rfl) (pa_cons (pv 5) pa_nil)) pa_nil)))))))), ?_⟩
    walk_at "go"
    refine al fun d H1 n1 s1 h1 => ?_
    walk_at "go"
    have L1 : LvD H H1 d p (lvlP p (cl.take 0)) [] (fun _ => d) := ⟨s1, n1, h1, List.nodup_nil, (fun _ h => by cases h), (fun _ h => by cases h), (fun _ h => by cases h), fun _ _ => rfl⟩
    refine for_list (K := K) (a := c) (xs := as.map V.ref) (fun i σ H' => ∃ (js : List Nat) (ad : Nat → Addr) (v3 v4 : Option V), σ = [some (.ref c), some (.int p), some (.ref d), v3, v4, none, none, none, none, none] ∧ LvD H H' d p (lvlP p (cl.take i)) js ad ∧ ∀ j ∈ js, j ≤ KK) ⟨[], fun _ => d, none, none, rfl, L1, by simp⟩ (fun i σ H' _ z => by obtain ⟨_, _, _, _, _, L, _⟩ := z; exact sq (L.same _ _ hc)) ?_ ?_
    · rintro i x0 σ H2 hx ⟨js, ad, v3, v4, rfl, L, hj⟩
      obtain ⟨a, ha, rfl⟩ := get_map hx
      obtain ⟨pr, hpr, htp⟩ := paired_get hP ha
      refine w_gtup (sqt (L.same _ _ htp)) rfl ?_
      have hpin : pr ∈ cl := List.mem_of_getElem? hpr
      obtain ⟨r, ww⟩ := pr
      obtain ⟨j, hjk, ej⟩ := hpw _ hpin
      have ej : ww = p ^ j := ej
      subst ej
      walk_at "go"
      refine w_setd ?_
      walk_at "go"
      refine ⟨.inl ⟨_, .inl L.at_⟩, ?_⟩
      walk_at "go"
      refine al fun e H3 n3 s3 h3 => ?_
      have L3 := L.mono s3
      have hln := L.len hj
      have hsz : (701 : Nat) + 1 < sizeLine := by decide
      have hsz2 : (20000 : Nat) + 1 < sizeLine := by decide
      have hpl := lvlP_len p (cl.take i) j
      rw [List.length_take] at hpl
      obtain ⟨A1, A2⟩ := L3.add p1 j r h3 (none_of L.same n3) (fun i hi e' => by
        have := L.l i hi
        rw [e', n3] at this
        cases this) (by omega)
      have fin : ∀ (H4 : Hp) (js' : List Nat) (ad' : Nat → Addr), (∀ i, i ∈ js' ↔ i ∈ js ∨ i = j) → LvD H H4 d p (addP (lvlP p (cl.take i)) j r) js' ad' → LvD H H4 d p (lvlP p (cl.take (i + 1))) js' ad' ∧ ∀ i ∈ js', i ≤ KK := fun H4 js' ad' hjs L4 => by
        rw [Paired.take_snoc hpr, lvlP_snoc p1]
        exact ⟨L4, fun i hi => ((hjs i).mp hi).elim (hj i) fun z => by rw [z]; exact hjk⟩
      refine ⟨kvL p js ad, .inl (p ^ j), L3.at_, rfl, by omega, fun v hv => ?_, fun hv => ?_⟩
      · obtain ⟨a, xs, rfl, ha, A⟩ := A1 v hv
        refine w_tyL (sq ha) ?_
        walk_at "go"
        refine A _ fun a H4 js' ad' _ hjs _ _ L4 => ?_
        walk_at "go"
        exact ⟨js', ad', _, _, rfl, fin H4 js' ad' hjs L4⟩
      · obtain ⟨xs, ha, A⟩ := A2 hv
        refine w_tyL (sq ha) ?_
        walk_at "go"
        refine A _ fun a H4 js' ad' _ hjs _ _ L4 => ?_
        walk_at "go"
        exact ⟨js', ad', _, _, rfl, fin H4 js' ad' hjs L4⟩
    · rintro σ H2 ⟨js, ad, v3, v4, rfl, L, hj⟩
      rw [List.length_map, ← hP.length, List.take_length] at L
      walk_at "go"
      refine al fun fd H3 n3 s3 h3 => ?_
      have nfd : H fd = none := none_of L.same n3
      have hafd : ∀ j ∈ js, ad j ≠ fd := fun j hj e => by
        have := L.l j hj
        rw [e, n3] at this
        cases this
      have L3 := L.mono s3
      clear L s3 n3 L1 h1 s1
      walk_at "go"
      refine while_m (fun m σ' H' => ∃ (P : Nat → List Int) (js : List Nat) (ad : Nat → Addr) (F : List (Int × Nat)) (fs : List Addr) (v3 v4 v7 v8 v9 : Option V), σ' = [some (.ref c), some (.int p), some (.ref d), v3, v4, some (.ref fd), none, v7, v8, v9] ∧ LvD H H' d p P js ad ∧ (∀ j ∈ js, j < m) ∧ H' fd = some (.lst (fs.map V.ref)) ∧ (∀ j ∈ js, ad j ≠ fd) ∧ Paired (Tp H') (prs p F) fs ∧ F ++ run p (m - 1) P = run p KK (lvlP p cl) ∧ F.length + tot P (m - 1) ≤ 20000 ∧ m ≤ KK + 1) (KK + 1)
        ⟨lvlP p cl, js, ad, [], [], v3, v4, none, none, none, rfl, L3, (fun j hj' => by have := hj j hj'; omega), h3, hafd, .nil, rfl, by have := lvlP_tot p1 cl KK; simpa using Nat.le_trans this hN, Nat.le_refl _⟩ ?_
      clear L3 hafd h3 hj
      clear ad js
      rintro m σ' H4 ⟨P, js, ad, F, fs, v3, v4, v7, v8, v9, rfl, L, hjm, hf, hafd, PF, hrun, htot, hmK⟩
      walk_at "go"
      refine al fun e H5 n5 s5 h5 => ?_
      have L5 := L.mono s5
      have f5 := s5 _ _ hf
      have PF5 : Paired (Tp H5) (prs p F) fs := paired_imp (fun _ _ z => s5 _ _ z) PF
      clear L hf PF
      walk_at "go"
      refine w_neDE L5.at_ h5 ?_
      walk_at "go"
      rw [kvL_emp]
      have hlvl : ∀ l, l ∉ js → P l = [] := L5.no
      cases hjs : js with
      | nil =>
        rw [show (!([] : List Nat).isEmpty) = false from rfl]
        refine iteF ?_
        rw [run_nil p (m - 1) P fun i _ => hlvl i (by rw [hjs]; exact List.not_mem_nil), List.append_nil] at hrun
        walk_at "go"
        have hfst : (prs p F).map (·.1) = F.map (·.1) := by
          unfold prs
          rw [List.map_map]
          rfl
        refine ⟨fd, prs p F, fs, rfl, f5, PF5, by rw [hfst, hrun]; exact hnd, by unfold prs; rw [List.length_map]; omega, fun l' W bs H6 s6 pm so h6 P6 => ?_⟩
        walk_at "go"
        refine w_tupL (sq h6) (al fun t H7 n7 s7 h7 => ?_)
        walk_at "go"
        exact q t W bs H7 (L5.same.trans (s6.trans s7)) (by rw [← hrun]; exact pm) so h7 (paired_imp (fun _ _ z => s7 _ _ z) P6)
      | cons j0 js0 =>
        rw [← hjs, show (!js.isEmpty) = true by rw [hjs]; rfl]
        refine iteT (while_nm ?_)
        walk_at "go"
        refine ⟨d, .dK (kvL p js ad), L5.at_, trivial, fun od => ?_⟩
        walk_at "go"
        refine ⟨_, rfl, d, od, rfl, .inl ⟨kvL p js ad, upd_same, ?_⟩⟩
        intro D hD
        have nD : D ≠ d := fun z => by
          rw [z, upd_same] at hD
          cases hD
        have hlen : js.length ≤ 703 := by
          have := L5.len (J := m) fun j hj => Nat.le_of_lt (hjm j hj)
          unfold kvL at this
          rw [List.length_map] at this
          omega
        refine lc_pure ((js.map fun j => p ^ j).map V.int) ((js.map fun j => p ^ j).map V.int) (walk_ks (kvL_keys p js ad)) hD (fun H' s => s _ _ upd_same) rfl (by rw [List.length_map, List.length_map]; omega) (fun _ => rfl) ?_ ?_
        · intro j x0 y0 H6 hx0 hy0 s6 Q' hQ'
          rw [hx0] at hy0
          cases hy0
          obtain ⟨p0, hp0, rfl⟩ := get_map hx0
          walk_at "go"
          exact hQ' _ (Same.refl _)
        intro H6 s6 hD6
        refine ⟨s6 _ _ upd_same, ?_⟩
        have s7 : Same H5 (upd H6 d (.dK (kvL p js ad))) := fun b o hb => by
          by_cases z : b = d
          · subst z
            rw [upd_same, ← L5.at_, hb]
          · rw [upd_ne z]
            exact s6 _ _ ((upd_ne z).trans hb)
        have h7 : upd H6 d (.dK (kvL p js ad)) D = some (.lst ((js.map fun j => p ^ j).map V.int)) := (upd_ne nD).trans hD6
        generalize upd H6 d (.dK (kvL p js ad)) = H7 at s7 h7 ⊢
        clear hD hD6 s6 nD
        have L7 := L5.mono s7
        have f7 := s7 _ _ f5
        have PF7 : Paired (Tp H7) (prs p F) fs := paired_imp (fun _ _ z => s7 _ _ z) PF5
        clear L5 f5 PF5 s5 h5 s7
        walk_at "go"
        refine ⟨D, js.map fun j => p ^ j, rfl, sq h7, by rw [hjs]; exact Nat.succ_pos _, fun M hM hMx => ?_⟩
        obtain ⟨j, hj, rfl, hjx⟩ := max_lvl p1 hM hMx
        clear hM hMx h7
        walk_at "go"
        refine w_dpop1 ?_
        walk_at "go"
        refine ⟨.inl ⟨_, .inl L7.at_⟩, ?_⟩
        walk_at "go"
        refine ⟨kvL p js ad, .inl (p ^ j), .ref (ad j), L7.at_, rfl, by rw [kv_val p1, if_pos hj], ?_⟩
        have L8 : LvD H _ d p (offP P j) (js.filter fun i => decide (i ≠ j)) ad := L7.pop p1 j
        have here8 : upd H7 d (.dK (dropK (kvL p js ad) (.inl (p ^ j)))) (ad j) = some (.lst ((P j).map V.int)) := (upd_ne (L7.dne hj)).trans (L7.l j hj)
        have f8 : upd H7 d (.dK (dropK (kvL p js ad) (.inl (p ^ j)))) fd = some (.lst (fs.map V.ref)) := (upd_ne (fun z => by rw [z, L7.at_] at f7; cases f7)).trans f7
        have PF8 : Paired (Tp (upd H7 d (.dK (dropK (kvL p js ad) (.inl (p ^ j)))))) (prs p F) fs := paired_imp (fun _ _ z => Tp.updD L7.at_ z) PF7
        have hjs2 : ∀ l ∈ js.filter (fun i => decide (i ≠ j)), l ∈ js ∧ l ≠ j := fun l h => ⟨(List.mem_filter.mp h).1, of_decide_eq_true (List.mem_filter.mp h).2⟩
        have hlow : ∀ l ∈ js.filter (fun i => decide (i ≠ j)), l < j := fun l h => by
          have := hjx l (hjs2 l h).1
          have := (hjs2 l h).2
          omega
        have hah : ∀ l ∈ js.filter (fun i => decide (i ≠ j)), ad l ≠ ad j := fun l h e => (hjs2 l h).2 (L7.inj l (hjs2 l h).1 j hj e)
        have haf : ∀ l ∈ js.filter (fun i => decide (i ≠ j)), ad l ≠ fd := fun l h => hafd l (hjs2 l h).1
        have hfh : fd ≠ ad j := (hafd j hj).symm
        have hhn : H (ad j) = none := L7.ln j hj
        have hjm' := hjm j hj
        have hPz : ∀ l, j < l → l ≤ m - 1 → P l = [] := fun l h _ => hlvl l fun hl => by
          have := hjx l hl
          omega
        have hr2 := step_run (p := p) (J := m - 1) (P := P) (by omega) hPz
        have ht2 := step_tot (p := p) (J := m - 1) (j := j) (P := P) (by omega)
        have hpl : (P j).length ≤ 20000 := by
          have := tot_le P (show j ≤ m - 1 by omega)
          omega
        rw [hr2] at hrun
        clear L7 f7 PF7 hjx hPz hr2 hlen hafd hlvl hjs hjm
        generalize upd H7 d (.dK (dropK (kvL p js ad) (.inl (p ^ j)))) = H8 at L8 here8 f8 PF8 ⊢
        generalize ad j = hh at *
        generalize js.filter (fun i => decide (i ≠ j)) = js2 at *
        have eM := maxM p1 j
        have pM : 0 < p ^ (j - 1) := Int.pow_pos (by omega)
        have bM : (p ^ (j - 1)).natAbs < 2 ^ 8000 := Nat.lt_of_lt_of_le (pow_bits p1 p2 (j - 1)) (Nat.pow_le_pow_right (by decide) (by omega))
        have dp : CDivW (p ^ j) p := wdiv (b := 10) (by omega) (by omega) (by decide)
        have dM : ∀ z : Int, CDivW z (if p ^ j / p > 1 then p ^ j / p else 1) := fun z => by
          rw [eM]
          exact wdiv pM bM (by decide)
        walk_at "go"
        refine al fun md H9 n9 s9 h9 => ?_
        walk_at "go"
        refine for_list (K := K) (a := hh) (xs := (P j).map V.int) (fun i σ H' => ∃ (kvs : List (Key × V)) (v3 : Option V), σ = [some (.ref c), some (.int p), some (.ref d), v3, some (.int (p ^ j)), some (.ref fd), none, some (.ref hh), some (.ref md), v9] ∧ Same H8 H' ∧ H' md = some (.dK kvs) ∧ Cnt (p ^ (j - 1)) ((P j).take i) kvs) ⟨[], _, rfl, s9, h9, Cnt.nil _⟩ (fun i σ H' _ z => by obtain ⟨_, _, _, sm, _⟩ := z; exact sq (sm _ _ here8)) ?_ ?_
        · rintro i x0 σ Ha hx ⟨kvs, v3, rfl, sa, ha, C⟩
          obtain ⟨r, hr, rfl⟩ := get_map hx
          walk_at "go"
          refine w_dget2 ?_
          walk_at "go"
          refine ⟨.inl ⟨kvs, .inl ha⟩, ?_⟩
          walk_at "go"
          rw [eM]
          refine ⟨_, DGet.k (k := .inl (r % p ^ (j - 1))) ha, ?_⟩
          rw [C.getD]
          walk_at "go"
          rw [eM]
          have hkl := C.1
          rw [List.length_take] at hkl
          refine ⟨md, _, rfl, DPut.k (k := .inl (r % p ^ (j - 1))) ha (by have : (20001 : Nat) < sizeLine := by decide
                                                                          omega), ?_⟩
          refine ⟨_, _, rfl, fun b o hb => ?_, upd_same, ?_⟩
          · rw [upd_ne (fun z => by rw [z, n9] at hb; cases hb)]
            exact sa _ _ hb
          · rw [Paired.take_snoc hr]
            exact C.snoc r
        · rintro σ Ha ⟨kvs, v3, rfl, sa, ha, C⟩
          rw [List.length_map, List.take_length] at C
          have La := L8.mono sa
          have fa := sa _ _ f8
          have herea := sa _ _ here8
          have PFa : Paired (Tp Ha) (prs p F) fs := paired_imp (fun _ _ z => sa _ _ z) PF8
          have hdm : md ≠ d := fun z => by
            rw [z, L8.at_] at n9
            cases n9
          have hmn : H md = none := none_of L8.same n9
          clear L8 f8 here8 PF8 s9 h9 n9 sa
          walk_at "go"
          refine for_list (K := K) (a := hh) (xs := (P j).map V.int) (fun i σ H' => ∃ (js : List Nat) (ad : Nat → Addr) (fs' : List Addr) (v3 v9 : Option V), σ = [some (.ref c), some (.int p), some (.ref d), v3, some (.int (p ^ j)), some (.ref fd), none, some (.ref hh), some (.ref md), v9] ∧ LvD H H' d p (upP (offP P j) (j - 1) (((P j).take i).filter (up0 p j (P j)))) js ad ∧ (∀ l ∈ js, l < j) ∧ (∀ l ∈ js, ad l ≠ fd) ∧ (∀ l ∈ js, ad l ≠ hh) ∧ H' hh = some (.lst ((P j).map V.int)) ∧ H' md = some (.dK kvs) ∧ H' fd = some (.lst (fs'.map V.ref)) ∧ Paired (Tp H') (prs p (F ++ (((P j).take i).filter (fd0 p j (P j))).map fun r => (r, j))) fs')
            ⟨js2, ad, fs, v3, v9, rfl, by rw [List.take_zero, List.filter_nil, up0_nil p]; exact La, hlow, haf, hah, herea, ha, fa, by rw [List.take_zero, List.filter_nil, List.map_nil, List.append_nil]; exact PFa⟩ (fun i σ H' _ z => by obtain ⟨_, _, _, _, _, _, _, _, _, _, z, _⟩ := z; exact sq z) ?_ ?_
          · rintro i x0 σ Hb hx ⟨js, ad, fs', v3, v9, rfl, Lb, hlb, hfb, hhb, hereb, hb, fb, PFb⟩
            obtain ⟨r, hr, rfl⟩ := get_map hx
            have hfi : ((List.take i (P j)).filter (fd0 p j (P j))).length ≤ 20000 := Nat.le_trans (List.length_filter_le _ _) (by rw [List.length_take]; omega)
            have hui : ((List.take i (P j)).filter (up0 p j (P j))).length ≤ 20000 := Nat.le_trans (List.length_filter_le _ _) (by rw [List.length_take]; omega)
            have hmem : r ∈ P j := List.mem_of_getElem? hr
            have hFl : F.length ≤ 20000 := by omega
            walk_at "go"
            rw [decI, one_pow p1]
            refine ite_d (fun j0 => ?_) (fun j0 => ?_)
            · have e1 : fd0 p j (P j) r = true := by rw [j0]; rfl
              have e2 : up0 p j (P j) r = false := by rw [j0]; rfl
              refine iteT ?_
              walk_at "go"
              refine al fun tp Hc nc sc hc2 => ?_
              walk_at "go"
              have fc := sc _ _ fb
              have hfl := PFb.length
              rw [prs, List.length_map, List.length_append, List.length_map] at hfl
              refine w_append fc (by rw [List.length_map]; have : (40001 : Nat) < sizeLine := by decide
                                     omega) ?_
              walk_at "go"
              refine ⟨js, ad, fs' ++ [tp], _, _, rfl, ?_, hlb, hfb, hhb, (upd_ne hfh.symm).trans (sc _ _ hereb), (upd_ne (fun z => by rw [z, fb] at hb; cases hb)).trans (sc _ _ hb), by rw [upd_same, List.map_append]; rfl, ?_⟩
              · rw [filt_snoc hr, e2, if_neg (by decide), List.append_nil]
                exact (Lb.mono sc).upd nfd (fun z => by rw [z, Lb.at_] at fb; cases fb) hfb
              · rw [filt_snoc hr, e1, if_pos rfl, List.map_append, ← List.append_assoc, prs, List.map_append]
                exact Paired.snoc (paired_imp (fun _ _ z => Tp.upd fc (sc _ _ z)) PFb) (Tp.upd fc hc2)
            · obtain ⟨t, rfl⟩ : ∃ t, j = t + 1 := ⟨j - 1, by omega⟩
              walk_at "go"
              refine w_dget ?_
              walk_at "go"
              refine ⟨md, .int (cntR (p ^ t) (P (t + 1)) (r % p ^ t) : Nat), rfl, ?_, ?_⟩
              · rw [eM]
                have hv := DGet.k (k := .inl (r % p ^ t)) hb
                rw [Cnt.at_ (M := p ^ t) C hmem] at hv
                exact hv
              walk_at "go"
              rw [cnt_full]
              cases hfu : full p t (P (t + 1)) r with
              | false =>
                have e1 : fd0 p (t + 1) (P (t + 1)) r = true := by show (!full p t (P (t + 1)) r) = true; rw [hfu]; rfl
                have e2 : up0 p (t + 1) (P (t + 1)) r = false := by show (full p t (P (t + 1)) r && _) = false; rw [hfu]; rfl
                refine iteT ?_
                walk_at "go"
                refine al fun tp Hc nc sc hc2 => ?_
                walk_at "go"
                have fc := sc _ _ fb
                have hfl := PFb.length
                rw [prs, List.length_map, List.length_append, List.length_map] at hfl
                refine w_append fc (by rw [List.length_map]; have : (40001 : Nat) < sizeLine := by decide
                                       omega) ?_
                walk_at "go"
                refine ⟨js, ad, fs' ++ [tp], _, _, rfl, ?_, hlb, hfb, hhb, (upd_ne hfh.symm).trans (sc _ _ hereb), (upd_ne (fun z => by rw [z, fb] at hb; cases hb)).trans (sc _ _ hb), by rw [upd_same, List.map_append]; rfl, ?_⟩
                · rw [filt_snoc hr, e2, if_neg (by decide), List.append_nil]
                  exact (Lb.mono sc).upd nfd (fun z => by rw [z, Lb.at_] at fb; cases fb) hfb
                · rw [filt_snoc hr, e1, if_pos rfl, List.map_append, ← List.append_assoc, prs, List.map_append]
                  exact Paired.snoc (paired_imp (fun _ _ z => Tp.upd fc (sc _ _ z)) PFb) (Tp.upd fc hc2)
              | true =>
                have e1 : fd0 p (t + 1) (P (t + 1)) r = false := by show (!full p t (P (t + 1)) r) = false; rw [hfu]; rfl
                refine iteF ?_
                walk_at "go"
                rw [eM, decI]
                refine ite_d (fun hn => ?_) (fun hn => ?_)
                · have e2 : up0 p (t + 1) (P (t + 1)) r = true := by
                    show (full p t (P (t + 1)) r && decide (r = r % p ^ t)) = true
                    rw [hfu, Bool.true_and]
                    exact decide_eq_true hn
                  walk_at "go"
                  refine w_setd ?_
                  walk_at "go"
                  refine ⟨.inl ⟨_, .inl Lb.at_⟩, ?_⟩
                  walk_at "go"
                  refine al fun e Hc nc sc hc2 => ?_
                  have Lc := Lb.mono sc
                  have hlc := Lc.len (J := t + 1) fun l hl => Nat.le_of_lt (hlb l hl)
                  have hsz : (701 : Nat) + 2 < sizeLine := by decide
                  have hsz2 : (40001 : Nat) < sizeLine := by decide
                  have hae : ∀ i ∈ js, ad i ≠ e := fun l hl e' => by
                    have := Lb.l l hl
                    rw [e', nc] at this
                    cases this
                  have hup : (upP (offP P (t + 1)) t (((P (t + 1)).take i).filter (up0 p (t + 1) (P (t + 1)))) t).length < sizeLine := by
                    unfold upP offP
                    rw [if_pos rfl, if_neg (by omega), List.length_append]
                    have := tot_le P (show t ≤ m - 1 by omega)
                    omega
                  obtain ⟨A1, A2⟩ := Lc.add p1 t r hc2 (none_of Lb.same nc) hae hup
                  have edv : p ^ (t + 1) / p = p ^ t := by rw [Int.pow_succ, Int.mul_ediv_cancel _ (by omega)]
                  have her : r % p ^ t = r := hn.symm
                  have fin : ∀ (a : Addr) (Hd : Hp) (js' : List Nat) (ad' : Nat → Addr), (a = e ∨ ∃ i ∈ js, a = ad i) → (∀ i, i ∈ js' ↔ i ∈ js ∨ i = t) → (∀ i ∈ js', ad' i = e ∨ ∃ i' ∈ js, ad' i = ad i') → (∀ b, b ≠ d → b ≠ a → Hd b = Hc b) → LvD H Hd d p (addP (upP (offP P (t + 1)) t (((P (t + 1)).take i).filter (up0 p (t + 1) (P (t + 1))))) t r) js' ad' →
                      LvD H Hd d p (upP (offP P (t + 1)) (t + 1 - 1) (((P (t + 1)).take (i + 1)).filter (up0 p (t + 1) (P (t + 1))))) js' ad' ∧ (∀ l ∈ js', l < t + 1) ∧ (∀ l ∈ js', ad' l ≠ fd) ∧ (∀ l ∈ js', ad' l ≠ hh) ∧ Hd hh = some (.lst ((P (t + 1)).map V.int)) ∧ Hd md = some (.dK kvs) ∧ Hd fd = some (.lst (fs'.map V.ref)) ∧ Paired (Tp Hd) (prs p (F ++ (((P (t + 1)).take (i + 1)).filter (fd0 p (t + 1) (P (t + 1)))).map fun r => (r, t + 1))) fs' := fun a Hd js' ad' hcase hjs' had' fr Ld => by
                    have hea : ∀ b : Addr, (∃ o, Hb b = some o) → b ≠ e := fun b ⟨o, ho⟩ z => by
                      rw [z, nc] at ho
                      cases ho
                    have hba : ∀ b : Addr, (∃ o, Hb b = some o) → (∀ l ∈ js, ad l ≠ b) → b ≠ a := fun b ho hno z => by
                      rcases hcase with h | ⟨l, hl, h⟩
                      · exact hea b ho (z.trans h)
                      · exact hno l hl (h.symm.trans z.symm)
                    have had2 : ∀ b : Addr, (∃ o, Hb b = some o) → (∀ l ∈ js, ad l ≠ b) → ∀ l ∈ js', ad' l ≠ b := fun b ho hno l hl z => by
                      rcases had' l hl with h | ⟨l', hl', h⟩
                      · exact hea b ho (z.symm.trans h)
                      · exact hno l' hl' (h.symm.trans z)
                    rw [filt_snoc hr, filt_snoc hr, e1, e2, if_pos rfl, if_neg (by decide), List.append_nil]
                    refine ⟨by rw [← upP_add]; exact Ld, fun l hl => ?_, had2 fd ⟨_, fb⟩ hfb, had2 hh ⟨_, hereb⟩ hhb, ?_, ?_, ?_, paired_imp (fun _ _ z => Lc.tp hc2 hcase fr (sc _ _ z)) PFb⟩
                    · rcases (hjs' l).mp hl with h | h
                      · exact hlb l h
                      · omega
                    · rw [fr hh (fun z => by rw [z, Lb.at_] at hereb; cases hereb) (hba hh ⟨_, hereb⟩ hhb)]
                      exact sc _ _ hereb
                    · rw [fr md hdm (hba md ⟨_, hb⟩ fun l hl z => by
                        have := Lb.l l hl
                        rw [z, hb] at this
                        cases this)]
                      exact sc _ _ hb
                    · rw [fr fd (fun z => by rw [z, Lb.at_] at fb; cases fb) (hba fd ⟨_, fb⟩ hfb)]
                      exact sc _ _ fb
                  rw [edv]
                  refine ⟨kvL p js ad, .inl (p ^ t), Lc.at_, rfl, by omega, fun v hv => ?_, fun hv => ?_⟩
                  · obtain ⟨a, xs, rfl, ha, A⟩ := A1 v hv
                    refine w_tyL (sq ha) ?_
                    walk_at "go"
                    rw [show r % p ^ (t + 1 - 1) = r from her]
                    refine A _ fun a Hd js' ad' hcase hjs' had' fr Ld => ?_
                    walk_at "go"
                    exact ⟨js', ad', fs', _, _, rfl, fin a Hd js' ad' hcase hjs' had' fr Ld⟩
                  · obtain ⟨xs, ha, A⟩ := A2 hv
                    refine w_tyL (sq ha) ?_
                    walk_at "go"
                    rw [show r % p ^ (t + 1 - 1) = r from her]
                    refine A _ fun a Hd js' ad' hcase hjs' had' fr Ld => ?_
                    walk_at "go"
                    exact ⟨js', ad', fs', _, _, rfl, fin a Hd js' ad' hcase hjs' had' fr Ld⟩
                · have e2 : up0 p (t + 1) (P (t + 1)) r = false := by
                    show (full p t (P (t + 1)) r && decide (r = r % p ^ t)) = false
                    rw [hfu, Bool.true_and]
                    exact decide_eq_false hn
                  walk_at "go"
                  refine ⟨js, ad, fs', _, _, rfl, ?_, hlb, hfb, hhb, hereb, hb, fb, ?_⟩
                  · rw [filt_snoc hr, e2, if_neg (by decide), List.append_nil]
                    exact Lb
                  · rw [filt_snoc hr, e1, if_neg (by decide), List.append_nil]
                    exact PFb
          · rintro σ Hb ⟨js, ad, fs', v3, v9, rfl, Lb, hlb, hfb, hhb, hereb, hb, fb, PFb⟩
            rw [List.length_map, List.take_length] at Lb PFb
            walk_at "go"
            refine ⟨j, hjm', _, js, ad, _, fs', _, _, _, _, _, rfl, Lb, hlb, fb, hfb, PFb, by rw [List.append_assoc]; exact hrun, ?_, by omega⟩
            rw [List.length_append, List.length_map]
            omega

abbrev s_invpw : Stmt := (inClass (top 4) 0)
theorem sc_invpw : FnScope ["self", "power"] ["self", "power"] (defScope s_invpw) :=
  ⟨rfl, rfl, rfl, by decide +kernel, rfl, by decide +kernel, by decide +kernel⟩
theorem ok_invpw {C f : Addr} {fd : FuncData} (F : FunD K "__init__" "InvalidPower.__init__" (defArgs s_invpw) (defBody s_invpw) (defScope s_invpw) [] [] f fd) (T : Bt mg) (hC : OexC K C) (hf : PySem.W.findIn K (.ref C) "power" = some none) : FnOk P w K mg base L2.CX0 1 f fd ["self", "power"] (spErr C "power") := by
  refine fnD_ok F sc_invpw (fun vs H Q E h => ?_) (fun cdv A outer s H vs Q E hr h => ?_)
  · obtain ⟨a, v, rfl, _⟩ := h
    rfl
  · obtain ⟨a, v, rfl, ha, q⟩ := h
    refine ⟨_, (pss_one (ps_ost (pv 0) (pv 1))), ?_⟩
    walk_at "go"
    exact ⟨v, rfl, .ref a, rfl, a, C, rfl, hC, hf, .inl ⟨ha, q⟩⟩
abbrev s_reqpwx : Stmt := (top 12)
theorem sc_reqpwx : FnScope ["power"] ["power"] (defScope s_reqpwx) :=
  ⟨rfl, rfl, rfl, by decide +kernel, rfl, by decide +kernel, by decide +kernel⟩
theorem ok_reqpwx {Cw : Addr} (F : Dn K mg "require_power" s_reqpwx ["power"]) (T : Bt mg) (c_isint : Cal P w K mg base 1 "is_integer" (spIsInt K) []) (c_invpw : Err P w K mg base 1 "InvalidPower" Cw "power") : CalX P w K mg base 3 "require_power" (spReqPwX K Cw) [] := by
  refine F.calX sc_reqpwx (fun vs H Q E h => ?_) (fun f cdv A outer s H vs Q E hr h => ?_)
  · obtain ⟨v, rfl, _⟩ := h
    rfl
  · obtain ⟨v, rfl, h⟩ := h
    refine ⟨_, (pss_one (ps_if (PW.pt (pw_or (pt_not (pt_val (pe_c c_isint hr (by decide) (by rfl) (pa_cons (pv 0) pa_nil)))) (pw_or1 (pt_cmpR op_lt (pv 0) pe_int (nomark _))))) (pss_one (ps_rse c_invpw rfl hr (by decide) (takes_of rfl rfl rfl rfl) (by rfl) (pa_cons (pv 0) pa_nil))) pss_nil)), ?_⟩
    walk_at "go"
    rcases h with ⟨n, rfl, hn, k⟩ | ⟨pb, er⟩
    · refine ⟨.int n, _, true, false, rfl, ty_int n, kit_ty (by decide +kernel), kit_ty (by decide +kernel), ?_⟩
      walk_at "go"
      refine iteF ?_
      walk_at "go"
      rw [decide_eq_false (show ¬ n < 1 by omega)]
      refine iteF ?_
      walk_at "go"
      exact k
    · cases pb with
      | oth h =>
        obtain ⟨t, b1, b2, ty, k1, k2, e⟩ := h
        refine ⟨v, t, b1, b2, rfl, ty, k1, k2, ?_⟩
        rw [← e]
        walk_at "go"
        refine iteT (iteT ?_)
        walk_at "go"
        exact w_fly er
      | int n h =>
        refine ⟨.int n, _, true, false, rfl, ty_int n, kit_ty (by decide +kernel), kit_ty (by decide +kernel), ?_⟩
        walk_at "go"
        refine iteF ?_
        walk_at "go"
        rw [decide_eq_true h]
        refine iteT ?_
        walk_at "go"
        exact w_fly er
abbrev s_clsof : Stmt := (top 27)
theorem sc_clsof : FnScope ["coefficients", "prime", "power"] ["coefficients", "prime", "power"] (defScope s_clsof) :=
  ⟨rfl, rfl, rfl, by decide +kernel, rfl, by decide +kernel, by decide +kernel⟩
theorem ok_clsof (F : Dn K mg "classes_of" s_clsof ["coefficients", "prime", "power"]) (T : Bt mg) (c_raised : Cal P w K mg base 1 "raised" spRaised []) (c_papof : ∀ n, Cal P w K mg base (4 + n) "paper_of" (spPaperN n) []) (c_leaves : Cal P w K mg base 1 "leaves" spLeaves []) (c_widest : Cal P w K mg base 2 "widest" spWid []) : Cal P w K mg base 90 "classes_of" spClsOf [] := by
  refine F.cal sc_clsof (fun vs H Q E h => ?_) (fun f cdv A outer s H vs Q E hr h => ?_)
  · obtain ⟨l, cs, p, k, rfl, _⟩ := h
    rfl
  · obtain ⟨l, cs, p, k, rfl, hl, G, q⟩ := h
    have hk1 := G.k1
    have hk7 := G.k7
    have p1 := G.pr.1
    have p2 := G.p2
    refine ⟨_, (pss_one (ps_ret (pe_c c_widest hr (by decide) (by rfl) (pa_cons (pe_c c_leaves hr (by decide) (by rfl) (pa_cons (pe_c (c_papof (k + 1)) hr (by omega) (by rfl) (pa_cons (pv 0) (pa_cons (pv 1) (pa_cons (pe_c c_raised hr (by decide) (by rfl) (pa_cons (pv 1) (pa_cons (pv 2) pa_nil))) pa_nil)))) (pa_cons (pv 1) pa_nil))) (pa_cons (pv 1) pa_nil))))), ?_⟩
    walk_at "go"
    refine ⟨p, k, 10, rfl, by omega, by omega, by show p.natAbs < 1024; omega, by omega, ?_⟩
    rw [show ((k : Int)).toNat = k by omega]
    walk_at "go"
    refine ⟨l, cs, p, k, rfl, hl, G.len, G.sml, G.pr, p2, by omega, by omega, fun e => by omega, fun v H1 s1 hv => ?_⟩
    walk_at "go"
    refine ⟨v, p, k + 1, _, rfl, hv, paper_good p _ _ _, p1, p2, by omega, Nat.le_trans G.few (by decide), fun l2 fs H2 s2 h2 P2 => ?_⟩
    walk_at "go"
    refine ⟨l2, cls p k cs, fs, p, k + 1, rfl, h2, P2, cls_pow p k cs, p1, p2, by omega, Nat.le_trans (lv_len p _ _ _ _) G.few, (RC_ok G.pr k cs).2.2, fun t W bs H3 s3 pm so h3 P3 => ?_⟩
    walk_at "go"
    exact q t W bs H3 (s1.trans (s2.trans s3)) pm so h3 P3

abbrev s_rootcx : Stmt := (top 28)
theorem sc_rootcx : FnScope ["coefficients", "prime", "power", "some"] ["coefficients", "prime", "power"] (defScope s_rootcx) :=
  ⟨rfl, rfl, rfl, by decide +kernel, rfl, by decide +kernel, by decide +kernel⟩
theorem ok_rootcx {Cc Cp Cw : Addr} {f : Addr} {fd : FuncData} (F : FunD K "root_classes" "root_classes" (defArgs s_rootcx) (defBody s_rootcx) (defScope s_rootcx) [] [] f fd) (T : Bt mg) (c_reqcox : CalX P w K mg base 3 "require_coefficients" (spReqCo K Cc) []) (c_reqprx : CalX P w K mg base 3 "require_prime" (spReqPr K Cp) []) (c_reqpwx : CalX P w K mg base 3 "require_power" (spReqPwX K Cw) []) (c_clsof : Cal P w K mg base 90 "classes_of" spClsOf []) :
    FnOk P w K mg base (L2.CX P w) 91 f fd ["coefficients", "prime", "power"] (spRootCl K Cc Cp Cw) := by
  refine fnX_ok F sc_rootcx (fun vs H Q E h => ?_) (fun cdv A outer s H vs Q E hr h => ?_)
  · obtain ⟨v, q, u, rfl, _⟩ := h
    rfl
  · obtain ⟨v, q, u, rfl, h⟩ := h
    refine ⟨_, (pss_cons (ps_set (i := 3) sc_rootcx.nd rfl (Or.inl rfl) (pe_cX c_reqcox hr (by decide) (by rfl) (takes_of rfl rfl rfl rfl) (pa_cons (pv 0) pa_nil)))
      (pss_cons (ps_expr (pe_cX c_reqprx hr (by decide) (by rfl) (takes_of rfl rfl rfl rfl) (pa_cons (pv 1) pa_nil)))
      (pss_cons (ps_expr (pe_cX c_reqpwx hr (by decide) (by rfl) (takes_of rfl rfl rfl rfl) (pa_cons (pv 2) pa_nil)))
      (pss_one (ps_ret (pe_c c_clsof hr (by decide) (by rfl) (pa_cons (pv 3) (pa_cons (pv 1) (pa_cons (pv 2) pa_nil))))))))), ?_⟩
    walk_at "go"
    rcases h with (⟨t, ty, hk, er⟩ | ⟨cs, x, xs, hv, hl, hx, er⟩ | ⟨cs, hv, hl, hp, er⟩ | ⟨cs, n, hv, hl, rfl, hn, hp, hw, er⟩) | ⟨cs, n, k, hv, hl, rfl, rfl, G, qq⟩
    · exact ⟨v, rfl, .inl ⟨t, ty, hk, er⟩⟩
    · exact ⟨v, rfl, .inr (.inl ⟨cs, x, xs, hv, by omega, hx, er⟩)⟩
    · refine ⟨v, rfl, .inr (.inr ⟨cs, hv, by omega, fun l1 H1 n1 s1 h1 => ?_⟩)⟩
      walk_at "go"
      exact ⟨q, rfl, .inr ⟨hp.same s1, fun d H2 n2 s2 h2 => er d H2 (s1.free n2) (s1.trans s2) h2⟩⟩
    · refine ⟨v, rfl, .inr (.inr ⟨cs, hv, by omega, fun l1 H1 n1 s1 h1 => ?_⟩)⟩
      walk_at "go"
      refine ⟨.int n, rfl, .inl ⟨n, rfl, hn, hp, ?_⟩⟩
      walk_at "go"
      exact ⟨u, rfl, .inr ⟨hw.same s1, fun d H2 n2 s2 h2 => er d H2 (s1.free n2) (s1.trans s2) h2⟩⟩
    · have p2 := G.p2
      have k1 := G.k1
      refine ⟨v, rfl, .inr (.inr ⟨cs, hv, by omega, fun l1 H1 n1 s1 h1 => ?_⟩)⟩
      walk_at "go"
      refine ⟨.int n, rfl, .inl ⟨n, rfl, by omega, G.pr, ?_⟩⟩
      walk_at "go"
      refine ⟨.int (k : Int), rfl, .inl ⟨k, rfl, by omega, ?_⟩⟩
      walk_at "go"
      refine ⟨l1, trim cs, n, k, rfl, h1, G, fun t W bs H2 s2 pm so h2 P2 => ?_⟩
      walk_at "go"
      exact qq t W bs H2 (s1.trans s2) pm so h2 P2
abbrev s_lraised : Stmt := (top 35)
theorem sc_lraised : FnScope ["_law_p", "_law_k", "_law_found", "_law_turn"] ["_law_p", "_law_k"] (defScope s_lraised) :=
  ⟨rfl, rfl, rfl, by decide +kernel, rfl, by decide +kernel, by decide +kernel⟩
theorem ok_lraised (F : Dn K mg "_law_raised" s_lraised ["_law_p", "_law_k"]) (T : Bt mg) : Cal P w K mg base 1 "_law_raised" spRaised [] := by
  refine F.cal sc_lraised (fun vs H Q E h => ?_) (fun f cdv A outer s H vs Q E hr h => ?_)
  · obtain ⟨g, p, b, rfl, _⟩ := h
    rfl
  · obtain ⟨g, p, b, rfl, p0, p1, gb, hb, q⟩ := h
    refine ⟨_, (pss_cons (ps_set (i := 2) sc_lraised.nd rfl (Or.inl rfl) pe_int)
      (pss_cons (ps_for PassesOwn.never rfl (pi_range1 (by rfl) T.range (pa_cons (pv 1) pa_nil)) (pg_name (i := 3) sc_lraised.nd rfl (Or.inl rfl)) (pss_one (ps_set (i := 2) sc_lraised.nd rfl (Or.inl rfl) (pe_op oMul (pv 2) (pv 0)))))
      (pss_one (ps_ret (pv 2))))), ?_⟩
    walk_at "go"
    refine for_range (lo := 0) (n := p.toNat) (fun i σ H' => ∃ (u : Option V), σ = [some (.int g), some (.int p), some (.int (g ^ i)), u] ∧ H' = H) ⟨none, by rw [Int.pow_zero], rfl⟩ ?_ ?_
    · rintro i σ H' hi ⟨u, rfl, rfl⟩
      walk_at "go"
      · exact ⟨_, by rw [Int.pow_succ], rfl⟩
      · refine mx_w (natAbs_pow_lt gb i) gb ?_
        have h1 : b * i ≤ b * p.toNat := Nat.mul_le_mul_left b (by omega)
        omega
    · rintro σ H' ⟨u, rfl, rfl⟩
      walk_at "go"
      exact q

abbrev s_times : Stmt := (top 34)
theorem sc_times : FnScope ["_law_row", "_law_more", "_law_found", "_law_at", "_law_term", "_law_place", "_law_beside"] ["_law_row", "_law_more"] (defScope s_times) :=
  ⟨rfl, rfl, rfl, by decide +kernel, rfl, by decide +kernel, by decide +kernel⟩
theorem ok_times (F : Dn K mg "_law_times" s_times ["_law_row", "_law_more"]) (T : Bt mg) : Cal P w K mg base 1 "_law_times" spTimesB [] := by
  refine F.cal sc_times (fun vs H Q E h => ?_) (fun f cdv A outer s H vs Q E hr h => ?_)
  · obtain ⟨l, m, cs, ms, A, B, rfl, _⟩ := h
    rfl
  · obtain ⟨l, m, cs, ms, A, B, rfl, hl, hm, c1, c2, m1, m2, hA, hB, hAB, q⟩ := h
    refine ⟨_, (pss_cons (ps_set (i := 2) sc_times.nd rfl (Or.inl rfl) (pe_op op_rep (pe_lst (pa_cons pe_int pa_nil)) (pe_op op_sub (pe_op op_add (pe_callB cLen (by rfl) T.len (by decide +kernel) (pa_cons (pv 0) pa_nil)) (pe_callB cLen (by rfl) T.len (by decide +kernel) (pa_cons (pv 1) pa_nil))) pe_int)))
      (pss_cons (ps_for PassesOwn.never rfl (pi_enum (by rfl) T.enumerate (pa_cons (pv 0) pa_nil)) (pg_tup rfl (pgs_cons (pg_name (i := 3) sc_times.nd rfl (Or.inl rfl)) (pgs_cons (pg_name (i := 4) sc_times.nd rfl (Or.inl rfl)) pgs_nil))) (pss_one (ps_for PassesOwn.never rfl (pi_enum (by rfl) T.enumerate (pa_cons (pv 1) pa_nil)) (pg_tup rfl (pgs_cons (pg_name (i := 5) sc_times.nd rfl (Or.inl rfl)) (pgs_cons (pg_name (i := 6) sc_times.nd rfl (Or.inl rfl)) pgs_nil))) (pss_one (ps_asg (pe_op op_add (pe_ix ix_list (pv 2) (pe_op op_add (pv 3) (pv 5)) (fun _ _ => rfl)) (pe_op oMul (pv 4) (pv 6))) (pg_sub (pv 2) (pe_op op_add (pv 3) (pv 5)) set_list))))))
      (pss_one (ps_ret (pv 2))))), ?_⟩
    walk_at "go"
    refine al fun p0 H0 n0 s0 h0 => ?_
    have hl0 := s0 _ _ hl
    have hm0 := s0 _ _ hm
    walk_at "go"
    rw [List.length_map, List.length_map]
    refine w_rep (xs := [.int 0]) h0 ⟨by omega, by omega, sz (by simp only [List.length_cons, List.length_nil]; omega)⟩ (al fun D H1 n1 s1 h1 => ?_)
    rw [rep0] at h1
    have nD : H D = none := s0.free n1
    have S1 : Same H H1 := s0.trans s1
    have e1 : (List.replicate ((((cs.length : Nat) : Int) + ((ms.length : Nat) : Int) - 1).toNat) (0 : Int)).length = cs.length + ms.length - 1 := by
      rw [List.length_replicate]
      omega
    have b1 : ∀ z ∈ List.replicate ((((cs.length : Nat) : Int) + ((ms.length : Nat) : Int) - 1).toNat) (0 : Int), z.natAbs ≤ 0 * 2 ^ (A + B) := fun z hz => by
      rw [(List.mem_replicate.mp hz).2]
      exact Nat.zero_le _
    generalize List.replicate ((((cs.length : Nat) : Int) + ((ms.length : Nat) : Int) - 1).toNat) (0 : Int) = rs at h1 e1 b1
    clear s0 s1 n0 n1 h0 hl0 hm0
    walk_at "go"
    refine w_enumi (sq (S1 _ _ hl)) ?_
    refine for_it (walk_enum (xs := cs.map V.int)) (fun i σ H' => ∃ (rs : List Int) (v3 v4 v5 v6 : Option V), σ = [some (.ref l), some (.ref m), some (.ref D), v3, v4, v5, v6] ∧ Same H H' ∧ H' D = some (.lst (rs.map V.int)) ∧ rs.length = cs.length + ms.length - 1 ∧ ∀ z ∈ rs, z.natAbs ≤ (i * ms.length) * 2 ^ (A + B)) ⟨rs, _, _, _, _, rfl, S1, h1, e1, by rw [Nat.zero_mul]; exact b1⟩
      (fun i σ H' _ z => by obtain ⟨_, _, _, _, _, _, z, _⟩ := z; exact sq (z _ _ hl)) ?_ ?_
    · rintro i y σ H6 H7 hi ⟨rs, v3, v4, v5, v6, rfl, s6, h6, e6, b6⟩ ⟨t, z1, z2, rfl, nt, rfl, g1, g2⟩
      cases g1
      obtain ⟨z, hz, rfl⟩ := get_map g2
      rw [List.length_map] at hi
      refine w_gtup (sqt upd_same) rfl ?_
      have s7 : Same H6 (upd H6 t (.tup [.int (i : Nat), .int z])) := Same.new nt
      generalize upd H6 t (.tup [.int (i : Nat), .int z]) = H7 at s7 ⊢
      have S7 := s6.trans s7
      have h7 := s7 _ _ h6
      clear s7 s6 h6
      walk_at "go"
      refine w_enumi (sq (S7 _ _ hm)) ?_
      refine for_it (walk_enum (xs := ms.map V.int)) (fun j σ H' => ∃ (rs : List Int) (v5 v6 : Option V), σ = [some (.ref l), some (.ref m), some (.ref D), some (.int (i : Nat)), some (.int z), v5, v6] ∧ Same H H' ∧ H' D = some (.lst (rs.map V.int)) ∧ rs.length = cs.length + ms.length - 1 ∧ ∀ z ∈ rs, z.natAbs ≤ (i * ms.length + j) * 2 ^ (A + B)) ⟨rs, _, _, rfl, S7, h7, e6, b6⟩
        (fun i σ H' _ z => by obtain ⟨_, _, _, _, z, _⟩ := z; exact sq (z _ _ hm)) ?_ ?_
      · rintro j y σ H8 H9 hj ⟨rs, v5, v6, rfl, s8, h8, e8, b8⟩ ⟨t, z1, z2, rfl, nt, rfl, g1, g2⟩
        cases g1
        obtain ⟨z', hz', rfl⟩ := get_map g2
        rw [List.length_map] at hj
        refine w_gtup (sqt upd_same) rfl ?_
        have s9 : Same H8 (upd H8 t (.tup [.int (j : Nat), .int z'])) := Same.new nt
        generalize upd H8 t (.tup [.int (j : Nat), .int z']) = H9 at s9 ⊢
        have S9 := s8.trans s9
        have h9 := s9 _ _ h8
        clear s9 s8 h8
        have hat : i + j < rs.length := by omega
        have ez := List.getElem?_eq_getElem hat
        have bo := b8 _ (List.getElem_mem hat)
        generalize rs[i + j] = o at ez bo
        have hz1 := hA z (List.mem_of_getElem? hz)
        have hz2 := hB z' (List.mem_of_getElem? hz')
        have hmx : CMx z z' := mx_w hz1 hz2 (by omega)
        have hzz : (z * z').natAbs ≤ 2 ^ (A + B) := by
          rw [Int.natAbs_mul, Nat.pow_add]
          exact Nat.mul_le_mul (Nat.le_of_lt hz1) (Nat.le_of_lt hz2)
        have hoo : (o + z * z').natAbs ≤ (i * ms.length + (j + 1)) * 2 ^ (A + B) := by
          have := Int.natAbs_add_le o (z * z')
          rw [show i * ms.length + (j + 1) = i * ms.length + j + 1 by omega, Nat.succ_mul]
          omega
        walk_at "go"
        refine w_ixL (xs := rs.map V.int) (sq h9) (atI_map (x := o) (by omega) (by rw [show (((i : Nat) : Int) + ((j : Nat) : Int)).toNat = i + j by omega]; exact ez)) ?_
        walk_at "go"
        refine w_setL (j := i + j) h9 ?_ ?_
        · unfold ixN
          rw [if_pos (by omega), List.length_map, if_pos (by omega), show (((i : Nat) : Int) + ((j : Nat) : Int)).toNat = i + j by omega]
        walk_at "go"
        refine ⟨rs.set (i + j) (o + z * z'), _, _, rfl, same_app' nD S9, by rw [upd_same, List.map_set], by rw [List.length_set]; exact e8, fun z hz => ?_⟩
        rcases List.mem_or_eq_of_mem_set hz with h | h
        · refine Nat.le_trans (b8 z h) (Nat.mul_le_mul_right _ (by omega))
        · rw [h]
          exact hoo
      · rintro σ H8 ⟨rs, v5, v6, rfl, s8, h8, e8, b8⟩
        rw [List.length_map] at b8
        walk_at "go"
        exact ⟨rs, _, _, _, _, rfl, s8, h8, e8, by rw [Nat.succ_mul]; exact b8⟩
    · rintro σ H6 ⟨rs, v3, v4, v5, v6, rfl, s6, h6, e6, b6⟩
      rw [List.length_map] at b6
      walk_at "go"
      refine q D rs H6 nD s6 h6 e6 fun z hz => ?_
      have h1 := b6 z hz
      have h2 : cs.length * ms.length ≤ 40 * 40 := Nat.mul_le_mul c2 m2
      have h3 := Nat.mul_le_mul_right (2 ^ (A + B)) h2
      have h4 : 0 < 2 ^ (A + B) := Nat.pow_pos (by decide)
      rw [show A + B + 11 = (A + B) + 11 from rfl, Nat.pow_add _ (A + B) 11]
      have : (2 : Nat) ^ 11 = 2048 := by decide
      omega

abbrev s_mvr : Stmt := (top 36)
theorem sc_mvr : FnScope ["_law_row", "_law_root", "_law_scale", "_law_found", "_law_rest", "_law_factor", "_law_left", "_law_carried", "_law_term"] ["_law_row", "_law_root", "_law_scale"] (defScope s_mvr) :=
  ⟨rfl, rfl, rfl, by decide +kernel, rfl, by decide +kernel, by decide +kernel⟩
theorem ok_mvr (F : Dn K mg "_law_moved" s_mvr ["_law_row", "_law_root", "_law_scale"]) (T : Bt mg) : Cal P w K mg base 1 "_law_moved" spMvR [] := by
  refine F.cal sc_mvr (fun vs H Q E h => ?_) (fun f cdv A outer s H vs Q E hr h => ?_)
  · obtain ⟨l, cs, r, p, B, rfl, _⟩ := h
    rfl
  · obtain ⟨l, cs, r, p, B, rfl, hl, hlen, hB, hB2, r0, p0, q⟩ := h
    refine ⟨_, (pss_cons (ps_set (i := 3) sc_mvr.nd rfl (Or.inl rfl) (pe_lst pa_nil))
      (pss_cons (ps_set (i := 4) sc_mvr.nd rfl (Or.inl rfl) (pe_callTy cListOf (by rfl) T.list (by decide +kernel) (pa_cons (pv 0) pa_nil)))
      (pss_cons (ps_set (i := 5) sc_mvr.nd rfl (Or.inl rfl) pe_int)
      (pss_cons (ps_while PassesOwn.never (pt_cmpR (op_neD hr.units) (pv 4) (pe_lst pa_nil) (nomark _)) (pss_cons (ps_set (i := 6) sc_mvr.nd rfl (Or.inl rfl) (pe_lst pa_nil))
      (pss_cons (ps_set (i := 7) sc_mvr.nd rfl (Or.inl rfl) pe_int)
      (pss_cons (ps_for PassesOwn.never rfl (pi_list (pe_revL (pv 4))) (pg_name (i := 8) sc_mvr.nd rfl (Or.inl rfl)) (pss_cons (ps_set (i := 7) sc_mvr.nd rfl (Or.inl rfl) (pe_op op_add (pe_op oMul (pv 7) (pv 1)) (pv 8)))
      (pss_one (ps_expr (pe_bm PySem.F.plainAttrs_list PySem.F.slot_list_append PySem.F.type_list_append mt_append (pv 6) (pa_cons (pv 7) pa_nil))))))
      (pss_cons (ps_expr (pe_bm PySem.F.plainAttrs_list PySem.F.slot_list_append PySem.F.type_list_append mt_append (pv 3) (pa_cons (pe_op oMul (pe_bm0 PySem.F.plainAttrs_list PySem.F.slot_list_pop PySem.F.type_list_pop mt_pop (pv 6)) (pv 5)) pa_nil)))
      (pss_cons (ps_set (i := 5) sc_mvr.nd rfl (Or.inl rfl) (pe_op oMul (pv 5) (pv 2)))
      (pss_one (ps_set (i := 4) sc_mvr.nd rfl (Or.inl rfl) (pe_revL (pv 6))))))))))
      (pss_one (ps_ret (pv 3))))))), ?_⟩
    walk_at "go"
    refine al fun fd H1 n1 s1 h1 => ?_
    walk_at "go"
    refine w_listL (sq (s1 _ _ hl)) (al fun rs H2 n2 s2 h2 => ?_)
    walk_at "go"
    refine while_m (fun m σ' H' => ∃ (rr : Addr) (cs' acc : List Int) (j : Nat) (v6 v7 v8 : Option V), σ' = [some (.ref l), some (.int r), some (.int p), some (.ref fd), some (.ref rr), some (.int (p ^ j)), v6, v7, v8] ∧ Same H H' ∧ H' rr = some (.lst (cs'.map V.int)) ∧ H' fd = some (.lst (acc.map V.int)) ∧ rr ≠ fd ∧ cs'.length = m ∧ j + m = cs.length ∧ acc.length = j ∧ Sml (B + 63 * 30 * j) cs' ∧ acc ++ mvF r p m (p ^ j) cs' = mvF r p cs.length 1 cs) cs.length
      ⟨rs, cs, [], 0, none, none, none, by rw [Int.pow_zero], s1.trans s2, h2, s2 _ _ h1, (fun e => by rw [e, h1] at n2; cases n2), rfl, by omega, rfl, by simpa using hB, by rw [Int.pow_zero]; rfl⟩ ?_
    rintro m σ' H3 ⟨rr, cs', acc, j, v6, v7, v8, rfl, s3, h3, hf3, hne, hm, hjm, haj, hS, hmv⟩
    walk_at "go"
    refine al fun e H4 n4 s4 h4 => ?_
    walk_at "go"
    refine w_neLL (ls := cs') (ms := []) (sq (s4 _ _ h3)) (sq h4) ?_
    walk_at "go"
    refine ite_nd (fun he => ?_) (fun he => ?_)
    · refine while_nm ?_
      walk_at "go"
      refine al fun qd H5 n5 s5 h5 => ?_
      walk_at "go"
      refine w_revx (xs := cs'.map V.int) (sq (s5 _ _ (s4 _ _ h3))) (al fun rv H6 n6 s6 h6 => ?_)
      walk_at "go"
      have S6 : Same H3 H6 := s4.trans (s5.trans s6)
      have n6' : H5 rv ≠ some (.lst []) := fun e => by rw [n6] at e; cases e
      have q6 : H6 qd = some (.lst []) := s6 _ _ h5
      refine for_list (K := K) (a := rv) (xs := (cs'.map V.int).reverse) (fun i σ H' => ∃ (v8 : Option V), σ = [some (.ref l), some (.int r), some (.int p), some (.ref fd), some (.ref rr), some (.int (p ^ j)), some (.ref qd), some (.int (ev (cs'.drop (m - i)) r)), v8] ∧ Same H4 H' ∧ H' rv = some (.lst (cs'.map V.int).reverse) ∧ H' qd = some (.lst ((suf r (cs'.drop (m - i))).reverse.map V.int))) ?_ ?_ ?_ ?_
      · have ed : cs'.drop (m - 0) = [] := List.drop_eq_nil_of_le (by omega)
        rw [ed]
        exact ⟨v8, rfl, s5.trans s6, h6, q6⟩
      · intro i σ H' _ z
        obtain ⟨_, _, _, z, _⟩ := z
        exact sq z
      · rintro i x0 σ H7 hx ⟨v8, rfl, s7, h7, q7⟩
        have hi : i < m := by
          have := (List.getElem?_eq_some_iff.mp hx).1
          rw [List.length_reverse, List.length_map] at this
          omega
        have hd : cs'.drop (m - (i + 1)) = cs'[m - (i + 1)]'(by omega) :: cs'.drop (m - i) := by
          rw [List.drop_eq_getElem_cons (show m - (i + 1) < cs'.length by omega), show m - (i + 1) + 1 = m - i by omega]
        have hx0 : x0 = .int (cs'[m - (i + 1)]'(by omega)) := by
          rw [List.getElem?_reverse (by rw [List.length_map]; omega), List.length_map, List.getElem?_map, hm, show m - 1 - i = m - (i + 1) by omega, List.getElem?_eq_getElem (show m - (i + 1) < cs'.length by omega)] at hx
          exact (Option.some.inj hx).symm
        rw [hd]
        generalize cs'[m - (i + 1)]'(by omega) = c0 at hx0
        subst hx0
        walk_at "go"
        rw [← ev_cons]
        have nqr : rv ≠ qd := fun e => n6' (by rw [e]; exact h5)
        have hlq : ((suf r (cs'.drop (m - i))).reverse.map V.int).length ≤ 30 := by
          rw [List.length_map, List.length_reverse, suf_len, List.length_drop]
          omega
        refine w_append q7 (by have : (100 : Nat) < sizeLine := by decide
                               omega) ?_
        walk_at "go"
        refine ⟨_, rfl, fun b o hb => ?_, (upd_ne nqr).trans h7, ?_⟩
        · rw [upd_ne (fun e => by rw [e, n5] at hb; cases hb)]
          exact s7 _ _ hb
        · rw [upd_same, show suf r (c0 :: cs'.drop (m - i)) = ev (c0 :: cs'.drop (m - i)) r :: suf r (cs'.drop (m - i)) from rfl, List.reverse_cons, List.map_append]
          rfl
      · rintro σ H7 ⟨v8, rfl, s7, h7, q7⟩
        rw [show m - (cs'.map V.int).reverse.length = 0 by rw [List.length_reverse, List.length_map]; omega, List.drop_zero] at q7
        rw [show m - (cs'.map V.int).reverse.length = 0 by rw [List.length_reverse, List.length_map]; omega, List.drop_zero]
        cases cs' with
        | nil => exact absurd rfl he
        | cons c ds =>
          have hj30 : j < 30 := by
            rw [List.length_cons] at hm
            omega
          have hev := ev_bitsR r0 hS
          have hds : ds.length + 1 = m := hm
          rw [show (suf r (c :: ds)).reverse.map V.int = (suf r ds).reverse.map V.int ++ [V.int (ev (c :: ds) r)] by
            rw [show suf r (c :: ds) = ev (c :: ds) r :: suf r ds from rfl, List.reverse_cons, List.map_append]
            rfl] at q7
          have hpj : (p ^ j).natAbs < 2 ^ (62 * j + 1) := natAbs_pow_lt p0 j
          have m1 : CMx (ev (c :: ds) r) (p ^ j) := mx_w hev hpj (by simp only [List.length_cons]; omega)
          have m2 : CMx (p ^ j) p := mx_w hpj p0 (by omega)
          have nfq : fd ≠ qd := fun e => by
            have := s4 _ _ hf3
            rw [e, n5] at this
            cases this
          walk_at "go"
          refine w_pop q7 ?_
          have s8 : Same H4 (upd H7 qd (.lst ((suf r ds).reverse.map V.int))) := fun b o hb => by
            rw [upd_ne (fun e => by rw [e, n5] at hb; cases hb)]
            exact s7 _ _ hb
          have q8 : upd H7 qd (.lst ((suf r ds).reverse.map V.int)) qd = some (.lst ((suf r ds).reverse.map V.int)) := upd_same
          generalize upd H7 qd (.lst ((suf r ds).reverse.map V.int)) = H8 at s8 q8 ⊢
          have f8 : H8 fd = some (.lst (acc.map V.int)) := s8 _ _ (s4 _ _ hf3)
          have S8 : Same H H8 := s3.trans (s4.trans s8)
          clear q7 s7 h7
          walk_at "go"
          refine w_append f8 (by rw [List.length_map]; have : (100 : Nat) < sizeLine := by decide
                                 omega) ?_
          have q9 : upd H8 fd (.lst (acc.map V.int ++ [.int (ev (c :: ds) r * p ^ j)])) qd = some (.lst ((suf r ds).reverse.map V.int)) := (upd_ne (Ne.symm nfq)).trans q8
          have f9 : upd H8 fd (.lst (acc.map V.int ++ [.int (ev (c :: ds) r * p ^ j)])) fd = some (.lst (acc.map V.int ++ [.int (ev (c :: ds) r * p ^ j)])) := upd_same
          have S9 : Same H (upd H8 fd (.lst (acc.map V.int ++ [.int (ev (c :: ds) r * p ^ j)]))) := fun b o hb => by
            rw [upd_ne (fun e => by rw [e, n1] at hb; cases hb)]
            exact S8 _ _ hb
          generalize upd H8 fd (.lst (acc.map V.int ++ [.int (ev (c :: ds) r * p ^ j)])) = H9 at q9 f9 S9 ⊢
          walk_at "go"
          refine w_revx (xs := (suf r ds).reverse.map V.int) (sq q9) (al fun rn H10 n10 s10 h10 => ?_)
          rw [← List.map_reverse, List.reverse_reverse] at h10
          walk_at "go"
          refine ⟨ds.length, by omega, rn, suf r ds, acc ++ [ev (c :: ds) r * p ^ j], j + 1, _, _, _, by rw [Int.pow_succ], S9.trans s10, h10, ?_, (fun e => by rw [e, f9] at n10; cases n10), suf_len r ds, by omega, by rw [List.length_append, haj]; rfl, ?_, ?_⟩
          · rw [List.map_append]
            exact s10 _ _ f9
          · intro z hz
            have := suf_bitsR r0 (cs := ds) (fun z hz => hS z (List.mem_cons_of_mem _ hz)) z hz
            refine Nat.lt_of_lt_of_le this (Nat.pow_le_pow_right (by decide) ?_)
            omega
          · rw [← hmv, List.append_assoc, ← hds, Int.pow_succ]
            rfl
    · subst he
      have e0 : m = 0 := hm.symm
      subst e0
      walk_at "go"
      rw [show acc = mvF r p cs.length 1 cs by rw [← hmv]; exact (List.append_nil acc).symm] at hf3
      exact q fd H4 n1 (s3.trans s4) (s4 _ _ hf3)
abbrev s_van : Stmt := (top 37)
theorem sc_van : FnScope ["_law_row", "_law_size", "_law_product", "_law_rest", "_law_step", "_law_found", "_law_carried", "_law_term"] ["_law_row", "_law_size"] (defScope s_van) :=
  ⟨rfl, rfl, rfl, by decide +kernel, rfl, by decide +kernel, by decide +kernel⟩
theorem ok_van (F : Dn K mg "_law_vanishes" s_van ["_law_row", "_law_size"]) (T : Bt mg) : Cal P w K mg base 1 "_law_vanishes" spVan [] := by
  refine F.cal sc_van (fun vs H Q E h => ?_) (fun f cdv A outer s H vs Q E hr h => ?_)
  · obtain ⟨l, cs, n, B, rfl, _⟩ := h
    rfl
  · obtain ⟨l, cs, n, B, rfl, hl, hlen, hB, hB2, n0, n1, q⟩ := h
    refine ⟨_, (pss_cons (ps_set (i := 2) sc_van.nd rfl (Or.inl rfl) pe_int)
      (pss_cons (ps_set (i := 3) sc_van.nd rfl (Or.inl rfl) (pe_callTy cListOf (by rfl) T.list (by decide +kernel) (pa_cons (pv 0) pa_nil)))
      (pss_cons (ps_set (i := 4) sc_van.nd rfl (Or.inl rfl) pe_int)
      (pss_cons (ps_while PassesOwn.never (pt_cmpR (op_neD hr.units) (pv 3) (pe_lst pa_nil) (nomark _)) (pss_cons (ps_set (i := 5) sc_van.nd rfl (Or.inl rfl) (pe_lst pa_nil))
      (pss_cons (ps_set (i := 6) sc_van.nd rfl (Or.inl rfl) pe_int)
      (pss_cons (ps_for PassesOwn.never rfl (pi_list (pe_revL (pv 3))) (pg_name (i := 7) sc_van.nd rfl (Or.inl rfl)) (pss_cons (ps_set (i := 6) sc_van.nd rfl (Or.inl rfl) (pe_op op_add (pe_op oMul (pv 6) (pv 4)) (pv 7)))
      (pss_one (ps_expr (pe_bm PySem.F.plainAttrs_list PySem.F.slot_list_append PySem.F.type_list_append mt_append (pv 5) (pa_cons (pv 6) pa_nil))))))
      (pss_cons (ps_set (i := 2) sc_van.nd rfl (Or.inl rfl) (pe_op oMul (pv 2) (pe_callB (cMax2 rfl) (by rfl) T.max (by decide +kernel) (pa_cons pe_int (pa_cons (pv 4) pa_nil)))))
      (pss_cons (ps_if (pt_cmpR op_ne (pe_op op_mod (pe_op oMul (pe_bm0 PySem.F.plainAttrs_list PySem.F.slot_list_pop PySem.F.type_list_pop mt_pop (pv 5)) (pv 2)) (pv 1)) pe_int (nomark _)) (pss_one (ps_ret pe_bl)) pss_nil)
      (pss_cons (ps_set (i := 3) sc_van.nd rfl (Or.inl rfl) (pe_revL (pv 5)))
      (pss_one (ps_set (i := 4) sc_van.nd rfl (Or.inl rfl) (pe_op op_add (pv 4) pe_int))))))))))
      (pss_one (ps_ret pe_bl)))))), ?_⟩
    walk_at "go"
    refine w_listL (sq hl) (al fun rs H2 nn2 s2 h2 => ?_)
    walk_at "go"
    refine while_m (fun m σ' H' => ∃ (rr : Addr) (cs' : List Int) (j : Nat) (v5 v6 v7 : Option V), σ' = [some (.ref l), some (.int n), some (.int (fac (j - 1))), some (.ref rr), some (.int (j : Nat)), v5, v6, v7] ∧ Same H H' ∧ H' rr = some (.lst (cs'.map V.int)) ∧ cs'.length = m ∧ j + m = cs.length ∧ Sml (B + 11 * 30 * j) cs' ∧ (nwt cs.length 0 cs).drop j = nwt m j cs' ∧ BadI n (nwt cs.length 0 cs) j none) cs.length
      ⟨rs, cs, 0, none, none, none, rfl, s2, h2, rfl, by omega, by simpa using hB, by rw [List.drop_zero], fun m c h => by omega⟩ ?_
    rintro m σ' H3 ⟨rr, cs', j, v5, v6, v7, rfl, s3, h3, hm, hjm, hS, hnw, hbad⟩
    walk_at "go"
    refine al fun e H4 n4 s4 h4 => ?_
    walk_at "go"
    refine w_neLL (ls := cs') (ms := []) (sq (s4 _ _ h3)) (sq h4) ?_
    walk_at "go"
    refine ite_nd (fun he => ?_) (fun he => ?_)
    · refine while_nm ?_
      walk_at "go"
      refine al fun qd H5 n5 s5 h5 => ?_
      walk_at "go"
      refine w_revx (xs := cs'.map V.int) (sq (s5 _ _ (s4 _ _ h3))) (al fun rv H6 n6 s6 h6 => ?_)
      walk_at "go"
      have S6 : Same H3 H6 := s4.trans (s5.trans s6)
      have n6' : H5 rv ≠ some (.lst []) := fun e => by rw [n6] at e; cases e
      have q6 : H6 qd = some (.lst []) := s6 _ _ h5
      have hj30 : j < 30 := by
        have : cs' ≠ [] := he
        have := List.length_pos_iff.mpr this
        omega
      refine for_list (K := K) (a := rv) (xs := (cs'.map V.int).reverse) (fun i σ H' => ∃ (v7 : Option V), σ = [some (.ref l), some (.int n), some (.int (fac (j - 1))), some (.ref rr), some (.int (j : Nat)), some (.ref qd), some (.int (ev (cs'.drop (m - i)) (j : Nat))), v7] ∧ Same H4 H' ∧ H' rv = some (.lst (cs'.map V.int).reverse) ∧ H' qd = some (.lst ((suf (j : Nat) (cs'.drop (m - i))).reverse.map V.int))) ?_ ?_ ?_ ?_
      · have ed : cs'.drop (m - 0) = [] := List.drop_eq_nil_of_le (by omega)
        rw [ed]
        exact ⟨v7, rfl, s5.trans s6, h6, q6⟩
      · intro i σ H' _ z
        obtain ⟨_, _, _, z, _⟩ := z
        exact sq z
      · rintro i x0 σ H7 hx ⟨v7, rfl, s7, h7, q7⟩
        have hi : i < m := by
          have := (List.getElem?_eq_some_iff.mp hx).1
          rw [List.length_reverse, List.length_map] at this
          omega
        have hd : cs'.drop (m - (i + 1)) = cs'[m - (i + 1)]'(by omega) :: cs'.drop (m - i) := by
          rw [List.drop_eq_getElem_cons (show m - (i + 1) < cs'.length by omega), show m - (i + 1) + 1 = m - i by omega]
        have hx0 : x0 = .int (cs'[m - (i + 1)]'(by omega)) := by
          rw [List.getElem?_reverse (by rw [List.length_map]; omega), List.length_map, List.getElem?_map, hm, show m - 1 - i = m - (i + 1) by omega, List.getElem?_eq_getElem (show m - (i + 1) < cs'.length by omega)] at hx
          exact (Option.some.inj hx).symm
        rw [hd]
        generalize cs'[m - (i + 1)]'(by omega) = c0 at hx0
        subst hx0
        walk_at "go"
        rw [← ev_cons]
        have nqr : rv ≠ qd := fun e => n6' (by rw [e]; exact h5)
        have hlq : ((suf (j : Nat) (cs'.drop (m - i))).reverse.map V.int).length ≤ 30 := by
          rw [List.length_map, List.length_reverse, suf_len, List.length_drop]
          omega
        refine w_append q7 (by have : (100 : Nat) < sizeLine := by decide
                               omega) ?_
        walk_at "go"
        refine ⟨_, rfl, fun b o hb => ?_, (upd_ne nqr).trans h7, ?_⟩
        · rw [upd_ne (fun e => by rw [e, n5] at hb; cases hb)]
          exact s7 _ _ hb
        · rw [upd_same, show suf (j : Nat) (c0 :: cs'.drop (m - i)) = ev (c0 :: cs'.drop (m - i)) (j : Nat) :: suf (j : Nat) (cs'.drop (m - i)) from rfl, List.reverse_cons, List.map_append]
          rfl
      · rintro σ H7 ⟨v7, rfl, s7, h7, q7⟩
        rw [show m - (cs'.map V.int).reverse.length = 0 by rw [List.length_reverse, List.length_map]; omega, List.drop_zero] at q7
        rw [show m - (cs'.map V.int).reverse.length = 0 by rw [List.length_reverse, List.length_map]; omega, List.drop_zero]
        cases cs' with
        | nil => exact absurd rfl he
        | cons c ds =>
          have hev := ev_bits (r := (j : Int)) (by omega) hS
          have hds : ds.length + 1 = m := hm
          rw [show (suf (j : Nat) (c :: ds)).reverse.map V.int = (suf (j : Nat) ds).reverse.map V.int ++ [V.int (ev (c :: ds) (j : Nat))] by
            rw [show suf (j : Nat) (c :: ds) = ev (c :: ds) (j : Nat) :: suf (j : Nat) ds from rfl, List.reverse_cons, List.map_append]
            rfl] at q7
          have hfb := fac_small j (by omega)
          have m1 : CMx (ev (c :: ds) (j : Nat)) (fac j) := mx_w hev hfb (by simp only [List.length_cons]; omega)
          have hfb1 := fac_small (j - 1) (by omega)
          have d1 : CDivW (ev (c :: ds) (j : Nat) * fac j) n := wdiv (b := 62) n0 (by omega) (by decide)
          have hnth : (nwt cs.length 0 cs)[j]? = some (ev (c :: ds) (j : Nat)) := by
            have := congrArg (fun z : List Int => z[0]?) hnw
            simp only [List.getElem?_drop, Nat.add_zero] at this
            rw [this, ← hds]
            rfl
          walk_at "go"
          rw [fac_step]
          refine w_pop q7 ?_
          have s8 : Same H4 (upd H7 qd (.lst ((suf (j : Nat) ds).reverse.map V.int))) := fun b o hb => by
            rw [upd_ne (fun e => by rw [e, n5] at hb; cases hb)]
            exact s7 _ _ hb
          have q8 : upd H7 qd (.lst ((suf (j : Nat) ds).reverse.map V.int)) qd = some (.lst ((suf (j : Nat) ds).reverse.map V.int)) := upd_same
          generalize upd H7 qd (.lst ((suf (j : Nat) ds).reverse.map V.int)) = H8 at s8 q8 ⊢
          have S8 : Same H H8 := s3.trans (s4.trans s8)
          clear q7 s7 h7
          walk_at "go"
          rw [decI]
          refine ite_nd (fun hz => ?_) (fun hz => ?_)
          · walk_at "go"
            refine q false H8 S8 ?_
            have hB : Bad n (nwt cs.length 0 cs) (some j) := ⟨⟨_, hnth, fun hd => hz (Int.emod_eq_zero_of_dvd hd)⟩, hbad⟩
            have h1 := van_ok hB
            rw [van_all n0] at h1
            exact h1
          · walk_at "go"
            refine w_revx (xs := (suf (j : Nat) ds).reverse.map V.int) (sq q8) (al fun rn H10 n10 s10 h10 => ?_)
            rw [← List.map_reverse, List.reverse_reverse] at h10
            walk_at "go"
            refine ⟨ds.length, by omega, rn, suf (j : Nat) ds, j + 1, _, _, _, rfl, S8.trans s10, h10, suf_len _ ds, by omega, ?_, ?_, ?_⟩
            · intro z hz
              have := suf_bits (r := (j : Int)) (by omega) (cs := ds) (fun z hz => hS z (List.mem_cons_of_mem _ hz)) z hz
              refine Nat.lt_of_lt_of_le this (Nat.pow_le_pow_right (by decide) ?_)
              omega
            · have := congrArg List.tail hnw
              rw [List.tail_drop] at this
              rw [this, ← hds]
              rfl
            · intro i c0 hi hc
              by_cases e : i = j
              · subst e
                rw [hnth] at hc
                cases hc
                exact Int.dvd_of_emod_eq_zero hz
              · exact hbad i c0 (by omega) hc
    · subst he
      have e0 : m = 0 := hm.symm
      subst e0
      walk_at "go"
      refine q true H4 (s3.trans s4) ?_
      have hB : Bad n (nwt cs.length 0 cs) none := BadI.bad (by rw [show (nwt cs.length 0 cs).length = j by rw [nwt_len _ _ _ rfl]; omega]; exact hbad)
      have h1 := van_ok hB
      rw [van_all n0] at h1
      exact h1

abbrev s_drow : Stmt := (top 38)
theorem sc_drow : FnScope ["_law_purse_here", "_law_p", "_law_k", "_law_found", "_law_turn", "_law_near", "_law_step", "_law_row", "_law_root", "_law_size", "_law_term"] ["_law_purse_here", "_law_p", "_law_k"] (defScope s_drow) :=
  ⟨rfl, rfl, rfl, by decide +kernel, rfl, by decide +kernel, by decide +kernel⟩
theorem ok_drow (F : Dn K mg "_law_drawn_row" s_drow ["_law_purse_here", "_law_p", "_law_k"]) (T : Bt mg) (c_draw : Cal P w K mg base 2 "_law_draw" spDraw []) (c_great : Cal P w K mg base 3 "_law_great" spGreat []) (c_times : Cal P w K mg base 1 "_law_times" spTimesB []) (c_lraised : Cal P w K mg base 1 "_law_raised" spRaised []) : Cal P w K mg base 4 "_law_drawn_row" spDrow25 [] := by
  refine F.cal sc_drow (fun vs H Q E h => ?_) (fun f cdv A outer s H vs Q E hr h => ?_)
  · obtain ⟨a, p, k, c, rfl, _⟩ := h
    rfl
  · obtain ⟨a, p, k, c, rfl, hp1, hp2, hk1, hk2, hpk, hc, u0, q⟩ := h
    have sml_up : ∀ {A B : Nat} {rs : List Int}, A ≤ B → Sml A rs → Sml B rs := fun h hs z hz => Nat.lt_of_lt_of_le (hs z hz) (Nat.pow_le_pow_right (by decide) h)
    refine ⟨_, (pss_cons (ps_set (i := 3) sc_drow.nd rfl (Or.inl rfl) (pe_lst (pa_cons (pe_c c_great hr (by decide) (by rfl) (pa_cons (pv 0) (pa_cons pe_int pa_nil))) pa_nil)))
      (pss_cons (ps_for PassesOwn.never rfl (pi_range1 (by rfl) T.range (pa_cons (pe_c c_draw hr (by decide) (by rfl) (pa_cons (pv 0) (pa_cons pe_int pa_nil))) pa_nil)) (pg_name (i := 4) sc_drow.nd rfl (Or.inl rfl)) (pss_cons (ps_set (i := 5) sc_drow.nd rfl (Or.inl rfl) (pe_ix ix_list (pv 3) (pe_c c_draw hr (by decide) (by rfl) (pa_cons (pv 0) (pa_cons (pe_callB cLen (by rfl) T.len (by decide +kernel) (pa_cons (pv 3) pa_nil)) pa_nil))) (fun _ _ => rfl)))
      (pss_cons (ps_set (i := 6) sc_drow.nd rfl (Or.inl rfl) (pe_op oMul (pe_c c_lraised hr (by decide) (by rfl) (pa_cons (pv 1) (pa_cons (pe_c c_draw hr (by decide) (by rfl) (pa_cons (pv 0) (pa_cons (pv 2) pa_nil))) pa_nil))) (pe_op op_sub (pe_c c_draw hr (by decide) (by rfl) (pa_cons (pv 0) (pa_cons pe_int pa_nil))) pe_int)))
      (pss_one (ps_expr (pe_bm PySem.F.plainAttrs_list PySem.F.slot_list_append PySem.F.type_list_append mt_append (pv 3) (pa_cons (pe_ix ix_list (pe_lst (pa_cons (pe_op op_add (pv 5) (pv 6)) (pa_cons (pv 5) (pa_cons (pe_c c_great hr (by decide) (by rfl) (pa_cons (pv 0) (pa_cons pe_int pa_nil))) pa_nil)))) (pe_c c_draw hr (by decide) (by rfl) (pa_cons (pv 0) (pa_cons pe_int pa_nil))) (fun _ _ => rfl)) pa_nil)))))))
      (pss_cons (ps_set (i := 7) sc_drow.nd rfl (Or.inl rfl) (pe_lst (pa_cons (pe_c c_lraised hr (by decide) (by rfl) (pa_cons (pv 1) (pa_cons (pe_op oMul (pe_c c_draw hr (by decide) (by rfl) (pa_cons (pv 0) (pa_cons pe_int pa_nil))) (pe_callTy cInt1 (by rfl) T.int (by decide +kernel) (pa_cons (pe_cmpR op_eq (pe_c c_draw hr (by decide) (by rfl) (pa_cons (pv 0) (pa_cons pe_int pa_nil))) pe_int (nomark _)) pa_nil))) pa_nil))) pa_nil)))
      (pss_cons (ps_for PassesOwn.never rfl (pi_list (pv 3)) (pg_name (i := 8) sc_drow.nd rfl (Or.inl rfl)) (pss_one (ps_set (i := 7) sc_drow.nd rfl (Or.inl rfl) (pe_c c_times hr (by decide) (by rfl) (pa_cons (pv 7) (pa_cons (pe_lst (pa_cons (pe_op op_sub pe_int (pv 8)) (pa_cons pe_int pa_nil))) pa_nil))))))
      (pss_cons (ps_set (i := 9) sc_drow.nd rfl (Or.inr rfl) (pe_c c_lraised hr (by decide) (by rfl) (pa_cons (pv 1) (pa_cons (pv 2) pa_nil))))
      (pss_one (ps_ret (pe_lc (own := [("_law_term", 10)]) (g := gName 10) (tt := tYes) (te := (tOp _ (tOp _ (tCB _ (tCons (tVar 10) tNil)) (tVar 9)) (tOp _ (tVar 9) (tCall _ _ _ (tCons (tVar 0) (tCons _ tNil)))))) rfl sc_drow.nd (pi_list (pv 7)) (blkOk_by (own := [("_law_term", 10)]) (N := ["_law_purse_here", "_law_p", "_law_k", "_law_found", "_law_turn", "_law_near", "_law_step", "_law_row", "_law_root", "_law_size", "_law_term"]) (sc := defScope s_drow) (by decide +kernel)) (fun _ _ _ _ _ => (pg_name (i := 10) sc_drow.nd rfl (Or.inl rfl))) (fun _ _ _ _ _ => pts_nil) (fun _ _ _ _ _ => (pe_op op_add (pe_op op_mod (pe_callTy cInt1 (by rfl) T.int (by decide +kernel) (pa_cons (pv 10) pa_nil)) (pv 9)) (pe_op oMul (pv 9) (pe_c c_draw hr (by decide) (by rfl) (pa_cons (pv 0) (pa_cons pe_int pa_nil)))))))))))))), ?_⟩
    walk_at "go"
    refine use_greatR u0 (by decide) (by decide) (by omega) fun d1 H1 d10 d11 s1 u1 => ?_
    walk_at "go"
    refine alR u1 fun fl H2 s2 u2 h2 _ => ?_
    walk_at "go"
    have nla : fl ≠ a := fun e => by
      rw [e, rm_self] at h2
      cases h2
    have S2 := s1.trans s2
    have n2 : rm a H fl = none := none_of s1 ‹_›
    clear s1 s2 u1
    refine use_drawR u2 (by decide) (by decide) (by omega) fun tn H3 t0 t1 s3 u3 => ?_
    have h3 := s3 _ _ h2
    have S3 := S2.trans s3
    clear S2 s3 h2 u2
    walk_at "go"
    refine for_range (lo := 0) (n := tn.toNat) (fun i σ H' => ∃ (fs : List Int) (v4 v5 v6 : Option V), σ = [some (.ref a), some (.int p), some (.int (k : Nat)), some (.ref fl), v4, v5, v6, none, none, none, none] ∧ Same (rm fl (rm a H3)) (rm fl (rm a H')) ∧ Purse H' a (c + 50 + 20 * i) ∧ rm a H' fl = some (.lst (fs.map V.int)) ∧ fs.length = 1 + i ∧ Sml (63 + i) fs)
      ⟨[d1], _, _, _, rfl, Same.refl _, u3.le (by omega), h3, rfl, fun z hz => ?_⟩ ?_ ?_
    · rw [List.mem_singleton.mp hz]
      have : (10 : Int) ^ ((12 : Int)).toNat = 1000000000000 := by decide
      show d1.natAbs < 9223372036854775808
      omega
    · rintro i σ H4 hi ⟨fs, v4, v5, v6, rfl, s4, u4, h4, hfl, hfb⟩
      have hi7 : i ≤ 6 := by omega
      walk_at "go"
      rw [List.length_map]
      refine use_drawR u4 (by omega) (by omega) (by omega) fun at_ H5 a0 a1 s5 u5 => ?_
      obtain ⟨at_, rfl⟩ := Int.eq_ofNat_of_zero_le a0
      have hat : at_ < fs.length := by omega
      have ez := List.getElem?_eq_getElem hat
      have bz := hfb _ (List.getElem_mem hat)
      generalize fs[at_] = z at ez bz
      have h5 := s5 _ _ h4
      walk_at "go"
      refine w_ixL (xs := fs.map V.int) (sq (rm_le _ _ h5)) (atI_map (x := z) (by omega) (by rw [Int.toNat_natCast]; exact ez)) ?_
      walk_at "go"
      refine use_drawR u5 (by omega) (by omega) (by omega) fun d6 H6 d60 d61 s6 u6 => ?_
      obtain ⟨e6, rfl⟩ := Int.eq_ofNat_of_zero_le d60
      obtain ⟨g0, g1⟩ := pow_sml hp1 (show e6 ≤ k by omega) hpk
      walk_at "go"
      refine ⟨p, (e6 : Int), 10, rfl, by omega, by omega, by show p.natAbs < 1024; omega, by omega, ?_⟩
      rw [Int.toNat_natCast]
      walk_at "go"
      refine use_drawR u6 (by decide) (by decide) (by omega) fun d7 H7 d70 d71 s7 u7 => ?_
      walk_at "go"
      refine use_greatR u7 (by decide) (by decide) (by omega) fun d8 H8 d80 d81 s8 u8 => ?_
      walk_at "go"
      refine alR u8 fun l9 H9 s9 u9 h9 _ => ?_
      walk_at "go"
      refine use_drawR u9 (by decide) (by decide) (by omega) fun d10 HA d100 d101 sA uA => ?_
      have hb : (p ^ e6 * (d7 - 2)).natAbs ≤ 2 ^ 62 := by
        have cd : d7 = 0 ∨ d7 = 1 ∨ d7 = 2 ∨ d7 = 3 ∨ d7 = 4 := by omega
        have e : (2 : Nat) ^ 62 = 4611686018427387904 := by decide
        have e' : (2 : Int) ^ 61 = 2305843009213693952 := by decide
        rw [e]
        rcases cd with rfl | rfl | rfl | rfl | rfl <;> omega
      have e8 : (10 : Int) ^ ((12 : Int)).toNat = 1000000000000 := by decide
      have pw : 2 ^ 63 ≤ 2 ^ (63 + i) := Nat.pow_le_pow_right (by decide) (by omega)
      have e63 : (2 : Nat) ^ 63 = 2 * 2 ^ 62 := by decide
      have e62 : (2 : Nat) ^ 62 = 4611686018427387904 := by decide
      obtain ⟨y, hy, by_⟩ : ∃ y : Int, atI [V.int (z + p ^ e6 * (d7 - 2)), .int z, .int d8] d10 = some (.int y) ∧ y.natAbs < 2 ^ (63 + i + 1) := by
        have cd : d10 = 0 ∨ d10 = 1 ∨ d10 = 2 := by omega
        rw [Nat.pow_succ]
        rcases cd with rfl | rfl | rfl
        · exact ⟨_, atI_nat (j := 0) rfl, by omega⟩
        · exact ⟨_, atI_nat (j := 1) rfl, by omega⟩
        · exact ⟨_, atI_nat (j := 2) rfl, by omega⟩
      have h9A := sA _ _ h9
      refine w_ixL (sq (rm_le _ _ h9A)) hy ?_
      have SA : Same (rm a H5) (rm a HA) := by walk_at "same"
      have hA := SA _ _ h5
      clear s6 s7 s8 s9 sA u5 u6 u7 u8 u9 h9 h9A
      walk_at "go"
      refine w_appendR uA hA (by rw [List.length_map]; have : (100 : Nat) < sizeLine := by decide
                                 omega) fun HB sB uB hB => ?_
      walk_at "go"
      refine ⟨fs ++ [y], _, _, _, rfl, s4.trans ((s5.trans SA).rm.trans sB), uB.le (by omega), by rw [hB, List.map_append]; rfl, by rw [List.length_append, hfl]; show 1 + i + 1 = _; omega, fun w hw => ?_⟩
      rcases List.mem_append.mp hw with hw | hw
      · have := hfb w hw
        rw [show 63 + (i + 1) = 63 + i + 1 by omega, Nat.pow_succ]
        omega
      · rw [List.mem_singleton.mp hw]
        exact by_
    rintro σ H4 ⟨fs, v4, v5, v6, rfl, s4, u4, h4, hfl, hfb⟩
    have hi7 : tn.toNat ≤ 7 := by omega
    have S4 : Same (rm a H) (rm fl (rm a H4)) := (rm_in n2 S3).trans s4
    have S4 : Same (rm a H) (rm a H4) := S4.trans rm_le
    have hfb : Sml 75 fs := sml_up (by omega) hfb
    clear S3 s4 u3 h3 n2
    walk_at "go"
    refine use_drawR u4 (by decide) (by decide) (by omega) fun e5 H5 e50 e51 s5 u5 => ?_
    walk_at "go"
    refine use_drawR u5 (by decide) (by decide) (by omega) fun e6 H6 e60 e61 s6 u6 => ?_
    walk_at "go"
    rw [decI]
    have hm0 : 0 ≤ e5 * (if decide (e6 = 0) = true then 1 else 0) ∧ e5 * (if decide (e6 = 0) = true then (1 : Int) else 0) ≤ 2 := by
      split <;> omega
    generalize e5 * (if decide (e6 = 0) = true then (1 : Int) else 0) = ee at hm0 ⊢
    obtain ⟨m, rfl⟩ := Int.eq_ofNat_of_zero_le hm0.1
    refine ⟨p, (m : Int), 7, rfl, by omega, by omega, by show p.natAbs < 128; omega, by omega, ?_⟩
    rw [Int.toNat_natCast]
    have bm : (p ^ m).natAbs < 2 ^ 15 := Nat.lt_of_lt_of_le (natAbs_pow_lt (b := 7) (by show p.natAbs < 128; omega) m) (Nat.pow_le_pow_right (by decide) (by omega))
    walk_at "go"
    refine alR u6 fun l7 H7 s7 u7 h7 _ => ?_
    have S7 : Same (rm a H4) (rm a H7) := by walk_at "same"
    have hf7 := S7 _ _ h4
    have S7 := S4.trans S7
    clear s5 s6 s7 u4 u5 u6 h4 S4
    walk_at "go"
    refine for_list (K := K) (a := fl) (xs := fs.map V.int) (fun i σ H' => ∃ (l : Addr) (rs : List Int) (v8 : Option V), σ = [some (.ref a), some (.int p), some (.int (k : Nat)), some (.ref fl), v4, v5, v6, some (.ref l), v8, none, none] ∧ Same (rm a H7) (rm a H') ∧ Purse H' a (c + 500) ∧ rm a H' l = some (.lst (rs.map V.int)) ∧ rs.length = 1 + i ∧ Sml (15 + 90 * i) rs)
      ⟨l7, [p ^ m], _, rfl, Same.refl _, u7.le (by omega), h7, rfl, fun z hz => ?_⟩ (fun i σ H' _ z => by
        obtain ⟨_, _, _, _, sm, _⟩ := z
        exact sq (rm_le _ _ (sm _ _ hf7))) ?_ ?_
    · rw [List.mem_singleton.mp hz]
      exact bm
    · rintro i x σ H8 hx ⟨l, rs, v8, rfl, s8, u8, h8, r1, r2⟩
      obtain ⟨z, hz, rfl⟩ := get_map hx
      have bz := hfb z (List.mem_of_getElem? hz)
      have hi8 : i < fs.length := (List.getElem?_eq_some_iff.mp hz).1
      walk_at "go"
      refine alR u8 fun l9 H9 s9 u9 h9 _ => ?_
      walk_at "go"
      refine ⟨l, l9, rs, [0 - z, 1], 15 + 90 * i, 75, rfl, rm_le _ _ (s9 _ _ h8), rm_le _ _ h9, by omega, by omega, (show 1 ≤ 2 by decide), (show 2 ≤ 40 by decide), r2, fun y hy => ?_, by omega, fun lA rsA HA nA sA hA eA bA => ?_⟩
      · rcases List.mem_cons.mp hy with e | e
        · rw [e]
          omega
        · rw [List.mem_singleton.mp e]
          exact Nat.one_lt_two_pow (by decide)
      have hA := rm_of (u9.fresh nA) hA
      have uA := u9.same sA
      have sA := sA.rm (a := a)
      have eA : rsA.length = rs.length + 2 - 1 := eA
      walk_at "go"
      exact ⟨lA, rsA, _, rfl, s8.trans (s9.trans sA), uA, hA, by omega, sml_up (by omega) bA⟩
    rintro σ H8 ⟨l, rs, v8, rfl, s8, u8, h8, r1, r2⟩
    rw [List.length_map, hfl] at r1
    have S8 := S7.trans s8
    clear s8 S7 u7 h7 hf7
    obtain ⟨g0, g1⟩ := pow_sml hp1 (Nat.le_refl k) hpk
    walk_at "go"
    refine ⟨p, (k : Int), 10, rfl, by omega, by omega, by show p.natAbs < 1024; omega, by omega, ?_⟩
    rw [Int.toNat_natCast]
    walk_at "go"
    intro D hD
    refine lc_drawsR (rs.map V.int) 1 (fun z => z.natAbs < 2 ^ 62) walk_list u8 hD (fun H' sm => sq (rm_le _ _ (sm _ _ h8))) (by simp; omega) (fun _ => rfl) ?_ ?_
    · intro i x H9 hx s9 u9 Q' q'
      obtain ⟨z, hz, rfl⟩ := get_map hx
      have hil : i < rs.length := (List.getElem?_eq_some_iff.mp hz).1
      have m0 := Int.emod_nonneg z (show p ^ k ≠ 0 by omega)
      have m1 := Int.emod_lt_of_pos z g0
      have d1 : CDivW z (p ^ k) := wdiv (b := 62) g0 (by have e : (2 : Nat) ^ 62 = 4611686018427387904 := by decide
                                                         omega) (by decide)
      walk_at "go"
      refine use_drawR u9 (by decide) (by decide) (by omega) fun dd HA dd0 dd1 sA uA => ?_
      have mm : CMx (p ^ k) dd := mx_r (by omega)
      walk_at "go"
      refine q' _ _ ?_ sA (uA.le (by omega))
      have e : (2 : Nat) ^ 62 = 4611686018427387904 := by decide
      have e' : (2 : Int) ^ 61 = 2305843009213693952 := by decide
      have cd : dd = 0 ∨ dd = 1 := by omega
      rw [e]
      rcases cd with rfl | rfl
      · rw [Int.mul_zero]
        omega
      · rw [Int.mul_one]
        omega
    intro H9 ys hyl hyb h9 s9 u9
    rw [List.length_map] at hyl u9
    walk_at "go"
    exact q D ys H9 (S8.trans s9) (u9.le (by omega)) h9 (by omega) hyb

abbrev s_cnt0 : Stmt := (top 39)
theorem sc_cnt0 : FnScope ["_law_row", "_law_p", "_law_size", "_law_whole", "_law_rest", "_law_term", "_law_found", "_law_root", "_law_value"] ["_law_row", "_law_p", "_law_size"] (defScope s_cnt0) :=
  ⟨rfl, rfl, rfl, by decide +kernel, rfl, by decide +kernel, by decide +kernel⟩
theorem ok_cnt0 (F : Dn K mg "_law_count" s_cnt0 ["_law_row", "_law_p", "_law_size"]) (T : Bt mg) : Cal P w K mg base 2 "_law_count" (spCntN 0) [] := by
  refine F.cal sc_cnt0 (fun vs H Q E h => ?_) (fun f cdv A outer s H vs Q E hr h => ?_)
  · obtain ⟨l, cs, p, k, rfl, _⟩ := h
    rfl
  · obtain ⟨l, cs, p, k, rfl, hl, hlen, hp, p2, hkn, hd, hpk, q⟩ := h
    have k0 : k = 0 := by omega
    subst k0
    have hp1 := hp.1
    refine ⟨_, (pss_cons (ps_set (i := 3) sc_cnt0.nd rfl (Or.inl rfl) (pv 2))
      (pss_cons (ps_setLc (i := 4) (own := [("_law_term", 5)]) (g := gName 5) (tt := tYes) (te := (tOp _ (tCB _ (tCons (tVar 5) tNil)) (tVar 2))) rfl sc_cnt0.nd rfl rfl (sw_true rfl rfl rfl (by decide +kernel)) (pi_list (pv 0)) (blkOk_by (own := [("_law_term", 5)]) (N := ["_law_row", "_law_p", "_law_size", "_law_whole", "_law_rest", "_law_term", "_law_found", "_law_root", "_law_value"]) (sc := defScope s_cnt0) (by decide +kernel)) (fun _ _ _ _ _ => (pg_name (i := 5) sc_cnt0.nd rfl (Or.inl rfl))) (fun _ _ _ _ _ => pts_nil) (fun _ _ _ _ _ => (pe_op op_mod (pe_callTy cInt1 (by rfl) T.int (by decide +kernel) (pa_cons (pv 5) pa_nil)) (pv 2))))
      (pss_cons (ps_while PassesOwn.never (PW.pt (pw_and (pt_cmpR op_gt (pv 3) pe_int (nomark _)) (pw_and1 (pt_cmpR (op_eqD hr.units) (pe_lc (own := [("_law_term", 5)]) (g := gName 5) (tt := (tTest (tOp _ (tOp _ (tVar 5) (tVar 1)) _))) (te := (tVar 5)) rfl sc_cnt0.nd (pi_list (pv 4)) (blkOk_by (own := [("_law_term", 5)]) (N := ["_law_row", "_law_p", "_law_size", "_law_whole", "_law_rest", "_law_term", "_law_found", "_law_root", "_law_value"]) (sc := defScope s_cnt0) (by decide +kernel)) (fun _ _ _ _ _ => (pg_name (i := 5) sc_cnt0.nd rfl (Or.inl rfl))) (fun _ _ _ _ _ => (pts_one (pt_cmpR op_ne (pe_op op_mod (pv 5) (pv 1)) pe_int (nomark _)))) (fun _ _ _ _ _ => (pv 5))) (pe_lst pa_nil) (nomark _))))) (pss_cons (ps_setLc (i := 4) (own := [("_law_term", 5)]) (g := gName 5) (tt := tYes) (te := (tOp _ (tVar 5) (tVar 1))) rfl sc_cnt0.nd rfl rfl (sw_true rfl rfl rfl (by decide +kernel)) (pi_list (pv 4)) (blkOk_by (own := [("_law_term", 5)]) (N := ["_law_row", "_law_p", "_law_size", "_law_whole", "_law_rest", "_law_term", "_law_found", "_law_root", "_law_value"]) (sc := defScope s_cnt0) (by decide +kernel)) (fun _ _ _ _ _ => (pg_name (i := 5) sc_cnt0.nd rfl (Or.inl rfl))) (fun _ _ _ _ _ => pts_nil) (fun _ _ _ _ _ => (pe_op op_fdivW (pv 5) (pv 1))))
      (pss_one (ps_set (i := 3) sc_cnt0.nd rfl (Or.inl rfl) (pe_op op_fdivW (pv 3) (pv 1))))))
      (pss_cons (ps_if (pt_cmpR op_eq (pv 3) pe_int (nomark _)) (pss_one (ps_ret (pv 2))) pss_nil)
      (pss_cons (ps_set (i := 6) sc_cnt0.nd rfl (Or.inl rfl) pe_int)
      (pss_cons (ps_for PassesOwn.never rfl (pi_range1 (by rfl) T.range (pa_cons (pv 1) pa_nil)) (pg_name (i := 7) sc_cnt0.nd rfl (Or.inl rfl)) pss_never)
      (pss_one (ps_ret (pe_op oMul (pe_op op_fdivW (pv 2) (pv 3)) (pv 6)))))))))), ?_⟩
    rw [show ((p ^ 0 : Nat) : Int) = 1 from rfl] at *
    walk_at "go"
    intro D hD
    refine lc_pure (cs.map V.int) ((cs.map fun z => z % 1).map V.int) walk_list hD (fun H' sm => sq (sm _ _ hl)) (by simp) (by simp; omega) (fun _ => rfl) ?_ ?_
    · intro i v0 y0 H' hx hy sm Q' q'
      obtain ⟨z0, hz0, rfl⟩ := get_map hx
      rw [List.map_map, List.getElem?_map, hz0] at hy
      cases hy
      walk_at "go"
      exact q' _ (Same.refl _)
    intro H1 s1 h1
    walk_at "go"
    refine while_m (fun m σ' H' => σ' = [some (.ref l), some (.int (p : Nat)), some (.int 1), some (.int 1), some (.ref D), none, none, none, none] ∧ H' = H1) 0 ⟨rfl, rfl⟩ ?_
    rintro m σ' H' ⟨rfl, rfl⟩
    walk_at "go"
    rw [show decide ((1 : Int) < 1) = false from rfl]
    refine iteF (iteF ?_)
    walk_at "go"
    refine iteT ?_
    walk_at "go"
    exact q _ s1
abbrev s_cntn : Stmt := (top 39)
theorem sc_cntn : FnScope ["_law_row", "_law_p", "_law_size", "_law_whole", "_law_rest", "_law_term", "_law_found", "_law_root", "_law_value"] ["_law_row", "_law_p", "_law_size"] (defScope s_cntn) :=
  ⟨rfl, rfl, rfl, by decide +kernel, rfl, by decide +kernel, by decide +kernel⟩
theorem ok_cntn {n L : Nat} (hL : 2 ≤ L) (F : Dn K mg "_law_count" s_cntn ["_law_row", "_law_p", "_law_size"]) (T : Bt mg) (c_mvr : Cal P w K mg base 1 "_law_moved" spMvR []) (c_rec : Cal P w K mg base L "_law_count" (spCntN n) []) : Cal P w K mg base (L + 1) "_law_count" (spCntN (n + 1)) [] := by
  refine F.cal sc_cntn (fun vs H Q E h => ?_) (fun f cdv A outer s H vs Q E hr h => ?_)
  · obtain ⟨l, cs, p, k, rfl, _⟩ := h
    rfl
  · obtain ⟨l, cs, p, k, rfl, hl, hlen, hp, p2, hkn, hd, hpk, q⟩ := h
    have hp1 := hp.1
    have hP : ∀ j : Nat, ((p ^ j : Nat) : Int) = (p : Int) ^ j := fun j => Int.natCast_pow p j
    have hpk0 : 0 < p ^ k := Nat.pow_pos (by omega)
    have e61 : (2 : Nat) ^ 61 = 2305843009213693952 := by decide
    refine ⟨_, (pss_cons (ps_set (i := 3) sc_cntn.nd rfl (Or.inl rfl) (pv 2))
      (pss_cons (ps_setLc (i := 4) (own := [("_law_term", 5)]) (g := gName 5) (tt := tYes) (te := (tOp _ (tCB _ (tCons (tVar 5) tNil)) (tVar 2))) rfl sc_cntn.nd rfl rfl (sw_true rfl rfl rfl (by decide +kernel)) (pi_list (pv 0)) (blkOk_by (own := [("_law_term", 5)]) (N := ["_law_row", "_law_p", "_law_size", "_law_whole", "_law_rest", "_law_term", "_law_found", "_law_root", "_law_value"]) (sc := defScope s_cntn) (by decide +kernel)) (fun _ _ _ _ _ => (pg_name (i := 5) sc_cntn.nd rfl (Or.inl rfl))) (fun _ _ _ _ _ => pts_nil) (fun _ _ _ _ _ => (pe_op op_mod (pe_callTy cInt1 (by rfl) T.int (by decide +kernel) (pa_cons (pv 5) pa_nil)) (pv 2))))
      (pss_cons (ps_while PassesOwn.never (PW.pt (pw_and (pt_cmpR op_gt (pv 3) pe_int (nomark _)) (pw_and1 (pt_cmpR (op_eqD hr.units) (pe_lc (own := [("_law_term", 5)]) (g := gName 5) (tt := (tTest (tOp _ (tOp _ (tVar 5) (tVar 1)) _))) (te := (tVar 5)) rfl sc_cntn.nd (pi_list (pv 4)) (blkOk_by (own := [("_law_term", 5)]) (N := ["_law_row", "_law_p", "_law_size", "_law_whole", "_law_rest", "_law_term", "_law_found", "_law_root", "_law_value"]) (sc := defScope s_cntn) (by decide +kernel)) (fun _ _ _ _ _ => (pg_name (i := 5) sc_cntn.nd rfl (Or.inl rfl))) (fun _ _ _ _ _ => (pts_one (pt_cmpR op_ne (pe_op op_mod (pv 5) (pv 1)) pe_int (nomark _)))) (fun _ _ _ _ _ => (pv 5))) (pe_lst pa_nil) (nomark _))))) (pss_cons (ps_setLc (i := 4) (own := [("_law_term", 5)]) (g := gName 5) (tt := tYes) (te := (tOp _ (tVar 5) (tVar 1))) rfl sc_cntn.nd rfl rfl (sw_true rfl rfl rfl (by decide +kernel)) (pi_list (pv 4)) (blkOk_by (own := [("_law_term", 5)]) (N := ["_law_row", "_law_p", "_law_size", "_law_whole", "_law_rest", "_law_term", "_law_found", "_law_root", "_law_value"]) (sc := defScope s_cntn) (by decide +kernel)) (fun _ _ _ _ _ => (pg_name (i := 5) sc_cntn.nd rfl (Or.inl rfl))) (fun _ _ _ _ _ => pts_nil) (fun _ _ _ _ _ => (pe_op op_fdivW (pv 5) (pv 1))))
      (pss_one (ps_set (i := 3) sc_cntn.nd rfl (Or.inl rfl) (pe_op op_fdivW (pv 3) (pv 1))))))
      (pss_cons (ps_if (pt_cmpR op_eq (pv 3) pe_int (nomark _)) (pss_one (ps_ret (pv 2))) pss_nil)
      (pss_cons (ps_set (i := 6) sc_cntn.nd rfl (Or.inl rfl) pe_int)
      (pss_cons (ps_for PassesOwn.never rfl (pi_range1 (by rfl) T.range (pa_cons (pv 1) pa_nil)) (pg_name (i := 7) sc_cntn.nd rfl (Or.inl rfl)) (pss_cons (ps_set (i := 8) sc_cntn.nd rfl (Or.inl rfl) pe_int)
      (pss_cons (ps_for PassesOwn.never rfl (pi_list (pe_revL (pv 4))) (pg_name (i := 5) sc_cntn.nd rfl (Or.inl rfl)) (pss_one (ps_set (i := 8) sc_cntn.nd rfl (Or.inl rfl) (pe_op op_mod (pe_op op_add (pe_op oMul (pv 8) (pv 7)) (pv 5)) (pv 1)))))
      (pss_one (ps_if (pt_cmpR op_eq (pv 8) pe_int (nomark _)) (pss_one (ps_set (i := 6) sc_cntn.nd rfl (Or.inl rfl) (pe_op op_add (pv 6) (pe_op op_fdivW (pe_c c_rec hr (by omega) (by rfl) (pa_cons (pe_c c_mvr hr (by omega) (by rfl) (pa_cons (pv 4) (pa_cons (pv 7) (pa_cons (pv 1) pa_nil)))) (pa_cons (pv 1) (pa_cons (pv 3) pa_nil)))) (pv 1))))) pss_nil)))))
      (pss_one (ps_ret (pe_op oMul (pe_op op_fdivW (pv 2) (pv 3)) (pv 6)))))))))), ?_⟩
    have hdk : ∀ z : Int, CDivW z ((p ^ k : Nat) : Int) := fun z => wdiv (b := 61) (by omega) (by omega) (by decide)
    have hdp : ∀ z : Int, CDivW z (p : Int) := fun z => wdiv (b := 10) (by omega) (by omega) (by decide)
    walk_at "go"
    intro D hD
    refine lc_pure (cs.map V.int) ((cs.map fun z => z % ((p ^ k : Nat) : Int)).map V.int) walk_list hD (fun H' sm => sq (sm _ _ hl)) (by simp) (by simp; omega) (fun _ => rfl) ?_ ?_
    · intro i v0 y0 H' hx hy sm Q' q'
      obtain ⟨z0, hz0, rfl⟩ := get_map hx
      rw [List.map_map, List.getElem?_map, hz0] at hy
      cases hy
      walk_at "go"
      exact q' _ (Same.refl _)
    intro H1 s1 h1
    have hd' : k = n + 1 → ∀ z ∈ cs.map (fun z => z % ((p ^ k : Nat) : Int)), (p : Int) ∣ z := fun e z hz => by
      obtain ⟨z0, hz0, rfl⟩ := List.mem_map.mp hz
      have h1 := (hd e).resolve_left (by omega) z0 hz0
      rw [Int.emod_def]
      refine Int.dvd_sub h1 (Int.dvd_trans ?_ (Int.dvd_mul_right _ _))
      rw [hP, e, Int.pow_succ]
      exact Int.dvd_mul_left _ _
    have hb : Sml 61 (cs.map fun z => z % ((p ^ k : Nat) : Int)) := fun z hz => by
      obtain ⟨z0, hz0, rfl⟩ := List.mem_map.mp hz
      have m0 := Int.emod_nonneg z0 (show ((p ^ k : Nat) : Int) ≠ 0 by omega)
      have m1 := Int.emod_lt_of_pos z0 (show 0 < ((p ^ k : Nat) : Int) by omega)
      omega
    have hlen' : (cs.map fun z => z % ((p ^ k : Nat) : Int)).length ≤ 30 := by rw [List.length_map]; exact hlen
    generalize (cs.map fun z => z % ((p ^ k : Nat) : Int)) = c0 at *
    walk_at "go"
    refine while_m (fun m σ' H' => ∃ (r' : Addr) (cs' : List Int) (c : Nat), σ' = [some (.ref l), some (.int (p : Nat)), some (.int ((p ^ k : Nat) : Int)), some (.int ((p ^ m : Nat) : Int)), some (.ref r'), none, none, none, none] ∧ Same H1 H' ∧ H' r' = some (.lst (cs'.map V.int)) ∧ cs'.length = c0.length ∧ tk (p : Int) k c0 = (c + (tk (p : Int) m cs').1, (tk (p : Int) m cs').2)) k ⟨D, c0, 0, rfl, Same.refl _, h1, rfl, by rw [Nat.zero_add]⟩ ?_
    rintro m σ' H2 ⟨r', cs', c, rfl, s2, h2, hl2, hk⟩
    have hdm : ∀ z : Int, CDivW z (p : Int) := hdp
    walk_at "go"
    cases m with
    | zero =>
      rw [show decide ((1 : Int) < ((p ^ 0 : Nat) : Int)) = false from rfl]
      refine iteF (iteF ?_)
      walk_at "go"
      refine iteT ?_
      walk_at "go"
      have h0 : (tk (p : Int) k c0).2.2 = 0 := by rw [hk]; rfl
      have e : cntT p (n + 1) k c0 = p ^ k := by
        unfold cntT
        rw [if_pos h0]
      rw [e] at q
      exact q _ (s1.trans s2)
    | succ m =>
      have hpm : 0 < p ^ m := Nat.pow_pos (by omega)
      have hpm1 : 1 < p ^ (m + 1) := by
        rw [Nat.pow_succ]
        have := Nat.mul_le_mul_right p (show 1 ≤ p ^ m by omega)
        omega
      rw [show decide ((1 : Int) < ((p ^ (m + 1) : Nat) : Int)) = true from decide_eq_true (by omega)]
      refine iteT ?_
      walk_at "go"
      intro D3 hD3
      refine lc_filt (cs'.map V.int) (stepsN (p : Int)) (fun v => v) walk_list hD3 (fun H' sm => sq (sm _ _ h2)) (by rw [List.length_map]; omega) (fun _ => rfl) ?_ ?_ ?_
      · intro i v0 H' hx sm Q' q'
        obtain ⟨z0, hz0, rfl⟩ := get_map hx
        walk_at "go"
        have ee : (!decide (V.int (z0 % (p : Int)) = V.int 0)) = stepsN (p : Int) (.int z0) := by
          rw [decI]
          unfold stepsN
          by_cases g : z0 % (p : Int) = 0
          · simp [g]
          · simp [g]
        rw [ee]
        exact q' _ (Same.refl _)
      · intro i v0 H' hx hpx sm Q' q'
        walk_at "go"
        exact q' _ (Same.refl _)
      intro H3 s3 h3
      rw [show ((cs'.map V.int).filter (stepsN (p : Int))).map (fun v => v) = (cs'.filter fun z => decide (z % (p : Int) ≠ 0)).map V.int by rw [List.filter_map, List.map_map]; rfl] at h3
      walk_at "go"
      refine al fun e H4 _ s4 h4 => ?_
      walk_at "go"
      refine w_eqLL (ls := cs'.filter fun z => decide (z % (p : Int) ≠ 0)) (ms := []) (sq (s4 _ _ h3)) (sq h4) ?_
      walk_at "go"
      refine ite_d (fun he => ?_) (fun he => ?_)
      · refine while_nm ?_
        walk_at "go"
        intro D2 hD2
        have h2' := s4 _ _ (s3 _ _ h2)
        refine lc_pure (cs'.map V.int) ((cs'.map fun z => z / (p : Int)).map V.int) walk_list hD2 (fun H' sm => sq (sm _ _ h2')) (by simp) (by simp; omega) (fun _ => rfl) ?_ ?_
        · intro i v0 y0 H' hx hy sm Q' q'
          obtain ⟨z0, hz0, rfl⟩ := get_map hx
          rw [List.map_map, List.getElem?_map, hz0] at hy
          cases hy
          walk_at "go"
          exact q' _ (Same.refl _)
        intro H5 s5 h5
        walk_at "go"
        have ep : ((p ^ (m + 1) : Nat) : Int) / (p : Int) = ((p ^ m : Nat) : Int) := by rw [hP, hP, Int.pow_succ]; exact Int.mul_ediv_cancel _ (by omega)
        rw [ep]
        refine ⟨m, Nat.lt_succ_self m, D2, cs'.map (fun z => z / (p : Int)), c + 1, rfl, s2.trans (s3.trans (s4.trans s5)), h5, by rw [List.length_map, hl2], ?_⟩
        rw [hk, tk_on he]
        exact Prod.ext (by show c + ((tk (p : Int) m _).1 + 1) = c + 1 + (tk (p : Int) m _).1; omega) rfl
      · walk_at "go"
        rw [decI, decide_eq_false (show ¬ (((p ^ (m + 1) : Nat) : Int) = 1) by omega)]
        refine iteF ?_
        walk_at "go"
        rw [tk_off he] at hk
        have hle := tk_le (p : Int) k c0
        have hSr : Sml 61 (tk (p : Int) k c0).2.1 := tk_sml hb hp1 k
        have hk1 : m + 1 ≤ n := by
          have hk2 : (tk (p : Int) k c0).2.2 = m + 1 := by rw [hk]
          by_cases e : k = n + 1
          · have h := hd' e
            rw [e] at hk2
            have := tk_less (k := n) h
            omega
          · omega
        have hcT : cntT p (n + 1) k c0 = p ^ c * ((List.range p).map fun r : Nat => if ev cs' (r : Int) % (p : Int) = 0 then cntT p n (m + 1) ((mvF r p cs'.length 1 cs').map fun z => z % ((p ^ (m + 1) : Nat) : Int)) / p else 0).sum := by
          conv => lhs; unfold cntT
          rw [if_neg (show ¬ (tk (p : Int) k c0).2.2 = 0 by rw [hk]; exact Nat.succ_ne_zero m), hk]
          rfl
        rw [hk] at hSr hle
        have hSr : Sml 61 cs' := hSr
        have hkc : c + (m + 1) = k := hle.2
        have hmk : p ^ (m + 1) ≤ p ^ k := Nat.pow_le_pow_right (by omega) (by omega)
        have h4' := s4 _ _ (s3 _ _ h2)
        have S4 : Same H H4 := s1.trans (s2.trans (s3.trans s4))
        rw [hcT] at q
        clear hcT hd' hd hk hle h3 h2 hb he s2 s3 s4 h1 hD hD3
        generalize hg : (fun r : Nat => if ev cs' (r : Int) % (p : Int) = 0 then cntT p n (m + 1) ((mvF r p cs'.length 1 cs').map fun z => z % ((p ^ (m + 1) : Nat) : Int)) / p else 0) = g at q
        refine for_range (lo := 0) (n := ((p : Nat) : Int).toNat) (fun i σ H' => ∃ (v5 v7 v8 : Option V), σ = [some (.ref l), some (.int (p : Nat)), some (.int ((p ^ k : Nat) : Int)), some (.int ((p ^ (m + 1) : Nat) : Int)), some (.ref r'), v5, some (.int ((((List.range i).map g).sum : Nat) : Int)), v7, v8] ∧ Same H4 H') ⟨_, _, _, rfl, Same.refl _⟩ ?_ ?_
        · rintro i σ H5 hi ⟨v5, v7, v8, rfl, s5⟩
          have hip : i < p := by omega
          walk_at "go"
          refine w_revx (xs := cs'.map V.int) (sq (s5 _ _ h4')) (al fun rv H6 n6 s6 h6 => ?_)
          walk_at "go"
          refine for_list (K := K) (a := rv) (xs := (cs'.map V.int).reverse) (fun j σ H' => ∃ (v5 : Option V), σ = [some (.ref l), some (.int (p : Nat)), some (.int ((p ^ k : Nat) : Int)), some (.int ((p ^ (m + 1) : Nat) : Int)), some (.ref r'), v5, some (.int ((((List.range i).map g).sum : Nat) : Int)), some (.int (0 + (i : Int))), some (.int (ev (cs'.drop (cs'.length - j)) (i : Int) % (p : Int)))] ∧ H' = H6) ?_ ?_ ?_ ?_
          · have ed : cs'.drop (cs'.length - 0) = [] := List.drop_eq_nil_of_le (by omega)
            rw [ed, ev_nil, Int.zero_emod]
            exact ⟨v5, rfl, rfl⟩
          · intro j σ H' _ z
            obtain ⟨_, _, rfl⟩ := z
            exact sq h6
          · rintro j x0 σ H7 hx ⟨v5, rfl, rfl⟩
            have hj : j < cs'.length := by
              have := (List.getElem?_eq_some_iff.mp hx).1
              rw [List.length_reverse, List.length_map] at this
              exact this
            have hdr : cs'.drop (cs'.length - (j + 1)) = cs'[cs'.length - (j + 1)]'(by omega) :: cs'.drop (cs'.length - j) := by
              rw [List.drop_eq_getElem_cons (show cs'.length - (j + 1) < cs'.length by omega), show cs'.length - (j + 1) + 1 = cs'.length - j by omega]
            have hx0 : x0 = .int (cs'[cs'.length - (j + 1)]'(by omega)) := by
              rw [List.getElem?_reverse (by rw [List.length_map]; omega), List.length_map, List.getElem?_map, show cs'.length - 1 - j = cs'.length - (j + 1) by omega, List.getElem?_eq_getElem (show cs'.length - (j + 1) < cs'.length by omega)] at hx
              exact (Option.some.inj hx).symm
            rw [hdr]
            generalize cs'[cs'.length - (j + 1)]'(by omega) = c1 at hx0
            subst hx0
            have m0 := Int.emod_nonneg (ev (cs'.drop (cs'.length - j)) (i : Int)) (show (p : Int) ≠ 0 by omega)
            have m1 := Int.emod_lt_of_pos (ev (cs'.drop (cs'.length - j)) (i : Int)) (show 0 < (p : Int) by omega)
            walk_at "go"
            refine ⟨some (.int c1), ?_, rfl⟩
            rw [ev_cons, Int.zero_add]
            congr 3
            rw [Int.add_emod, Int.mul_emod, Int.emod_emod, ← Int.mul_emod, ← Int.add_emod]
          · rintro σ H7 ⟨v5, rfl, rfl⟩
            rw [show cs'.length - (cs'.map V.int).reverse.length = 0 by rw [List.length_reverse, List.length_map]; omega, List.drop_zero]
            have hgi : g i = if ev cs' (i : Int) % (p : Int) = 0 then cntT p n (m + 1) ((mvF i p cs'.length 1 cs').map fun z => z % ((p ^ (m + 1) : Nat) : Int)) / p else 0 := by rw [← hg]
            have hsum : ((List.range (i + 1)).map g).sum = ((List.range i).map g).sum + g i := by
              rw [List.range_succ, List.map_append, List.sum_append, List.map_singleton, List.sum_singleton]
            walk_at "go"
            rw [decI]
            refine ite_d (fun hz => ?_) (fun hz => ?_)
            · rw [if_pos hz] at hgi
              walk_at "go"
              refine ⟨r', cs', 0 + (i : Int), (p : Int), 61, rfl, s6 _ _ (s5 _ _ h4'), by omega, hSr, by decide, by omega, by omega, fun l8 H8 n8 s8 h8 => ?_⟩
              rw [Int.zero_add] at h8
              walk_at "go"
              refine ⟨l8, _, p, m + 1, rfl, h8, by rw [mvF_len _ _ _ _ _ rfl]; omega, hp, p2, hk1, fun _ => .inr (mvF_root (Int.dvd_of_emod_eq_zero hz)), by omega, fun H9 s9 => ?_⟩
              walk_at "go"
              refine ⟨v5, some (.int (0 + (i : Int))), some (.int (ev cs' (i : Int) % (p : Int))), ?_, s5.trans (s6.trans (s8.trans s9))⟩
              rw [hsum, hgi, Int.natCast_add, Int.natCast_ediv]
            · rw [if_neg hz] at hgi
              walk_at "go"
              refine ⟨v5, some (.int (0 + (i : Int))), some (.int (ev cs' (i : Int) % (p : Int))), ?_, s5.trans s6⟩
              rw [hsum, hgi]
              rfl
        · rintro σ H5 ⟨v5, v7, v8, rfl, s5⟩
          have hdw : CDivW ((p ^ k : Nat) : Int) ((p ^ (m + 1) : Nat) : Int) := wdiv (b := 61) (by omega) (by omega) (by decide)
          have hq : ((p ^ k : Nat) : Int) / ((p ^ (m + 1) : Nat) : Int) = ((p ^ c : Nat) : Int) := by
            rw [← hkc, hP, hP, hP, Int.pow_add]
            exact Int.mul_ediv_cancel _ (Int.pow_ne_zero (by omega))
          have hcb : p ^ c ≤ p ^ k := Nat.pow_le_pow_right (by omega) (by omega)
          have hmx : CMx ((p ^ c : Nat) : Int) ((((List.range ((p : Nat) : Int).toNat).map g).sum : Nat) : Int) := mx_l (by omega)
          rw [← hq] at hmx
          walk_at "go"
          have := q H5 (S4.trans s5)
          rw [Int.natCast_mul, ← hq] at this
          exact this
theorem ok_cntof (F : Dn K mg "_law_count" s_cnt0 ["_law_row", "_law_p", "_law_size"]) (T : Bt mg) (c_mvr : Cal P w K mg base 1 "_law_moved" spMvR []) (n : Nat) : Cal P w K mg base (2 + n) "_law_count" (spCntN n) [] := by
  induction n with
  | zero => exact ok_cnt0 F T
  | succ n ih => exact ok_cntn (Nat.le_add_right 2 n) F T c_mvr ih

theorem cut_take {xs : List V} {i : Nat} (h : i ≤ xs.length) : cutV xs none (some (i : Int)) = xs.take i := by
  unfold cutV
  rw [HT.sIx_none, HT.sIx_nat, List.drop_zero, Nat.sub_zero, Nat.min_eq_left h]
theorem w_slTi {K : PySem.W.Frag} {t : Addr} {xs : List V} {i : Nat} {H : Hp} {Q : VK} (h : SqT K H t xs) (hi : i < xs.length) (q : ∀ p, H p = none → Q (.ref p) (upd H p (.tup (xs.take i)))) : rSlT K (.ref t) none (some (i : Int)) H Q := by
  refine ⟨t, xs, rfl, h, fun z => ?_, ?_⟩
  · have z := z.2
    rw [HT.sIx_nat] at z
    omega
  · rw [cut_take (Nat.le_of_lt hi)]
    exact q
abbrev s_right : Stmt := (top 40)
theorem sc_right : FnScope ["_law_purse_here", "_law_p", "_law_k", "_law_size", "_law_row", "_law_told", "_law_total", "_law_place", "_law_rest", "_law_wide", "_law_wider", "_law_ahead", "_law_near", "_law_beside", "_law_less"] ["_law_purse_here"] (defScope s_right) :=
  ⟨rfl, rfl, rfl, by decide +kernel, rfl, by decide +kernel, by decide +kernel⟩
theorem ok_right {Cc Cp Cw : Addr} (F : Dn K mg "_law_right" s_right ["_law_purse_here"]) (T : Bt mg) (c_draw : Cal P w K mg base 2 "_law_draw" spDraw []) (c_lraised : Cal P w K mg base 1 "_law_raised" spRaised []) (c_drow : Cal P w K mg base 4 "_law_drawn_row" spDrow25 []) (c_mvr : Cal P w K mg base 1 "_law_moved" spMvR []) (c_van : Cal P w K mg base 1 "_law_vanishes" spVan [])
    (c_rootcx : CalX P w K mg base 91 "root_classes" (spRootCl K Cc Cp Cw) []) (c_cnt : Cal P w K mg base 63 "_law_count" (spCntN 61) []) : Cal P w K mg base 96 "_law_right" spRight24 [] := by
  refine F.cal sc_right (fun vs H Q E h => ?_) (fun f cdv A outer s H vs Q E hr h => ?_)
  · obtain ⟨a, cc, rfl, _⟩ := h
    rfl
  · obtain ⟨a, cc, rfl, hc, u0, q⟩ := h
    refine ⟨_, (pss_cons (ps_asg (pe_ix ix_list (pe_lst (pa_cons (pe_tup (pa_cons pe_int (pa_cons pe_int pa_nil))) (pa_cons (pe_tup (pa_cons pe_int (pa_cons pe_int pa_nil))) (pa_cons (pe_tup (pa_cons pe_int (pa_cons pe_int pa_nil))) (pa_cons (pe_tup (pa_cons pe_int (pa_cons pe_int pa_nil))) (pa_cons (pe_tup (pa_cons pe_int (pa_cons pe_int pa_nil))) (pa_cons (pe_tup (pa_cons pe_int (pa_cons pe_int pa_nil))) (pa_cons (pe_tup (pa_cons pe_int (pa_cons pe_int pa_nil))) (pa_cons (pe_tup (pa_cons pe_int (pa_cons pe_int pa_nil))) (pa_cons (pe_tup (pa_cons pe_int (pa_cons pe_int pa_nil))) pa_nil)))))))))) (pe_c c_draw hr (by decide) (by rfl) (pa_cons (pv 0) (pa_cons pe_int pa_nil))) (fun _ _ => rfl)) (pg_tup rfl (pgs_cons (pg_name (i := 1) sc_right.nd rfl (Or.inl rfl)) (pgs_cons (pg_name (i := 2) sc_right.nd rfl (Or.inl rfl)) pgs_nil))))
      (pss_cons (ps_set (i := 3) sc_right.nd rfl (Or.inl rfl) (pe_c c_lraised hr (by decide) (by rfl) (pa_cons (pv 1) (pa_cons (pv 2) pa_nil))))
      (pss_cons (ps_set (i := 4) sc_right.nd rfl (Or.inl rfl) (pe_c c_drow hr (by decide) (by rfl) (pa_cons (pv 0) (pa_cons (pv 1) (pa_cons (pv 2) pa_nil)))))
      (pss_cons (ps_set (i := 5) sc_right.nd rfl (Or.inl rfl) (pe_cL c_rootcx hr (by decide) (by rfl) (pa_cons (pv 4) (pa_cons (pv 1) (pa_cons (pv 2) pa_nil)))))
      (pss_cons (ps_set (i := 6) sc_right.nd rfl (Or.inl rfl) pe_int)
      (pss_cons (ps_for PassesOwn.never rfl (pi_enumT (by rfl) T.enumerate (pa_cons (pv 5) pa_nil)) (pg_tup rfl (pgs_cons (pg_name (i := 7) sc_right.nd rfl (Or.inl rfl)) (pgs_cons (pg_tup rfl (pgs_cons (pg_name (i := 8) sc_right.nd rfl (Or.inr rfl)) (pgs_cons (pg_name (i := 9) sc_right.nd rfl (Or.inr rfl)) pgs_nil))) pgs_nil))) (pss_cons (ps_if (PW.pt (pw_or (pt_cmpR op_ne (pe_op op_mod (pv 3) (pv 9)) pe_int (nomark _)) (pw_or (pt_not (pt_chain op_le op_lt pe_int (pv 8) (pv 9))) (pw_or1 (pt_not (pt_val (pe_c c_van hr (by decide) (by rfl) (pa_cons (pe_c c_mvr hr (by decide) (by rfl) (pa_cons (pv 4) (pa_cons (pv 8) (pa_cons (pv 9) pa_nil)))) (pa_cons (pv 3) pa_nil))))))))) (pss_one (ps_ret pe_bl)) pss_nil)
      (pss_cons (ps_set (i := 10) sc_right.nd rfl (Or.inl rfl) (pe_op op_fdivW (pv 9) (pv 1)))
      (pss_cons (ps_if (PW.pt (pw_and (pt_cmpR op_gt (pv 9) pe_int (nomark _)) (pw_and1 (pt_val (pe_c c_van hr (by decide) (by rfl) (pa_cons (pe_c c_mvr hr (by decide) (by rfl) (pa_cons (pv 4) (pa_cons (pe_op op_mod (pv 8) (pv 10)) (pa_cons (pv 10) pa_nil)))) (pa_cons (pv 3) pa_nil))))))) (pss_one (ps_ret pe_bl)) pss_nil)
      (pss_cons (ps_setLc (i := 11) (own := [("_law_near", 12), ("_law_beside", 13)]) (g := gTup _ 2 (gCons (gName 12) (gCons (gName 13) gNil))) (tt := tYes) (te := (tTup (tCons (tVar 12) (tCons (tCB _ (tCons (tCB _ (tCons (tVar 9) tNil)) (tCons (tCB _ (tCons (tVar 13) tNil)) tNil))) tNil)))) rfl sc_right.nd rfl rfl (sw_true rfl rfl rfl (by decide +kernel)) (pi_tup (pe_slice sl_tup (pv 5) po_none (po_some (pv 7)))) (blkOk_by (own := [("_law_near", 12), ("_law_beside", 13)]) (N := ["_law_purse_here", "_law_p", "_law_k", "_law_size", "_law_row", "_law_told", "_law_total", "_law_place", "_law_rest", "_law_wide", "_law_wider", "_law_ahead", "_law_near", "_law_beside", "_law_less"]) (sc := defScope s_right) (by decide +kernel)) (fun _ _ _ _ _ => (pg_tup rfl (pgs_cons (pg_name (i := 12) sc_right.nd rfl (Or.inl rfl)) (pgs_cons (pg_name (i := 13) sc_right.nd rfl (Or.inl rfl)) pgs_nil)))) (fun _ _ _ _ _ => pts_nil) (fun _ _ _ _ _ => (pe_tup (pa_cons (pv 12) (pa_cons (pe_callB (cMin2 rfl) (by rfl) T.min (by decide +kernel) (pa_cons (pe_callTy cInt1 (by rfl) T.int (by decide +kernel) (pa_cons (pv 9) pa_nil)) (pa_cons (pe_callTy cInt1 (by rfl) T.int (by decide +kernel) (pa_cons (pv 13) pa_nil)) pa_nil))) pa_nil)))))
      (pss_cons (ps_if (pt_cmpR (op_neD hr.units) (pe_lc (own := [("_law_near", 12), ("_law_less", 14)]) (g := gTup _ 2 (gCons (gName 12) (gCons (gName 14) gNil))) (tt := (tOr (tTest (tOp _ (tVar 12) (tVar 8))) (tTest (tOp _ (tOp _ (tOp _ (tVar 8) (tVar 12)) (tVar 14)) _)))) (te := _) rfl sc_right.nd (pi_list (pv 11)) (blkOk_by (own := [("_law_near", 12), ("_law_less", 14)]) (N := ["_law_purse_here", "_law_p", "_law_k", "_law_size", "_law_row", "_law_told", "_law_total", "_law_place", "_law_rest", "_law_wide", "_law_wider", "_law_ahead", "_law_near", "_law_beside", "_law_less"]) (sc := defScope s_right) (by decide +kernel)) (fun _ _ _ _ _ => (pg_tup rfl (pgs_cons (pg_name (i := 12) sc_right.nd rfl (Or.inl rfl)) (pgs_cons (pg_name (i := 14) sc_right.nd rfl (Or.inl rfl)) pgs_nil)))) (fun _ _ _ _ _ => (pts_one (PW.pt (pw_or (pt_cmpR op_ge (pv 12) (pv 8) (nomark _)) (pw_or1 (pt_cmpR op_eq (pe_op op_mod (pe_op op_sub (pv 8) (pv 12)) (pv 14)) pe_int (nomark _))))))) (fun _ _ _ _ _ => pe_int)) (pe_lst pa_nil) (nomark _)) (pss_one (ps_ret pe_bl)) pss_nil)
      (pss_one (ps_set (i := 6) sc_right.nd rfl (Or.inl rfl) (pe_op op_add (pv 6) (pe_op op_fdivW (pv 3) (pv 9)))))))))))
      (pss_one (ps_ret (pe_and (pe_callB call_isi (by rfl) T.isinstance (by decide +kernel) (pa_cons (pv 5) (pa_cons (pe_bltn (v := .ty "tuple") (by rfl) T.tuple (by decide +kernel) rfl) pa_nil))) (pe_one (pe_cmpR op_eq (pv 6) (pe_c c_cnt hr (by decide) (by rfl) (pa_cons (pv 4) (pa_cons (pv 1) (pa_cons (pv 3) pa_nil)))) (nomark _)))))))))))), ?_⟩
    walk_at "go"
    refine alR u0 fun t1 H1 s1 u1 h1 _ => ?_
    walk_at "go"
    refine alR u1 fun t2 H2 s2 u2 h2 _ => ?_
    walk_at "go"
    refine alR u2 fun t3 H3 s3 u3 h3 _ => ?_
    walk_at "go"
    refine alR u3 fun t4 H4 s4 u4 h4 _ => ?_
    walk_at "go"
    refine alR u4 fun t5 H5 s5 u5 h5 _ => ?_
    walk_at "go"
    refine alR u5 fun t6 H6 s6 u6 h6 _ => ?_
    walk_at "go"
    refine alR u6 fun t7 H7 s7 u7 h7 _ => ?_
    walk_at "go"
    refine alR u7 fun t8 H8 s8 u8 h8 _ => ?_
    walk_at "go"
    refine alR u8 fun t9 H9 s9 u9 h9 _ => ?_
    walk_at "go"
    refine alR u9 fun t10 H10 s10 u10 h10 _ => ?_
    walk_at "go"
    refine use_drawR u10 (by decide) (by decide) (by omega) fun j HA j0 j1 sA uA => ?_
    have SA : Same (rm a H) (rm a HA) := by walk_at "same"
    have k1 := hpL h1 (show Same _ (rm a HA) by
      clear SA
      walk_at "same")
    have k2 := hpL h2 (show Same _ (rm a HA) by
      clear SA
      walk_at "same")
    have k3 := hpL h3 (show Same _ (rm a HA) by
      clear SA
      walk_at "same")
    have k4 := hpL h4 (show Same _ (rm a HA) by
      clear SA
      walk_at "same")
    have k5 := hpL h5 (show Same _ (rm a HA) by
      clear SA
      walk_at "same")
    have k6 := hpL h6 (show Same _ (rm a HA) by
      clear SA
      walk_at "same")
    have k7 := hpL h7 (show Same _ (rm a HA) by
      clear SA
      walk_at "same")
    have k8 := hpL h8 (show Same _ (rm a HA) by
      clear SA
      walk_at "same")
    have k9 := hpL h9 (show Same _ (rm a HA) by
      clear SA
      walk_at "same")
    obtain ⟨p, k, t, hat, ht, hp, p1, p2, k1, k2, hpk⟩ : ∃ (p k : Nat) (t : Addr), atI [V.ref t1, .ref t2, .ref t3, .ref t4, .ref t5, .ref t6, .ref t7, .ref t8, .ref t9] j = some (.ref t) ∧ rm a HA t = some (.tup [.int (p : Nat), .int (k : Nat)]) ∧ Pr (p : Int) ∧ 1 < p ∧ p ≤ 101 ∧ 1 ≤ k ∧ k ≤ 60 ∧ p ^ k < 2 ^ 61 := by
      have cj : j = 0 ∨ j = 1 ∨ j = 2 ∨ j = 3 ∨ j = 4 ∨ j = 5 ∨ j = 6 ∨ j = 7 ∨ j = 8 := by omega
      rcases cj with rfl | rfl | rfl | rfl | rfl | rfl | rfl | rfl | rfl
      · exact ⟨2, 60, _, atI_nat (j := 0) rfl, k1, by decide +kernel, by decide, by decide, by decide, by decide, by decide +kernel⟩
      · exact ⟨3, 38, _, atI_nat (j := 1) rfl, k2, by decide +kernel, by decide, by decide, by decide, by decide, by decide +kernel⟩
      · exact ⟨5, 25, _, atI_nat (j := 2) rfl, k3, by decide +kernel, by decide, by decide, by decide, by decide, by decide +kernel⟩
      · exact ⟨7, 21, _, atI_nat (j := 3) rfl, k4, by decide +kernel, by decide, by decide, by decide, by decide, by decide +kernel⟩
      · exact ⟨31, 12, _, atI_nat (j := 4) rfl, k5, by decide +kernel, by decide, by decide, by decide, by decide, by decide +kernel⟩
      · exact ⟨101, 9, _, atI_nat (j := 5) rfl, k6, by decide +kernel, by decide, by decide, by decide, by decide, by decide +kernel⟩
      · exact ⟨2, 20, _, atI_nat (j := 6) rfl, k7, by decide +kernel, by decide, by decide, by decide, by decide, by decide +kernel⟩
      · exact ⟨3, 9, _, atI_nat (j := 7) rfl, k8, by decide +kernel, by decide, by decide, by decide, by decide, by decide +kernel⟩
      · exact ⟨13, 15, _, atI_nat (j := 8) rfl, k9, by decide +kernel, by decide, by decide, by decide, by decide, by decide +kernel⟩
    refine w_ixL (by walk_at "hp") hat ?_
    clear sA hat s1 h1 u1 s2 h2 u2 s3 h3 u3 s4 h4 u4 s5 h5 u5 s6 h6 u6 s7 h7 u7 s8 h8 u8 s9 h9 u9 s10 h10 u10 k3 k4 k5 k6 k7 k8 k9
    walk_at "go"
    have e61 : (2 : Nat) ^ 61 = 2305843009213693952 := by decide
    have e61' : (2 : Int) ^ 61 = 2305843009213693952 := by decide
    have hP : ∀ j : Nat, ((p ^ j : Nat) : Int) = (p : Int) ^ j := fun j => Int.natCast_pow p j
    have hpk0 : 0 < p ^ k := Nat.pow_pos (by omega)
    clear ht
    refine ⟨(p : Int), (k : Int), 10, rfl, by omega, by omega, by show (p : Int).natAbs < 1024; omega, by omega, ?_⟩
    rw [Int.toNat_natCast, ← hP]
    walk_at "go"
    refine ⟨a, (p : Int), k, _, rfl, by omega, by omega, k1, k2, by rw [← hP]; omega, by omega, uA, fun l rs HB sB uB hB hrl hrb => ?_⟩
    have SB := SA.trans sB
    clear SA sB uA
    have sml_up : ∀ {A B : Nat} {rs : List Int}, A ≤ B → Sml A rs → Sml B rs := fun h hs z hz => Nat.lt_of_lt_of_le (hs z hz) (Nat.pow_le_pow_right (by decide) h)
    walk_at "go"
    have G : Fine (p : Int) k (trim rs) := fineG hp (by omega) k1 (by omega) (Nat.le_trans (trim_len rs) (by omega)) (fun z hz => Nat.lt_of_lt_of_le (hrb z (trim_mem hz)) (Nat.pow_le_pow_right (by decide) (by decide)))
    refine ⟨.ref l, .int (p : Int), .int (k : Int), rfl, .inr ⟨rs, (p : Int), k, .lst l _ (rm_le _ _ hB), by omega, rfl, rfl, G, fun t W bs HC sC pm so hC PC => ?_⟩⟩
    have uC := uB.same sC
    have hlC := rm_le _ _ (sC.rm (a := a) _ _ hB)
    have SC := SB.trans (sC.rm (a := a))
    clear SB sC uB hB
    have hah := rc_ahead hp pm so
    have htot := rc_total hp pm
    have hWl := PC.length
    have hWs : W.length ≤ 20000 := by
      rw [pm.length_eq]
      unfold prs
      rw [List.length_map]
      exact Nat.le_trans (run_len (p : Int) (k + 1) _) (Nat.le_trans (lvlP_tot hp.1 _ _) (Nat.le_trans (lv_len (p : Int) _ _ _ _) G.few))
    clear G
    walk_at "go"
    unfold iEnumT
    walk_at "go"
    refine w_enumT (sqt hC) ?_
    refine for_it (walk_enumT (xs := bs.map V.ref)) (fun i σ H' => ∃ (v7 v8 v9 v10 v11 : Option V), σ = [some (.ref a), some (.int (p : Nat)), some (.int (k : Nat)), some (.int ((p ^ k : Nat) : Int)), some (.ref l), some (.ref t), some (.int ((W.take i).map fun q => ((p ^ k : Nat) : Int) / q.2).sum), v7, v8, v9, v10, v11, none, none, none] ∧ Same HC H') ⟨_, _, _, _, _, rfl, Same.refl _⟩
      (fun i σ H' _ z => by
        obtain ⟨_, _, _, _, _, _, z⟩ := z
        exact sqt (z _ _ hC)) ?_ ?_
    · rintro i y σ H6 H7 hi ⟨v7, v8, v9, v10, v11, rfl, s6⟩ ⟨tu, z1, z2, rfl, nt, rfl, g1, g2⟩
      cases g1
      obtain ⟨tb, htb, rfl⟩ := get_map g2
      rw [List.length_map] at hi
      obtain ⟨q0, hq0, hqt⟩ := paired_get PC htb
      have hqm := List.mem_of_getElem? hq0
      obtain ⟨j, hjm, hqj⟩ := rc_mem pm hqm
      obtain ⟨hjk, r0, r1, hall, hnot⟩ := rc_one (cs := rs) hp hjm
      obtain ⟨r, wd⟩ := q0
      dsimp only at hqj r0 r1 hall hnot hjm
      subst hqj
      refine w_gtup (sqt upd_same) rfl ?_
      have s7 : Same H6 (upd H6 tu (.tup [.int (i : Nat), .ref tb])) := Same.new nt
      generalize upd H6 tu (.tup [.int (i : Nat), .ref tb]) = H7 at s7 ⊢
      have S7 := s6.trans s7
      have htb7 : H7 tb = some (.tup [.int r, .int ((p : Int) ^ j)]) := S7 _ _ hqt
      have hpj0 : 0 < p ^ j := Nat.pow_pos (by omega)
      have hpjk : p ^ j ≤ p ^ k := Nat.pow_le_pow_right (by omega) hjk
      rw [← hP] at htb7 r1
      have hkj : ((p ^ k : Nat) : Int) = ((p ^ j : Nat) : Int) * ((p ^ (k - j) : Nat) : Int) := by
        rw [hP, hP, hP, ← Int.pow_add]
        congr 1
        omega
      have hdk : ∀ z : Int, CDivW z ((p ^ j : Nat) : Int) := fun z => wdiv (b := 61) (by omega) (by omega) (by decide)
      have hmod : ((p ^ k : Nat) : Int) % ((p ^ j : Nat) : Int) = 0 := by
        rw [hkj]
        exact Int.mul_emod_right _ _
      clear s6 s7 nt htb g2
      walk_at "go"
      rw [hmod, show decide (V.int 0 = V.int 0) = true from rfl]
      refine iteF ?_
      simp only [List.set_cons_zero, List.set_cons_succ]
      walk_at "go"
      rw [decide_eq_true r0]
      refine iteT ?_
      walk_at "go"
      rw [decide_eq_true r1]
      refine iteF ?_
      walk_at "go"
      refine ⟨l, rs, r, ((p ^ j : Nat) : Int), 62, rfl, S7 _ _ hlC, by omega, hrb, by decide, by omega, by omega, fun l8 H8 n8 s8 h8 => ?_⟩
      walk_at "go"
      have hmb : Sml 20000 (mvF r ((p ^ j : Nat) : Int) rs.length 1 rs) := sml_up (show 62 + 0 + 2 * (62 + 1) * rs.length * rs.length ≤ 20000 by
        have := Nat.mul_le_mul hrl hrl
        rw [Nat.mul_assoc]
        omega) (mvF_bits (R := 62) (by omega) (by omega) _ 1 rs 62 0 rfl hrb (by decide))
      refine ⟨l8, _, ((p ^ k : Nat) : Int), 20000, rfl, h8, by rw [mvF_len _ _ _ _ _ rfl]; omega, hmb, by decide, by omega, by omega, fun b9 H9 s9 hb9 => ?_⟩
      have hb9 : b9 = true := hb9.mpr fun x => by
        rw [mvF_ev _ _ _ _ _ _ rfl, Int.one_mul, hP, hP]
        exact hall x
      subst hb9
      have S9 := S7.trans (s8.trans s9)
      walk_at "go"
      refine iteF ?_
      walk_at "go"
      refine test_join (fun H' => Same H9 H') ?_ ?_ ?_
      rotate_left
      · intro hw1 Q' hQ'
        have hw1 := of_decide_eq_true hw1
        obtain ⟨i0, rfl⟩ : ∃ i0, j = i0 + 1 := ⟨j - 1, by
          rcases j with _ | j
          · exact absurd hw1 (by rw [Nat.pow_zero]; decide)
          · omega⟩
        have hwd : ((p ^ (i0 + 1) : Nat) : Int) / (p : Int) = ((p ^ i0 : Nat) : Int) := by rw [hP, hP, Int.pow_succ]; exact Int.mul_ediv_cancel _ (by omega)
        have hpi0 : 0 < p ^ i0 := Nat.pow_pos (by omega)
        have hpi1 : p ^ i0 ≤ p ^ (i0 + 1) := Nat.pow_le_pow_right (by omega) (by omega)
        have m0 := Int.emod_nonneg r (show ((p ^ i0 : Nat) : Int) ≠ 0 by omega)
        have m1 := Int.emod_lt_of_pos r (show 0 < ((p ^ i0 : Nat) : Int) by omega)
        rw [hwd]
        walk_at "go"
        refine ⟨l, rs, r % ((p ^ i0 : Nat) : Int), ((p ^ i0 : Nat) : Int), 62, rfl, S9 _ _ hlC, by omega, hrb, by decide, by omega, by omega, fun lA HA nA sA hA => ?_⟩
        walk_at "go"
        have hmb : Sml 20000 (mvF (r % ((p ^ i0 : Nat) : Int)) ((p ^ i0 : Nat) : Int) rs.length 1 rs) := sml_up (show 62 + 0 + 2 * (62 + 1) * rs.length * rs.length ≤ 20000 by
          have := Nat.mul_le_mul hrl hrl
          rw [Nat.mul_assoc]
          omega) (mvF_bits (R := 62) (by omega) (by omega) _ 1 rs 62 0 rfl hrb (by decide))
        refine ⟨lA, _, ((p ^ k : Nat) : Int), 20000, rfl, hA, by rw [mvF_len _ _ _ _ _ rfl]; omega, hmb, by decide, by omega, by omega, fun bB HB' sB hbB => ?_⟩
        have hbB : bB = false := by
          cases bB with
          | false => rfl
          | true =>
            refine absurd (fun y => ?_) (hnot (by omega))
            have := hbB.mp rfl y
            rw [mvF_ev _ _ _ _ _ _ rfl, Int.one_mul, hP, hP] at this
            exact this
        subst hbB
        exact ⟨false, rfl, hQ' _ (sA.trans sB)⟩
      · intro _
        exact Same.refl _
      intro HD sD
      refine iteF ?_
      have SD := S9.trans sD
      clear S7 S9 s8 s9 sD htb7 hmb h8 n8
      walk_at "go"
      refine w_slTi (sqt (SD _ _ hC)) (by rw [List.length_map]; exact hi) fun sl nsl => ?_
      have sE : Same HD (upd HD sl (.tup ((bs.map V.ref).take i))) := Same.new nsl
      have hsl : upd HD sl (.tup ((bs.map V.ref).take i)) sl = some (.tup ((bs.map V.ref).take i)) := upd_same
      generalize upd HD sl (.tup ((bs.map V.ref).take i)) = HE at sE hsl ⊢
      have SE := SD.trans sE
      refine ⟨sl, rfl, ⟨_, sqt hsl⟩, ?_⟩
      have hiW : i < W.length := by omega
      have hWi : W[i]'hiW = (r, (p : Int) ^ j) := (List.getElem?_eq_some_iff.mp hq0).2
      have hfac : ∀ (m : Nat) (q1 : Int × Int), m < i → W[m]? = some q1 → q1.1 < r ∧ 0 < (if q1.2 < ((p ^ j : Nat) : Int) then q1.2 else ((p ^ j : Nat) : Int)) ∧ (r - q1.1) % (if q1.2 < ((p ^ j : Nat) : Int) then q1.2 else ((p ^ j : Nat) : Int)) ≠ 0 := fun m q1 hm hq1 => by
        have h1 := List.pairwise_iff_getElem.mp hah m i (by omega) hiW hm
        rw [hWi, (List.getElem?_eq_some_iff.mp hq1).2] at h1
        dsimp only at h1
        obtain ⟨j1, hj1, e1⟩ := rc_mem pm (List.mem_of_getElem? hq1)
        have hq10 : 0 < q1.2 := by
          rw [e1]
          exact Int.pow_pos (by omega)
        have e2 : (if q1.2 < ((p ^ j : Nat) : Int) then q1.2 else ((p ^ j : Nat) : Int)) = min ((p : Int) ^ j) q1.2 := by
          rw [← hP, Int.min_def]
          split <;> split <;> omega
        rw [e2]
        refine ⟨by omega, ?_, fun z => h1 (.inr z)⟩
        rw [Int.min_def, ← hP]
        split <;> omega
      intro D hD
      refine lc_it (walk_tup (K := K) (xs := (bs.map V.ref).take i)) (fun m H' => ∃ us : List Addr, Same HE (rm D H') ∧ H' D = some (.lst (us.map V.ref)) ∧ Paired (Tp (rm D H')) ((W.take m).map fun q1 => (q1.1, if q1.2 < ((p ^ j : Nat) : Int) then q1.2 else ((p ^ j : Nat) : Int))) us) ⟨[], ?_, upd_same, .nil⟩ (fun m H' _ z => by
        obtain ⟨_, z, _⟩ := z
        exact sqt (rm_le _ _ (z _ _ hsl))) ?_ ?_
      · rw [rm_updS]
        exact rm_in hD (Same.refl _)
      · rintro m x0 Ha Hb hm ⟨us, za, zb, zc⟩ ⟨rfl, hv⟩
        rw [List.length_take, List.length_map] at hm
        have hmi : m < i := by omega
        rw [List.getElem?_take_of_lt hmi] at hv
        obtain ⟨t5, ht5, rfl⟩ := get_map hv
        obtain ⟨q1, hq1, hq1t⟩ := paired_get PC ht5
        have hq1t := rm_le _ _ (za _ _ (SE _ _ hq1t))
        refine w_gtup (sqt hq1t) rfl ?_
        walk_at "go"
        refine ⟨rfl, ?_⟩
        walk_at "go"
        refine iteT ?_
        walk_at "go"
        refine al fun t6 H6 n6 s6 h6 => ?_
        have lz := zc.length
        rw [List.length_map, List.length_take] at lz
        have t6D : t6 ≠ D := fun e => by
          rw [e, zb] at n6
          cases n6
        refine ⟨_, s6 _ _ zb, by rw [List.length_map]; have : (100000 : Nat) < sizeLine := by decide
                                 omega, us ++ [t6], ?_, by rw [upd_same, List.map_append]; rfl, ?_⟩
        · rw [rm_updS]
          exact za.trans s6.rm
        · rw [rm_updS, Paired.take_snoc hq1, List.map_append]
          exact Paired.snoc (paired_imp (fun _ _ z => s6.rm _ _ z) zc) (rm_of t6D h6)
      rintro HF ⟨us, ya, yb, yc⟩
      rw [List.length_take, List.length_map, Nat.min_eq_left (by omega)] at yc
      have yc : Paired (Tp HF) ((W.take i).map fun q1 => (q1.1, if q1.2 < ((p ^ j : Nat) : Int) then q1.2 else ((p ^ j : Nat) : Int))) us := paired_imp (fun _ _ z => rm_le _ _ z) yc
      have SF : Same HC HF := SE.trans (ya.trans rm_le)
      have lz := yc.length
      rw [List.length_map, List.length_take] at lz
      clear ya sE hsl SD SE nsl
      walk_at "go"
      intro D2 hD2
      refine lc_it (walk_list (K := K) (xs := us.map V.ref)) (fun m H' => Same HF (rm D2 H') ∧ H' D2 = some (.lst [])) ⟨?_, upd_same⟩ (fun m H' _ z => sq (rm_le _ _ (z.1 _ _ yb))) ?_ ?_
      · rw [rm_updS]
        exact rm_in hD2 (Same.refl _)
      · rintro m x0 Ha Hb hm ⟨za, zb⟩ ⟨rfl, hv⟩
        rw [List.length_map] at hm
        obtain ⟨t5, ht5, rfl⟩ := get_map hv
        obtain ⟨q2, hq2, hq2t⟩ := paired_get yc ht5
        have hq2t := rm_le _ _ (za _ _ hq2t)
        rw [List.getElem?_map] at hq2
        have hmi : m < i := by omega
        rw [List.getElem?_take_of_lt hmi] at hq2
        cases hq1 : W[m]? with
        | none =>
          rw [hq1] at hq2
          cases hq2
        | some q1 =>
          rw [hq1] at hq2
          cases hq2
          obtain ⟨f1, f2, f3⟩ := hfac m q1 hmi hq1
          have hq2t : Hb t5 = some (.tup [.int q1.1, .int (if q1.2 < ((p ^ j : Nat) : Int) then q1.2 else ((p ^ j : Nat) : Int))]) := hq2t
          generalize (if q1.2 < ((p ^ j : Nat) : Int) then q1.2 else ((p ^ j : Nat) : Int)) = ls at f2 f3 hq2t
          have hq2t : Hb t5 = some (.tup [.int q1.1, .int ls]) := hq2t
          refine w_gtup (sqt hq2t) rfl ?_
          walk_at "go"
          refine ⟨rfl, ?_⟩
          walk_at "go"
          rw [decide_eq_false (show ¬ r ≤ q1.1 by omega)]
          refine iteF ?_
          walk_at "go"
          rw [decI, decide_eq_false f3]
          refine iteF ?_
          exact ⟨za, zb⟩
      rintro HG ⟨ya, yb2⟩
      have SG := SF.trans (ya.trans rm_le)
      clear ya yb yc SF
      walk_at "go"
      refine al fun e HI nI sI hI => ?_
      walk_at "go"
      have hdk2 := hdk ((p ^ k : Nat) : Int)
      refine w_neLL (ls := []) (ms := []) (sq (sI _ _ yb2)) (sq hI) ?_
      rw [decide_eq_true (Eq.refl _)]
      walk_at "go"
      refine iteF ?_
      walk_at "go"
      have hsum : ((W.take (i + 1)).map fun q => ((p ^ k : Nat) : Int) / q.2).sum = ((W.take i).map fun q => ((p ^ k : Nat) : Int) / q.2).sum + ((p ^ k : Nat) : Int) / ((p ^ j : Nat) : Int) := by
        rw [List.take_succ_eq_append_getElem hiW, List.map_append, List.sum_append, hWi, List.map_singleton, List.sum_singleton, ← hP]
      rw [hsum]
      exact ⟨_, _, _, _, _, rfl, SG.trans sI⟩
    rintro σ HZ ⟨v7, v8, v9, v10, v11, rfl, sZ⟩
    rw [List.length_map, ← hWl, List.take_length, htot]
    have uZ := uC.same sZ
    have SZ := SC.trans (sZ.rm (a := a))
    have hlZ := sZ _ _ hlC
    have hCZ := sZ _ _ hC
    clear hah htot PC pm so SC sZ
    walk_at "go"
    refine w_isi (b := true) (.base (.tup hCZ)) (kit_ty (by decide +kernel)) ?_
    walk_at "go"
    refine iteT ?_
    walk_at "go"
    refine ⟨l, rs, p, k, rfl, hlZ, by omega, hp, p2, by omega, fun e => by omega, hpk, fun HY sY => ?_⟩
    have hz : zs (p ^ k) ((p ^ k : Nat) : Int) (rs.map fun z => z % ((p ^ k : Nat) : Int)) = zs (p ^ k) ((p ^ k : Nat) : Int) rs := zs_congr fun x => by rw [ev_red]
    rw [cntT_ok hp 61 k _ (by omega) (fun e => by omega), hz]
    walk_at "go"
    rw [decI, decide_eq_true (Eq.refl _)]
    exact q _ (SZ.trans (sY.rm (a := a))) ((uZ.same sY).le (by omega))

theorem rcvG : [(1, (997 : Int) ^ 20), ((997 : Int) ^ 20 - 1, (997 : Int) ^ 20)].Perm (prs 997 (RC 997 20 (trim [-1, 0, 1]))) := by decide +kernel
abbrev s_law : Stmt := (top 41)
theorem sc_law : FnScope ["_law_script", "_law_at", "_law_purse_here", "_law_turn"] ["_law_script"] (defScope s_law) :=
  ⟨rfl, rfl, rfl, by decide +kernel, rfl, by decide +kernel, by decide +kernel⟩
theorem ok_law {Cc Cp Cw : Addr} {f : Addr} {fd : FuncData} (F : L2.Fun K "law" "law" s_law f fd) (T : Bt mg) (c_purse : Cal P w K mg base 1 "_law_purse" (spPurse K) []) (c_right : Cal P w K mg base 96 "_law_right" spRight24 []) (c_rootcx : CalX P w K mg base 91 "root_classes" (spRootCl K Cc Cp Cw) []) :
    FnOk P w K mg base L2.CX0 97 f fd ["_law_script"] (spLaw K) := by
  refine F.ok sc_law (fun vs H Q E h => ?_) (fun cdv A outer s H vs Q E hr h => ?_)
  · obtain ⟨a, ns, rfl, _⟩ := h
    rfl
  · obtain ⟨a, ns, rfl, hS, hl, k⟩ := h
    refine ⟨_, (pss_cons (ps_for PassesOwn.never rfl (pi_range1 (by rfl) T.range (pa_cons (pe_op op_add pe_int (pe_callB (cMin2 rfl) (by rfl) T.min (by decide +kernel) (pa_cons pe_int (pa_cons (pe_callB cLen (by rfl) T.len (by decide +kernel) (pa_cons (pv 0) pa_nil)) pa_nil)))) pa_nil)) (pg_name (i := 1) sc_law.nd rfl (Or.inl rfl)) (pss_cons (ps_set (i := 2) sc_law.nd rfl (Or.inl rfl) (pe_c c_purse hr (by decide) (by rfl) (pa_cons (pv 0) (pa_cons (pv 1) pa_nil))))
      (pss_one (ps_for PassesOwn.never rfl (pi_range1 (by rfl) T.range (pa_cons pe_int pa_nil)) (pg_name (i := 3) sc_law.nd rfl (Or.inl rfl)) (pss_one (ps_if (pt_not (pt_val (pe_c c_right hr (by decide) (by rfl) (pa_cons (pv 2) pa_nil)))) (pss_one (ps_ret pe_bl)) pss_nil))))))
      (pss_one (ps_ret (pe_cmpR (op_eqD hr.units) (pe_ix ix_tup (pe_cL c_rootcx hr (by decide) (by rfl) (pa_cons (pe_lst (pa_cons (pe_un un_neg pe_int) (pa_cons pe_int (pa_cons pe_int pa_nil)))) (pa_cons pe_int (pa_cons pe_int pa_nil)))) pe_int (fun _ _ => rfl)) (pe_tup (pa_cons pe_int (pa_cons (pe_op oPowW pe_int pe_int) pa_nil))) (nomark _))))), ?_⟩
    walk_at "go"
    refine for_range (lo := 0) (fun i σ H' => ∃ (u1 u2 u3 : Option V), σ = [some (.ref a), u1, u2, u3] ∧ Same H H') ⟨none, none, none, rfl, Same.refl _⟩ ?_ ?_
    · rintro i σ H1 hi ⟨u1, u2, u3, rfl, s1⟩
      have hi8 : i ≤ 8 := by split at hi <;> omega
      walk_at "go"
      refine ⟨a, ns, _, rfl, s1.seq hS, by omega, by omega, fun p H2 np s2 pu => ?_⟩
      walk_at "go"
      refine for_range (lo := 0) (n := 2) (fun j σ H' => ∃ (u3 : Option V), σ = [some (.ref a), some (.int (0 + (i : Int))), some (.ref p), u3] ∧ Same H1 H' ∧ Purse H' p (1000 * (0 + (i : Int)) + 10000 * j)) ⟨_, rfl, s2, pu.le (by omega)⟩ ?_ ?_
      · rintro j σ H3 hj ⟨u3, rfl, s3, p3⟩
        walk_at "go"
        refine ⟨p, _, rfl, by omega, p3, fun H4 k4 p4 => ?_⟩
        walk_at "go"
        refine iteF ?_
        walk_at "go"
        refine ⟨_, rfl, ?_, p4.le (by omega)⟩
        exact fun b o hb => rm_le _ _ (k4 _ _ (rm_of (fun e => by rw [e, np] at hb; cases hb) (s3 _ _ hb)))
      · rintro σ H3 ⟨u3, rfl, s3, p3⟩
        walk_at "go"
        exact ⟨_, _, _, rfl, s1.trans s3⟩
    · rintro σ H1 ⟨u1, u2, u3, rfl, s1⟩
      walk_at "go"
      refine al fun l1 A1 n1 sa1 ha1 => ?_
      walk_at "go"
      have G : Fine 997 20 (trim [-1, 0, 1]) := fineG (by decide +kernel) (by decide) (by decide) (by decide) (by decide) (fun z hz => Nat.lt_of_lt_of_le ((by decide +kernel : ∀ z ∈ trim [-1, 0, 1], z.natAbs < 2 ^ 1) z hz) (Nat.pow_le_pow_right (by decide) (by decide)))
      refine ⟨.ref l1, .int 997, .int ((20 : Nat) : Int), rfl, .inr ⟨[-1, 0, 1], 997, 20, .lst l1 _ ha1, by decide, rfl, rfl, G, fun t1 W1 b1 B1 sb1 pm1 so1 hb1 P1 => ?_⟩⟩
      have e1 := rc_val pm1 so1 rcvG (by decide +kernel) (by decide +kernel)
      subst e1
      clear pm1 so1 G
      have pw : CPowW 997 20 := ⟨by decide, by decide +kernel⟩
      cases P1 with
      | cons P1 P2 =>
        walk_at "go"
        refine w_ixT (sqt hb1) (atI_nat (j := 0) rfl) ?_
        walk_at "go"
        refine al fun t2 B2 n2 sb2 hb2 => ?_
        walk_at "go"
        refine w_eqTT (ls := [1, 997 ^ 20]) (ms := [1, 997 ^ 20]) (sqt (sb2 _ _ P1)) (sqt hb2) ?_
        walk_at "go"
        exact k _

end
end Lw
namespace Lw
open PySem PySem.Spec PyProof.Rows L2 Bc
theorem all_mk {l : PySem.W.OpenLaw} {w : World} {K : PySem.W.Frag} {h : Heap} {mg : Str → Option Value} {fa f1 f2 f3 f4 f5 f6 f7 f8 f9 f10 f11 f12 f13 f14 f15 f16 f17 f18 f19 f20 f21 f22 f23 f24 f25 f26 f27 f28 f29 Ec f30 Ep f31 Ew f32 f33 f34 : Addr} (X : K.In h) (G : h.Ns mainGlobals mg) (hfa : mg "law" = some (.ref fa))
    {od1 an1 : Option Addr} {sl1 : Array (Option Value)} {oc1 dc1 pm1 cd1 ct1 : Value}
    {kV1 : Value}
    {od2 an2 : Option Addr} {sl2 : Array (Option Value)} {oc2 dc2 pm2 cd2 ct2 : Value}
    {kV2 : Value}
    {od3 an3 : Option Addr} {sl3 : Array (Option Value)} {oc3 dc3 pm3 cd3 ct3 : Value}
    {kV3 : Value}
    {od4 an4 : Option Addr} {sl4 : Array (Option Value)} {oc4 dc4 pm4 cd4 ct4 : Value}
    {kV4 : Value}
    {od5 an5 : Option Addr} {sl5 : Array (Option Value)} {oc5 dc5 pm5 cd5 ct5 : Value}
    {kV5 : Value}
    {od6 an6 : Option Addr} {sl6 : Array (Option Value)} {oc6 dc6 pm6 cd6 ct6 : Value}
    {kV6 : Value}
    {od7 an7 : Option Addr} {sl7 : Array (Option Value)} {oc7 dc7 pm7 cd7 ct7 : Value}
    {kV7 : Value}
    {od8 an8 : Option Addr} {sl8 : Array (Option Value)} {oc8 dc8 pm8 cd8 ct8 : Value}
    {kV8 : Value}
    {od9 an9 : Option Addr} {sl9 : Array (Option Value)} {oc9 dc9 pm9 cd9 ct9 : Value}
    {kV9 : Value}
    {od10 an10 : Option Addr} {sl10 : Array (Option Value)} {oc10 dc10 pm10 cd10 ct10 : Value}
    {kV10 : Value}
    {od11 an11 : Option Addr} {sl11 : Array (Option Value)} {oc11 dc11 pm11 cd11 ct11 : Value}
    {kV11 : Value}
    {od12 an12 : Option Addr} {sl12 : Array (Option Value)} {oc12 dc12 pm12 cd12 ct12 : Value}
    {kV12 : Value}
    {od13 an13 : Option Addr} {sl13 : Array (Option Value)} {oc13 dc13 pm13 cd13 ct13 : Value}
    {kV13 : Value}
    {od14 an14 : Option Addr} {sl14 : Array (Option Value)} {oc14 dc14 pm14 cd14 ct14 : Value}
    {kV14 : Value}
    {od15 an15 : Option Addr} {sl15 : Array (Option Value)} {oc15 dc15 pm15 cd15 ct15 : Value}
    {kV15 : Value}
    {od16 an16 : Option Addr} {sl16 : Array (Option Value)} {oc16 dc16 pm16 cd16 ct16 : Value}
    {kV16 : Value}
    {od17 an17 : Option Addr} {sl17 : Array (Option Value)} {oc17 dc17 pm17 cd17 ct17 : Value}
    {kV17 : Value}
    {od18 an18 : Option Addr} {sl18 : Array (Option Value)} {oc18 dc18 pm18 cd18 ct18 : Value}
    {kV18 : Value}
    {od19 an19 : Option Addr} {sl19 : Array (Option Value)} {oc19 dc19 pm19 cd19 ct19 : Value}
    {kV19 : Value}
    {od20 an20 : Option Addr} {sl20 : Array (Option Value)} {oc20 dc20 pm20 cd20 ct20 : Value}
    {kV20 : Value}
    {od21 an21 : Option Addr} {sl21 : Array (Option Value)} {oc21 dc21 pm21 cd21 ct21 : Value}
    {kV21 : Value}
    {od22 an22 : Option Addr} {sl22 : Array (Option Value)} {oc22 dc22 pm22 cd22 ct22 : Value}
    {kV22 : Value}
    {od23 an23 : Option Addr} {sl23 : Array (Option Value)} {oc23 dc23 pm23 cd23 ct23 : Value}
    {kV23 : Value}
    {od24 an24 : Option Addr} {sl24 : Array (Option Value)} {oc24 dc24 pm24 cd24 ct24 : Value}
    {kV24 : Value}
    {od25 an25 : Option Addr} {sl25 : Array (Option Value)} {oc25 dc25 pm25 cd25 ct25 : Value}
    {kV25 : Value}
    {od26 an26 : Option Addr} {sl26 : Array (Option Value)} {oc26 dc26 pm26 cd26 ct26 : Value}
    {kV26 : Value}
    {od27 an27 : Option Addr} {sl27 : Array (Option Value)} {oc27 dc27 pm27 cd27 ct27 : Value}
    {kV27 : Value}
    {od28 an28 : Option Addr} {sl28 : Array (Option Value)} {oc28 dc28 pm28 cd28 ct28 : Value}
    {kV28 : Value}
    {od29 an29 : Option Addr} {sl29 : Array (Option Value)} {oc29 dc29 pm29 cd29 ct29 : Value}
    {kV29 : Value}
    {nmEc qEc : Str} {NEc BCEc : Addr} {bsEc : List Value} {snEc : List Str} {subEc : List Value} {abEc : Bool} {colEc : Option Bool} {ddEc : Option Addr} {e0Ec e1Ec e2Ec e3Ec e5Ec : Option Value}
    {od30 an30 : Option Addr} {sl30 : Array (Option Value)} {oc30 dc30 pm30 cd30 ct30 : Value}
    {kV30 : Value}
    {nmEp qEp : Str} {NEp BCEp : Addr} {bsEp : List Value} {snEp : List Str} {subEp : List Value} {abEp : Bool} {colEp : Option Bool} {ddEp : Option Addr} {e0Ep e1Ep e2Ep e3Ep e5Ep : Option Value}
    {od31 an31 : Option Addr} {sl31 : Array (Option Value)} {oc31 dc31 pm31 cd31 ct31 : Value}
    {kV31 : Value}
    {nmEw qEw : Str} {NEw BCEw : Addr} {bsEw : List Value} {snEw : List Str} {subEw : List Value} {abEw : Bool} {colEw : Option Bool} {ddEw : Option Addr} {e0Ew e1Ew e2Ew e3Ew e5Ew : Option Value}
    {od32 an32 : Option Addr} {sl32 : Array (Option Value)} {oc32 dc32 pm32 cd32 ct32 : Value}
    {kV32 : Value}
    {od33 an33 : Option Addr} {sl33 : Array (Option Value)} {oc33 dc33 pm33 cd33 ct33 : Value}
    {kV33 : Value}
    {od34 an34 : Option Addr} {sl34 : Array (Option Value)} {oc34 dc34 pm34 cd34 ct34 : Value}
    {kV34 : Value}
    (z_len : PySem.W.nsIn K mainGlobals "len" = some none)
    (z_int : PySem.W.nsIn K mainGlobals "int" = some none)
    (z_abs : PySem.W.nsIn K mainGlobals "abs" = some none)
    (z_max : PySem.W.nsIn K mainGlobals "max" = some none)
    (z_min : PySem.W.nsIn K mainGlobals "min" = some none)
    (z_range : PySem.W.nsIn K mainGlobals "range" = some none)
    (z_isinstance : PySem.W.nsIn K mainGlobals "isinstance" = some none)
    (z_list : PySem.W.nsIn K mainGlobals "list" = some none)
    (z_tuple : PySem.W.nsIn K mainGlobals "tuple" = some none)
    (z_str : PySem.W.nsIn K mainGlobals "str" = some none)
    (z_bool : PySem.W.nsIn K mainGlobals "bool" = some none)
    (z_ord : PySem.W.nsIn K mainGlobals "ord" = some none)
    (z_all : PySem.W.nsIn K mainGlobals "all" = some none)
    (z_enumerate : PySem.W.nsIn K mainGlobals "enumerate" = some none)
    (z_zip : PySem.W.nsIn K mainGlobals "zip" = some none)
    (a1 : PySem.W.nsIn K mainGlobals "is_integer" = some (some (.ref f1)))
    (l1 : K.lookup f1 = some ⟨oc1, od1, .func (PySem.W.fnOf "is_integer" "is_integer" (defArgs s_isint) (defBody s_isint) (defScope s_isint) .none kV1 dc1 pm1 an1 cd1 ct1), sl1⟩)
    (c1 : PySem.W.codeIn K cd1 "is_integer" = true)
    (k1 : PySem.W.keepIn K (.ref f1) = true)
    (a2 : PySem.W.nsIn K mainGlobals "raised" = some (some (.ref f2)))
    (l2 : K.lookup f2 = some ⟨oc2, od2, .func (PySem.W.fnOf "raised" "raised" (defArgs s_raised) (defBody s_raised) (defScope s_raised) .none kV2 dc2 pm2 an2 cd2 ct2), sl2⟩)
    (c2 : PySem.W.codeIn K cd2 "raised" = true)
    (k2 : PySem.W.keepIn K (.ref f2) = true)
    (a3 : PySem.W.nsIn K mainGlobals "is_prime_number" = some (some (.ref f3)))
    (l3 : K.lookup f3 = some ⟨oc3, od3, .func (PySem.W.fnOf "is_prime_number" "is_prime_number" (defArgs s_prime) (defBody s_prime) (defScope s_prime) .none kV3 dc3 pm3 an3 cd3 ct3), sl3⟩)
    (c3 : PySem.W.codeIn K cd3 "is_prime_number" = true)
    (k3 : PySem.W.keepIn K (.ref f3) = true)
    (a4 : PySem.W.nsIn K mainGlobals "_law_mixed" = some (some (.ref f4)))
    (l4 : K.lookup f4 = some ⟨oc4, od4, .func (PySem.W.fnOf "_law_mixed" "_law_mixed" (defArgs s_mixed) (defBody s_mixed) (defScope s_mixed) .none kV4 dc4 pm4 an4 cd4 ct4), sl4⟩)
    (c4 : PySem.W.codeIn K cd4 "_law_mixed" = true)
    (k4 : PySem.W.keepIn K (.ref f4) = true)
    (a5 : PySem.W.nsIn K mainGlobals "_law_purse" = some (some (.ref f5)))
    (l5 : K.lookup f5 = some ⟨oc5, od5, .func (PySem.W.fnOf "_law_purse" "_law_purse" (defArgs s_purse) (defBody s_purse) (defScope s_purse) .none kV5 dc5 pm5 an5 cd5 ct5), sl5⟩)
    (c5 : PySem.W.codeIn K cd5 "_law_purse" = true)
    (k5 : PySem.W.keepIn K (.ref f5) = true)
    (a6 : PySem.W.nsIn K mainGlobals "_law_draw" = some (some (.ref f6)))
    (l6 : K.lookup f6 = some ⟨oc6, od6, .func (PySem.W.fnOf "_law_draw" "_law_draw" (defArgs s_draw) (defBody s_draw) (defScope s_draw) .none kV6 dc6 pm6 an6 cd6 ct6), sl6⟩)
    (c6 : PySem.W.codeIn K cd6 "_law_draw" = true)
    (k6 : PySem.W.keepIn K (.ref f6) = true)
    (a7 : PySem.W.nsIn K mainGlobals "_law_great" = some (some (.ref f7)))
    (l7 : K.lookup f7 = some ⟨oc7, od7, .func (PySem.W.fnOf "_law_great" "_law_great" (defArgs s_great) (defBody s_great) (defScope s_great) .none kV7 dc7 pm7 an7 cd7 ct7), sl7⟩)
    (c7 : PySem.W.codeIn K cd7 "_law_great" = true)
    (k7 : PySem.W.keepIn K (.ref f7) = true)
    (a8 : PySem.W.nsIn K mainGlobals "inverse" = some (some (.ref f8)))
    (l8 : K.lookup f8 = some ⟨oc8, od8, .func (PySem.W.fnOf "inverse" "inverse" (defArgs s_inverse) (defBody s_inverse) (defScope s_inverse) .none kV8 dc8 pm8 an8 cd8 ct8), sl8⟩)
    (c8 : PySem.W.codeIn K cd8 "inverse" = true)
    (k8 : PySem.W.keepIn K (.ref f8) = true)
    (a9 : PySem.W.nsIn K mainGlobals "require_prime" = some (some (.ref f9)))
    (l9 : K.lookup f9 = some ⟨oc9, od9, .func (PySem.W.fnOf "require_prime" "require_prime" (defArgs s_reqprx) (defBody s_reqprx) (defScope s_reqprx) .none kV9 dc9 pm9 an9 cd9 ct9), sl9⟩)
    (c9 : PySem.W.codeIn K cd9 "require_prime" = true)
    (k9 : PySem.W.keepIn K (.ref f9) = true)
    (a10 : PySem.W.nsIn K mainGlobals "trimmed" = some (some (.ref f10)))
    (l10 : K.lookup f10 = some ⟨oc10, od10, .func (PySem.W.fnOf "trimmed" "trimmed" (defArgs s_trimx) (defBody s_trimx) (defScope s_trimx) .none kV10 dc10 pm10 an10 cd10 ct10), sl10⟩)
    (c10 : PySem.W.codeIn K cd10 "trimmed" = true)
    (k10 : PySem.W.keepIn K (.ref f10) = true)
    (a11 : PySem.W.nsIn K mainGlobals "remainders" = some (some (.ref f11)))
    (l11 : K.lookup f11 = some ⟨oc11, od11, .func (PySem.W.fnOf "remainders" "remainders" (defArgs s_rmdx) (defBody s_rmdx) (defScope s_rmdx) .none kV11 dc11 pm11 an11 cd11 ct11), sl11⟩)
    (c11 : PySem.W.codeIn K cd11 "remainders" = true)
    (k11 : PySem.W.keepIn K (.ref f11) = true)
    (a12 : PySem.W.nsIn K mainGlobals "value_at" = some (some (.ref f12)))
    (l12 : K.lookup f12 = some ⟨oc12, od12, .func (PySem.W.fnOf "value_at" "value_at" (defArgs s_valp) (defBody s_valp) (defScope s_valp) .none kV12 dc12 pm12 an12 cd12 ct12), sl12⟩)
    (c12 : PySem.W.codeIn K cd12 "value_at" = true)
    (k12 : PySem.W.keepIn K (.ref f12) = true)
    (a13 : PySem.W.nsIn K mainGlobals "roots_of" = some (some (.ref f13)))
    (l13 : K.lookup f13 = some ⟨oc13, od13, .func (PySem.W.fnOf "roots_of" "roots_of" (defArgs s_rootsof) (defBody s_rootsof) (defScope s_rootsof) .none kV13 dc13 pm13 an13 cd13 ct13), sl13⟩)
    (c13 : PySem.W.codeIn K cd13 "roots_of" = true)
    (k13 : PySem.W.keepIn K (.ref f13) = true)
    (a14 : PySem.W.nsIn K mainGlobals "require_coefficients" = some (some (.ref f14)))
    (l14 : K.lookup f14 = some ⟨oc14, od14, .func (PySem.W.fnOf "require_coefficients" "require_coefficients" (defArgs s_reqcox) (defBody s_reqcox) (defScope s_reqcox) .none kV14 dc14 pm14 an14 cd14 ct14), sl14⟩)
    (c14 : PySem.W.codeIn K cd14 "require_coefficients" = true)
    (k14 : PySem.W.keepIn K (.ref f14) = true)
    (a15 : PySem.W.nsIn K mainGlobals "taken_out" = some (some (.ref f15)))
    (l15 : K.lookup f15 = some ⟨oc15, od15, .func (PySem.W.fnOf "taken_out" "taken_out" (defArgs s_tkn) (defBody s_tkn) (defScope s_tkn) .none kV15 dc15 pm15 an15 cd15 ct15), sl15⟩)
    (c15 : PySem.W.codeIn K cd15 "taken_out" = true)
    (k15 : PySem.W.keepIn K (.ref f15) = true)
    (a16 : PySem.W.nsIn K mainGlobals "moved_to" = some (some (.ref f16)))
    (l16 : K.lookup f16 = some ⟨oc16, od16, .func (PySem.W.fnOf "moved_to" "moved_to" (defArgs s_mvto) (defBody s_mvto) (defScope s_mvto) .none kV16 dc16 pm16 an16 cd16 ct16), sl16⟩)
    (c16 : PySem.W.codeIn K cd16 "moved_to" = true)
    (k16 : PySem.W.keepIn K (.ref f16) = true)
    (a17 : PySem.W.nsIn K mainGlobals "paper_of" = some (some (.ref f17)))
    (l17 : K.lookup f17 = some ⟨oc17, od17, .func (PySem.W.fnOf "paper_of" "paper_of" (defArgs s_paper0) (defBody s_paper0) (defScope s_paper0) .none kV17 dc17 pm17 an17 cd17 ct17), sl17⟩)
    (c17 : PySem.W.codeIn K cd17 "paper_of" = true)
    (k17 : PySem.W.keepIn K (.ref f17) = true)
    (a18 : PySem.W.nsIn K mainGlobals "leaves" = some (some (.ref f18)))
    (l18 : K.lookup f18 = some ⟨oc18, od18, .func (PySem.W.fnOf "leaves" "leaves" (defArgs s_leaves) (defBody s_leaves) (defScope s_leaves) .none kV18 dc18 pm18 an18 cd18 ct18), sl18⟩)
    (c18 : PySem.W.codeIn K cd18 "leaves" = true)
    (k18 : PySem.W.keepIn K (.ref f18) = true)
    (a19 : PySem.W.nsIn K mainGlobals "ordered" = some (some (.ref f19)))
    (l19 : K.lookup f19 = some ⟨oc19, od19, .func (PySem.W.fnOf "ordered" "ordered" (defArgs s_ordered) (defBody s_ordered) (defScope s_ordered) .none kV19 dc19 pm19 an19 cd19 ct19), sl19⟩)
    (c19 : PySem.W.codeIn K cd19 "ordered" = true)
    (k19 : PySem.W.keepIn K (.ref f19) = true)
    (a20 : PySem.W.nsIn K mainGlobals "widest" = some (some (.ref f20)))
    (l20 : K.lookup f20 = some ⟨oc20, od20, .func (PySem.W.fnOf "widest" "widest" (defArgs s_widest) (defBody s_widest) (defScope s_widest) .none kV20 dc20 pm20 an20 cd20 ct20), sl20⟩)
    (c20 : PySem.W.codeIn K cd20 "widest" = true)
    (k20 : PySem.W.keepIn K (.ref f20) = true)
    (a21 : PySem.W.nsIn K mainGlobals "require_power" = some (some (.ref f21)))
    (l21 : K.lookup f21 = some ⟨oc21, od21, .func (PySem.W.fnOf "require_power" "require_power" (defArgs s_reqpwx) (defBody s_reqpwx) (defScope s_reqpwx) .none kV21 dc21 pm21 an21 cd21 ct21), sl21⟩)
    (c21 : PySem.W.codeIn K cd21 "require_power" = true)
    (k21 : PySem.W.keepIn K (.ref f21) = true)
    (a22 : PySem.W.nsIn K mainGlobals "classes_of" = some (some (.ref f22)))
    (l22 : K.lookup f22 = some ⟨oc22, od22, .func (PySem.W.fnOf "classes_of" "classes_of" (defArgs s_clsof) (defBody s_clsof) (defScope s_clsof) .none kV22 dc22 pm22 an22 cd22 ct22), sl22⟩)
    (c22 : PySem.W.codeIn K cd22 "classes_of" = true)
    (k22 : PySem.W.keepIn K (.ref f22) = true)
    (a23 : PySem.W.nsIn K mainGlobals "_law_times" = some (some (.ref f23)))
    (l23 : K.lookup f23 = some ⟨oc23, od23, .func (PySem.W.fnOf "_law_times" "_law_times" (defArgs s_times) (defBody s_times) (defScope s_times) .none kV23 dc23 pm23 an23 cd23 ct23), sl23⟩)
    (c23 : PySem.W.codeIn K cd23 "_law_times" = true)
    (k23 : PySem.W.keepIn K (.ref f23) = true)
    (a24 : PySem.W.nsIn K mainGlobals "_law_raised" = some (some (.ref f24)))
    (l24 : K.lookup f24 = some ⟨oc24, od24, .func (PySem.W.fnOf "_law_raised" "_law_raised" (defArgs s_lraised) (defBody s_lraised) (defScope s_lraised) .none kV24 dc24 pm24 an24 cd24 ct24), sl24⟩)
    (c24 : PySem.W.codeIn K cd24 "_law_raised" = true)
    (k24 : PySem.W.keepIn K (.ref f24) = true)
    (a25 : PySem.W.nsIn K mainGlobals "_law_moved" = some (some (.ref f25)))
    (l25 : K.lookup f25 = some ⟨oc25, od25, .func (PySem.W.fnOf "_law_moved" "_law_moved" (defArgs s_mvr) (defBody s_mvr) (defScope s_mvr) .none kV25 dc25 pm25 an25 cd25 ct25), sl25⟩)
    (c25 : PySem.W.codeIn K cd25 "_law_moved" = true)
    (k25 : PySem.W.keepIn K (.ref f25) = true)
    (a26 : PySem.W.nsIn K mainGlobals "_law_vanishes" = some (some (.ref f26)))
    (l26 : K.lookup f26 = some ⟨oc26, od26, .func (PySem.W.fnOf "_law_vanishes" "_law_vanishes" (defArgs s_van) (defBody s_van) (defScope s_van) .none kV26 dc26 pm26 an26 cd26 ct26), sl26⟩)
    (c26 : PySem.W.codeIn K cd26 "_law_vanishes" = true)
    (k26 : PySem.W.keepIn K (.ref f26) = true)
    (a27 : PySem.W.nsIn K mainGlobals "_law_drawn_row" = some (some (.ref f27)))
    (l27 : K.lookup f27 = some ⟨oc27, od27, .func (PySem.W.fnOf "_law_drawn_row" "_law_drawn_row" (defArgs s_drow) (defBody s_drow) (defScope s_drow) .none kV27 dc27 pm27 an27 cd27 ct27), sl27⟩)
    (c27 : PySem.W.codeIn K cd27 "_law_drawn_row" = true)
    (k27 : PySem.W.keepIn K (.ref f27) = true)
    (a28 : PySem.W.nsIn K mainGlobals "_law_count" = some (some (.ref f28)))
    (l28 : K.lookup f28 = some ⟨oc28, od28, .func (PySem.W.fnOf "_law_count" "_law_count" (defArgs s_cnt0) (defBody s_cnt0) (defScope s_cnt0) .none kV28 dc28 pm28 an28 cd28 ct28), sl28⟩)
    (c28 : PySem.W.codeIn K cd28 "_law_count" = true)
    (k28 : PySem.W.keepIn K (.ref f28) = true)
    (a29 : PySem.W.nsIn K mainGlobals "_law_right" = some (some (.ref f29)))
    (l29 : K.lookup f29 = some ⟨oc29, od29, .func (PySem.W.fnOf "_law_right" "_law_right" (defArgs s_right) (defBody s_right) (defScope s_right) .none kV29 dc29 pm29 an29 cd29 ct29), sl29⟩)
    (c29 : PySem.W.codeIn K cd29 "_law_right" = true)
    (k29 : PySem.W.keepIn K (.ref f29) = true)
    (z_dict : PySem.W.nsIn K mainGlobals "dict" = some none)
    (z_sorted : PySem.W.nsIn K mainGlobals "sorted" = some none)
    (mEc : PySem.W.nsIn K mainGlobals "InvalidCoefficients" = some (some (.ref Ec)))
    (xEc : K.lookup Ec = some (excClassObj nmEc qEc Ec NEc bsEc [.ref BCEc, .type "ValueError", .type "Exception", .type "BaseException", .type "object"] true snEc subEc abEc colEc ddEc e0Ec e1Ec e2Ec e3Ec e5Ec "ValueError.__new__"))
    (saEc : PySem.W.findIn K (.ref Ec) "__setattr__" = some (some (.builtin "object.__setattr__")))
    (gaEc : PySem.W.findIn K (.ref Ec) "__getattribute__" = some (some (.builtin "BaseException.__getattribute__")))
    (ggEc : PySem.W.findIn K (.ref Ec) "__getattr__" = some none)
    (nfEc : PySem.W.findIn K (.ref Ec) "place" = some none)
    (kcEc : PySem.W.keepIn K (.ref Ec) = true)
    (eCEc : PySem.W.subIn K (.ref Ec) (.type "BaseException") = some true)
    (tCEc : PySem.W.typeIn K (.ref Ec) = some (.type "type"))
    (hCEc : PySem.W.hasDictIn K Ec = true)
    (iCEc : PySem.W.isClsIn K Ec = true)
    (sCEc : PySem.W.subIn K (.ref Ec) (.ref Ec) = some true)
    (a30 : PySem.W.findIn K (.ref Ec) "__init__" = some (some (.ref f30)))
    (i30 : PySem.W.isFn K (.ref f30) = true)
    (l30 : K.lookup f30 = some ⟨oc30, od30, .func (PySem.W.fnOf "__init__" "InvalidCoefficients.__init__" (defArgs s_invco) (defBody s_invco) (defScope s_invco) .none kV30 dc30 pm30 an30 cd30 ct30), sl30⟩)
    (c30 : PySem.W.codeIn K cd30 "InvalidCoefficients.__init__" = true)
    (k30 : PySem.W.keepIn K (.ref f30) = true)
    (tIEc : PySem.W.typeIn K (.ref f30) = some (.type "function"))
    (mEp : PySem.W.nsIn K mainGlobals "InvalidPrime" = some (some (.ref Ep)))
    (xEp : K.lookup Ep = some (excClassObj nmEp qEp Ep NEp bsEp [.ref BCEp, .type "ValueError", .type "Exception", .type "BaseException", .type "object"] true snEp subEp abEp colEp ddEp e0Ep e1Ep e2Ep e3Ep e5Ep "ValueError.__new__"))
    (saEp : PySem.W.findIn K (.ref Ep) "__setattr__" = some (some (.builtin "object.__setattr__")))
    (gaEp : PySem.W.findIn K (.ref Ep) "__getattribute__" = some (some (.builtin "BaseException.__getattribute__")))
    (ggEp : PySem.W.findIn K (.ref Ep) "__getattr__" = some none)
    (nfEp : PySem.W.findIn K (.ref Ep) "prime" = some none)
    (kcEp : PySem.W.keepIn K (.ref Ep) = true)
    (eCEp : PySem.W.subIn K (.ref Ep) (.type "BaseException") = some true)
    (tCEp : PySem.W.typeIn K (.ref Ep) = some (.type "type"))
    (hCEp : PySem.W.hasDictIn K Ep = true)
    (iCEp : PySem.W.isClsIn K Ep = true)
    (sCEp : PySem.W.subIn K (.ref Ep) (.ref Ep) = some true)
    (a31 : PySem.W.findIn K (.ref Ep) "__init__" = some (some (.ref f31)))
    (i31 : PySem.W.isFn K (.ref f31) = true)
    (l31 : K.lookup f31 = some ⟨oc31, od31, .func (PySem.W.fnOf "__init__" "InvalidPrime.__init__" (defArgs s_invpr) (defBody s_invpr) (defScope s_invpr) .none kV31 dc31 pm31 an31 cd31 ct31), sl31⟩)
    (c31 : PySem.W.codeIn K cd31 "InvalidPrime.__init__" = true)
    (k31 : PySem.W.keepIn K (.ref f31) = true)
    (tIEp : PySem.W.typeIn K (.ref f31) = some (.type "function"))
    (mEw : PySem.W.nsIn K mainGlobals "InvalidPower" = some (some (.ref Ew)))
    (xEw : K.lookup Ew = some (excClassObj nmEw qEw Ew NEw bsEw [.ref BCEw, .type "ValueError", .type "Exception", .type "BaseException", .type "object"] true snEw subEw abEw colEw ddEw e0Ew e1Ew e2Ew e3Ew e5Ew "ValueError.__new__"))
    (saEw : PySem.W.findIn K (.ref Ew) "__setattr__" = some (some (.builtin "object.__setattr__")))
    (gaEw : PySem.W.findIn K (.ref Ew) "__getattribute__" = some (some (.builtin "BaseException.__getattribute__")))
    (ggEw : PySem.W.findIn K (.ref Ew) "__getattr__" = some none)
    (nfEw : PySem.W.findIn K (.ref Ew) "power" = some none)
    (kcEw : PySem.W.keepIn K (.ref Ew) = true)
    (eCEw : PySem.W.subIn K (.ref Ew) (.type "BaseException") = some true)
    (tCEw : PySem.W.typeIn K (.ref Ew) = some (.type "type"))
    (hCEw : PySem.W.hasDictIn K Ew = true)
    (iCEw : PySem.W.isClsIn K Ew = true)
    (sCEw : PySem.W.subIn K (.ref Ew) (.ref Ew) = some true)
    (a32 : PySem.W.findIn K (.ref Ew) "__init__" = some (some (.ref f32)))
    (i32 : PySem.W.isFn K (.ref f32) = true)
    (l32 : K.lookup f32 = some ⟨oc32, od32, .func (PySem.W.fnOf "__init__" "InvalidPower.__init__" (defArgs s_invpw) (defBody s_invpw) (defScope s_invpw) .none kV32 dc32 pm32 an32 cd32 ct32), sl32⟩)
    (c32 : PySem.W.codeIn K cd32 "InvalidPower.__init__" = true)
    (k32 : PySem.W.keepIn K (.ref f32) = true)
    (tIEw : PySem.W.typeIn K (.ref f32) = some (.type "function"))
    (nuPC : PySem.W.subIn K (.ref Ep) (.ref Ec) = some false)
    (nuWC : PySem.W.subIn K (.ref Ew) (.ref Ec) = some false)
    (nuWP : PySem.W.subIn K (.ref Ew) (.ref Ep) = some false)
    (a33 : PySem.W.nsIn K mainGlobals "root_classes" = some (some (.ref f33)))
    (l33 : K.lookup f33 = some ⟨oc33, od33, .func (PySem.W.fnOf "root_classes" "root_classes" (defArgs s_rootcx) (defBody s_rootcx) (defScope s_rootcx) .none kV33 dc33 pm33 an33 cd33 ct33), sl33⟩)
    (c33 : PySem.W.codeIn K cd33 "root_classes" = true)
    (k33 : PySem.W.keepIn K (.ref f33) = true)
    (a34 : PySem.W.nsIn K mainGlobals "law" = some (some (.ref f34)))
    (l34 : K.lookup f34 = some ⟨oc34, od34, .func (PySem.W.fnOf "law" "law" (defArgs s_law) (defBody s_law) (defScope s_law) .none kV34 dc34 pm34 an34 cd34 ct34), sl34⟩)
    (c34 : PySem.W.codeIn K cd34 "law" = true)
    (k34 : PySem.W.keepIn K (.ref f34) = true) :
    ∃ fd : FuncData, (∀ (s : Shared) (v : Value), BindsTo s fd ⟨[v], []⟩ [("_law_script", v)]) ∧ ∀ base : Heap, K.In base → base.Ns mainGlobals mg → FnOk l.prog w K mg base L2.CX0 97 fa fd ["_law_script"] (spLaw K) := by
  have e := hfa.symm.trans (PySem.W.mg_of X G a34)
  cases e
  have T : Bt mg := ⟨PySem.W.mg_none_of X G z_len, PySem.W.mg_none_of X G z_int, PySem.W.mg_none_of X G z_abs, PySem.W.mg_none_of X G z_max, PySem.W.mg_none_of X G z_min, PySem.W.mg_none_of X G z_range, PySem.W.mg_none_of X G z_isinstance, PySem.W.mg_none_of X G z_list, PySem.W.mg_none_of X G z_tuple, PySem.W.mg_none_of X G z_str, PySem.W.mg_none_of X G z_bool, PySem.W.mg_none_of X G z_ord, PySem.W.mg_none_of X G z_all, PySem.W.mg_none_of X G z_enumerate, PySem.W.mg_none_of X G z_zip⟩
  have F_isint : Dn K mg "is_integer" s_isint ["thing"] := ⟨f1, _, fun_mk (st := s_isint) l1 c1 k1, PySem.W.mg_of X G a1, (fun_mk (st := s_isint) l1 c1 k1).binds (ps := ["thing"]) fun _ _ _ _ _ _ us hl => match us, hl with | [_], _ => rfl⟩
  have F_raised : Dn K mg "raised" s_raised ["factor", "power"] := ⟨f2, _, fun_mk (st := s_raised) l2 c2 k2, PySem.W.mg_of X G a2, (fun_mk (st := s_raised) l2 c2 k2).binds (ps := ["factor", "power"]) fun _ _ _ _ _ _ us hl => match us, hl with | [_, _], _ => rfl⟩
  have F_prime : Dn K mg "is_prime_number" s_prime ["number"] := ⟨f3, _, fun_mk (st := s_prime) l3 c3 k3, PySem.W.mg_of X G a3, (fun_mk (st := s_prime) l3 c3 k3).binds (ps := ["number"]) fun _ _ _ _ _ _ us hl => match us, hl with | [_], _ => rfl⟩
  have F_mixed : Dn K mg "_law_mixed" s_mixed ["_law_cell", "_law_k"] := ⟨f4, _, fun_mk (st := s_mixed) l4 c4 k4, PySem.W.mg_of X G a4, (fun_mk (st := s_mixed) l4 c4 k4).binds (ps := ["_law_cell", "_law_k"]) fun _ _ _ _ _ _ us hl => match us, hl with | [_, _], _ => rfl⟩
  have F_purse : Dn K mg "_law_purse" s_purse ["_law_cells", "_law_at"] := ⟨f5, _, fun_mk (st := s_purse) l5 c5 k5, PySem.W.mg_of X G a5, (fun_mk (st := s_purse) l5 c5 k5).binds (ps := ["_law_cells", "_law_at"]) fun _ _ _ _ _ _ us hl => match us, hl with | [_, _], _ => rfl⟩
  have F_draw : Dn K mg "_law_draw" s_draw ["_law_purse_here", "_law_out_of"] := ⟨f6, _, fun_mk (st := s_draw) l6 c6 k6, PySem.W.mg_of X G a6, (fun_mk (st := s_draw) l6 c6 k6).binds (ps := ["_law_purse_here", "_law_out_of"]) fun _ _ _ _ _ _ us hl => match us, hl with | [_, _], _ => rfl⟩
  have F_great : Dn K mg "_law_great" s_great ["_law_purse_here", "_law_figures"] := ⟨f7, _, fun_mk (st := s_great) l7 c7 k7, PySem.W.mg_of X G a7, (fun_mk (st := s_great) l7 c7 k7).binds (ps := ["_law_purse_here", "_law_figures"]) fun _ _ _ _ _ _ us hl => match us, hl with | [_, _], _ => rfl⟩
  have F_inverse : Dn K mg "inverse" s_inverse ["unit", "number"] := ⟨f8, _, fun_mk (st := s_inverse) l8 c8 k8, PySem.W.mg_of X G a8, (fun_mk (st := s_inverse) l8 c8 k8).binds (ps := ["unit", "number"]) fun _ _ _ _ _ _ us hl => match us, hl with | [_, _], _ => rfl⟩
  have F_reqprx : Dn K mg "require_prime" s_reqprx ["prime"] := ⟨f9, _, fun_mk (st := s_reqprx) l9 c9 k9, PySem.W.mg_of X G a9, (fun_mk (st := s_reqprx) l9 c9 k9).binds (ps := ["prime"]) fun _ _ _ _ _ _ us hl => match us, hl with | [_], _ => rfl⟩
  have F_trimx : Dn K mg "trimmed" s_trimx ["coefficients"] := ⟨f10, _, fun_mk (st := s_trimx) l10 c10 k10, PySem.W.mg_of X G a10, (fun_mk (st := s_trimx) l10 c10 k10).binds (ps := ["coefficients"]) fun _ _ _ _ _ _ us hl => match us, hl with | [_], _ => rfl⟩
  have F_rmdx : Dn K mg "remainders" s_rmdx ["coefficients", "prime"] := ⟨f11, _, fun_mk (st := s_rmdx) l11 c11 k11, PySem.W.mg_of X G a11, (fun_mk (st := s_rmdx) l11 c11 k11).binds (ps := ["coefficients", "prime"]) fun _ _ _ _ _ _ us hl => match us, hl with | [_, _], _ => rfl⟩
  have F_valp : Dn K mg "value_at" s_valp ["coefficients", "place", "prime"] := ⟨f12, _, fun_mk (st := s_valp) l12 c12 k12, PySem.W.mg_of X G a12, (fun_mk (st := s_valp) l12 c12 k12).binds (ps := ["coefficients", "place", "prime"]) fun _ _ _ _ _ _ us hl => match us, hl with | [_, _, _], _ => rfl⟩
  have F_rootsof : Dn K mg "roots_of" s_rootsof ["coefficients", "prime"] := ⟨f13, _, fun_mk (st := s_rootsof) l13 c13 k13, PySem.W.mg_of X G a13, (fun_mk (st := s_rootsof) l13 c13 k13).binds (ps := ["coefficients", "prime"]) fun _ _ _ _ _ _ us hl => match us, hl with | [_, _], _ => rfl⟩
  have F_reqcox : Dn K mg "require_coefficients" s_reqcox ["thing"] := ⟨f14, _, fun_mk (st := s_reqcox) l14 c14 k14, PySem.W.mg_of X G a14, (fun_mk (st := s_reqcox) l14 c14 k14).binds (ps := ["thing"]) fun _ _ _ _ _ _ us hl => match us, hl with | [_], _ => rfl⟩
  have F_tkn : Dn K mg "taken_out" s_tkn ["coefficients", "prime", "whole"] := ⟨f15, _, fun_mk (st := s_tkn) l15 c15 k15, PySem.W.mg_of X G a15, (fun_mk (st := s_tkn) l15 c15 k15).binds (ps := ["coefficients", "prime", "whole"]) fun _ _ _ _ _ _ us hl => match us, hl with | [_, _, _], _ => rfl⟩
  have F_mvto : Dn K mg "moved_to" s_mvto ["coefficients", "root", "prime", "whole"] := ⟨f16, _, fun_mk (st := s_mvto) l16 c16 k16, PySem.W.mg_of X G a16, (fun_mk (st := s_mvto) l16 c16 k16).binds (ps := ["coefficients", "root", "prime", "whole"]) fun _ _ _ _ _ _ us hl => match us, hl with | [_, _, _, _], _ => rfl⟩
  have F_paper0 : Dn K mg "paper_of" s_paper0 ["coefficients", "prime", "whole"] := ⟨f17, _, fun_mk (st := s_paper0) l17 c17 k17, PySem.W.mg_of X G a17, (fun_mk (st := s_paper0) l17 c17 k17).binds (ps := ["coefficients", "prime", "whole"]) fun _ _ _ _ _ _ us hl => match us, hl with | [_, _, _], _ => rfl⟩
  have F_leaves : Dn K mg "leaves" s_leaves ["tree", "prime"] := ⟨f18, _, fun_mk (st := s_leaves) l18 c18 k18, PySem.W.mg_of X G a18, (fun_mk (st := s_leaves) l18 c18 k18).binds (ps := ["tree", "prime"]) fun _ _ _ _ _ _ us hl => match us, hl with | [_, _], _ => rfl⟩
  have F_ordered : Dn K mg "ordered" s_ordered ["pairs"] := ⟨f19, _, fun_mk (st := s_ordered) l19 c19 k19, PySem.W.mg_of X G a19, (fun_mk (st := s_ordered) l19 c19 k19).binds (ps := ["pairs"]) fun _ _ _ _ _ _ us hl => match us, hl with | [_], _ => rfl⟩
  have F_widest : Dn K mg "widest" s_widest ["classes", "prime"] := ⟨f20, _, fun_mk (st := s_widest) l20 c20 k20, PySem.W.mg_of X G a20, (fun_mk (st := s_widest) l20 c20 k20).binds (ps := ["classes", "prime"]) fun _ _ _ _ _ _ us hl => match us, hl with | [_, _], _ => rfl⟩
  have F_reqpwx : Dn K mg "require_power" s_reqpwx ["power"] := ⟨f21, _, fun_mk (st := s_reqpwx) l21 c21 k21, PySem.W.mg_of X G a21, (fun_mk (st := s_reqpwx) l21 c21 k21).binds (ps := ["power"]) fun _ _ _ _ _ _ us hl => match us, hl with | [_], _ => rfl⟩
  have F_clsof : Dn K mg "classes_of" s_clsof ["coefficients", "prime", "power"] := ⟨f22, _, fun_mk (st := s_clsof) l22 c22 k22, PySem.W.mg_of X G a22, (fun_mk (st := s_clsof) l22 c22 k22).binds (ps := ["coefficients", "prime", "power"]) fun _ _ _ _ _ _ us hl => match us, hl with | [_, _, _], _ => rfl⟩
  have F_times : Dn K mg "_law_times" s_times ["_law_row", "_law_more"] := ⟨f23, _, fun_mk (st := s_times) l23 c23 k23, PySem.W.mg_of X G a23, (fun_mk (st := s_times) l23 c23 k23).binds (ps := ["_law_row", "_law_more"]) fun _ _ _ _ _ _ us hl => match us, hl with | [_, _], _ => rfl⟩
  have F_lraised : Dn K mg "_law_raised" s_lraised ["_law_p", "_law_k"] := ⟨f24, _, fun_mk (st := s_lraised) l24 c24 k24, PySem.W.mg_of X G a24, (fun_mk (st := s_lraised) l24 c24 k24).binds (ps := ["_law_p", "_law_k"]) fun _ _ _ _ _ _ us hl => match us, hl with | [_, _], _ => rfl⟩
  have F_mvr : Dn K mg "_law_moved" s_mvr ["_law_row", "_law_root", "_law_scale"] := ⟨f25, _, fun_mk (st := s_mvr) l25 c25 k25, PySem.W.mg_of X G a25, (fun_mk (st := s_mvr) l25 c25 k25).binds (ps := ["_law_row", "_law_root", "_law_scale"]) fun _ _ _ _ _ _ us hl => match us, hl with | [_, _, _], _ => rfl⟩
  have F_van : Dn K mg "_law_vanishes" s_van ["_law_row", "_law_size"] := ⟨f26, _, fun_mk (st := s_van) l26 c26 k26, PySem.W.mg_of X G a26, (fun_mk (st := s_van) l26 c26 k26).binds (ps := ["_law_row", "_law_size"]) fun _ _ _ _ _ _ us hl => match us, hl with | [_, _], _ => rfl⟩
  have F_drow : Dn K mg "_law_drawn_row" s_drow ["_law_purse_here", "_law_p", "_law_k"] := ⟨f27, _, fun_mk (st := s_drow) l27 c27 k27, PySem.W.mg_of X G a27, (fun_mk (st := s_drow) l27 c27 k27).binds (ps := ["_law_purse_here", "_law_p", "_law_k"]) fun _ _ _ _ _ _ us hl => match us, hl with | [_, _, _], _ => rfl⟩
  have F_cnt0 : Dn K mg "_law_count" s_cnt0 ["_law_row", "_law_p", "_law_size"] := ⟨f28, _, fun_mk (st := s_cnt0) l28 c28 k28, PySem.W.mg_of X G a28, (fun_mk (st := s_cnt0) l28 c28 k28).binds (ps := ["_law_row", "_law_p", "_law_size"]) fun _ _ _ _ _ _ us hl => match us, hl with | [_, _, _], _ => rfl⟩
  have F_right : Dn K mg "_law_right" s_right ["_law_purse_here"] := ⟨f29, _, fun_mk (st := s_right) l29 c29 k29, PySem.W.mg_of X G a29, (fun_mk (st := s_right) l29 c29 k29).binds (ps := ["_law_purse_here"]) fun _ _ _ _ _ _ us hl => match us, hl with | [_], _ => rfl⟩
  have zdict : mg "dict" = none := PySem.W.mg_none_of X G z_dict
  have zsorted : mg "sorted" = none := PySem.W.mg_none_of X G z_sorted
  have F_invco : FunD K "__init__" "InvalidCoefficients.__init__" (defArgs s_invco) (defBody s_invco) (defScope s_invco) [] [] f30 _ := ⟨⟨oc30, od30, .none, kV30, dc30, pm30, an30, cd30, ct30, sl30, rfl, l30, c30, .inl ⟨rfl, rfl⟩, .inl rfl⟩, k30⟩
  have B_invco := F_invco.bindsN (ps := ["self", "place"]) fun _ _ _ _ _ _ us hl => match us, hl with | [_, _], _ => rfl
  have O_Ec : OexC K Ec := ⟨⟨nmEc, qEc, NEc, bsEc, _, snEc, subEc, abEc, colEc, ddEc, e0Ec, e1Ec, e2Ec, e3Ec, e5Ec, xEc, rfl⟩, saEc, eCEc, tCEc, kcEc⟩
  have e_invco : ErrC K mg "InvalidCoefficients" Ec "place" := ⟨PySem.W.mg_of X G mEc, ⟨gaEc, ggEc, eCEc, hCEc⟩, nfEc, exm_own eCEc iCEc tCEc sCEc⟩
  have F_invpr : FunD K "__init__" "InvalidPrime.__init__" (defArgs s_invpr) (defBody s_invpr) (defScope s_invpr) [] [] f31 _ := ⟨⟨oc31, od31, .none, kV31, dc31, pm31, an31, cd31, ct31, sl31, rfl, l31, c31, .inl ⟨rfl, rfl⟩, .inl rfl⟩, k31⟩
  have B_invpr := F_invpr.bindsN (ps := ["self", "prime"]) fun _ _ _ _ _ _ us hl => match us, hl with | [_, _], _ => rfl
  have O_Ep : OexC K Ep := ⟨⟨nmEp, qEp, NEp, bsEp, _, snEp, subEp, abEp, colEp, ddEp, e0Ep, e1Ep, e2Ep, e3Ep, e5Ep, xEp, rfl⟩, saEp, eCEp, tCEp, kcEp⟩
  have e_invpr : ErrC K mg "InvalidPrime" Ep "prime" := ⟨PySem.W.mg_of X G mEp, ⟨gaEp, ggEp, eCEp, hCEp⟩, nfEp, exm_own eCEp iCEp tCEp sCEp⟩
  have F_invpw : FunD K "__init__" "InvalidPower.__init__" (defArgs s_invpw) (defBody s_invpw) (defScope s_invpw) [] [] f32 _ := ⟨⟨oc32, od32, .none, kV32, dc32, pm32, an32, cd32, ct32, sl32, rfl, l32, c32, .inl ⟨rfl, rfl⟩, .inl rfl⟩, k32⟩
  have B_invpw := F_invpw.bindsN (ps := ["self", "power"]) fun _ _ _ _ _ _ us hl => match us, hl with | [_, _], _ => rfl
  have O_Ew : OexC K Ew := ⟨⟨nmEw, qEw, NEw, bsEw, _, snEw, subEw, abEw, colEw, ddEw, e0Ew, e1Ew, e2Ew, e3Ew, e5Ew, xEw, rfl⟩, saEw, eCEw, tCEw, kcEw⟩
  have e_invpw : ErrC K mg "InvalidPower" Ew "power" := ⟨PySem.W.mg_of X G mEw, ⟨gaEw, ggEw, eCEw, hCEw⟩, nfEw, exm_own eCEw iCEw tCEw sCEw⟩
  have F_rootcx : FunD K "root_classes" "root_classes" (defArgs s_rootcx) (defBody s_rootcx) (defScope s_rootcx) [] [] f33 _ := ⟨⟨oc33, od33, .none, kV33, dc33, pm33, an33, cd33, ct33, sl33, rfl, l33, c33, .inl ⟨rfl, rfl⟩, .inl rfl⟩, k33⟩
  have B_rootcx := F_rootcx.bindsN (ps := ["coefficients", "prime", "power"]) fun _ _ _ _ _ _ us hl => match us, hl with | [_, _, _], _ => rfl
  refine ⟨PySem.W.fnOf "law" "law" (defArgs s_law) (defBody s_law) (defScope s_law) .none kV34 dc34 pm34 an34 cd34 ct34, fun s v => .of_eq rfl, fun base _ _ => ?_⟩
  have g_invco := ok_invco (P := l.prog) (w := w) (K := K) (mg := mg) (base := base) F_invco T O_Ec nfEc
  have c_invco : Err l.prog w K mg base 1 "InvalidCoefficients" Ec "place" := ⟨f30, _, _, O_Ec, a30, tIEc, g_invco, B_invco, PySem.W.mg_of X G mEc⟩
  have g_invpr := ok_invpr (P := l.prog) (w := w) (K := K) (mg := mg) (base := base) F_invpr T O_Ep nfEp
  have c_invpr : Err l.prog w K mg base 1 "InvalidPrime" Ep "prime" := ⟨f31, _, _, O_Ep, a31, tIEp, g_invpr, B_invpr, PySem.W.mg_of X G mEp⟩
  have g_invpw := ok_invpw (P := l.prog) (w := w) (K := K) (mg := mg) (base := base) F_invpw T O_Ew nfEw
  have c_invpw : Err l.prog w K mg base 1 "InvalidPower" Ew "power" := ⟨f32, _, _, O_Ew, a32, tIEw, g_invpw, B_invpw, PySem.W.mg_of X G mEw⟩
  have npc := exm_no eCEc iCEc tCEc nuPC
  have nwc := exm_no eCEc iCEc tCEc nuWC
  have nwp := exm_no eCEp iCEp tCEp nuWP
  have c_isint := ok_isint (P := l.prog) (w := w) (K := K) (mg := mg) (base := base) F_isint T
  have c_raised := ok_raised (P := l.prog) (w := w) (K := K) (mg := mg) (base := base) F_raised T
  have c_prime := ok_prime (P := l.prog) (w := w) (K := K) (mg := mg) (base := base) F_prime T
  have c_mixed := ok_mixed (P := l.prog) (w := w) (K := K) (mg := mg) (base := base) F_mixed T
  have c_purse := ok_purse (P := l.prog) (w := w) (K := K) (mg := mg) (base := base) F_purse T
  have c_draw := ok_draw F_draw T c_mixed
  have c_great := ok_great F_great T c_draw
  have c_inverse := ok_inverse (P := l.prog) (w := w) (K := K) (mg := mg) (base := base) F_inverse T
  have c_reqprx := ok_reqprx F_reqprx T c_isint c_prime c_invpr
  have c_trimx := ok_trimx (P := l.prog) (w := w) (K := K) (mg := mg) (base := base) F_trimx T
  have c_rmdx := ok_rmdx F_rmdx T c_trimx
  have c_valp := ok_valp (P := l.prog) (w := w) (K := K) (mg := mg) (base := base) F_valp T
  have c_rootsof := ok_rootsof F_rootsof T c_rmdx c_valp c_inverse
  have c_reqcox := ok_reqcox F_reqcox T c_isint c_trimx c_invco
  have c_tkn := ok_tkn (P := l.prog) (w := w) (K := K) (mg := mg) (base := base) F_tkn T
  have c_mvto := ok_mvto F_mvto T c_trimx
  have c_papof := fun n => ok_papof F_paper0 T c_tkn c_rootsof c_mvto n
  have c_leaves := ok_leaves (P := l.prog) (w := w) (K := K) (mg := mg) (base := base) F_leaves T
  have c_ordered := ok_ordered (P := l.prog) (w := w) (K := K) (mg := mg) (base := base) F_ordered T zdict zsorted
  have c_widest := ok_widest F_widest T c_ordered
  have c_reqpwx := ok_reqpwx F_reqpwx T c_isint c_invpw
  have c_clsof := ok_clsof F_clsof T c_raised c_papof c_leaves c_widest
  have g_rootcx := ok_rootcx (Cc := Ec) (Cp := Ep) (Cw := Ew) F_rootcx T c_reqcox c_reqprx c_reqpwx c_clsof
  have c_rootcx : CalX l.prog w K mg base 91 "root_classes" (spRootCl K Ec Ep Ew) [] := ⟨f33, _, _, [], g_rootcx, PySem.W.mg_of X G a33, k33, B_rootcx, .nil⟩
  have c_lraised := ok_lraised (P := l.prog) (w := w) (K := K) (mg := mg) (base := base) F_lraised T
  have c_times := ok_times (P := l.prog) (w := w) (K := K) (mg := mg) (base := base) F_times T
  have c_mvr := ok_mvr (P := l.prog) (w := w) (K := K) (mg := mg) (base := base) F_mvr T
  have c_van := ok_van (P := l.prog) (w := w) (K := K) (mg := mg) (base := base) F_van T
  have c_drow := ok_drow F_drow T c_draw c_great c_times c_lraised
  have c_cnt := ok_cntof F_cnt0 T c_mvr 61
  have c_right := ok_right (Cc := Ec) (Cp := Ep) (Cw := Ew) F_right T c_draw c_lraised c_drow c_mvr c_van c_rootcx c_cnt
  exact ok_law (fun_mk (st := s_law) l34 c34 k34) T c_purse c_right c_rootcx
theorem walk {l : PySem.W.OpenLaw} {q : Program} {loose : List Str} {XP : (Str → Option Value) → Heap → Prop} {YP : World → Heap → Prop} {d : DefRec} {K : Params → PySem.W.Frag} (hn : l.most = some 63) (hdf : d.params.defaults = [])
    (hY : ∀ (w : World) (h : Heap), YP w h → (K w.params).In h)
    (F : ∀ (w : World) (mg : Str → Option Value) (fa : Addr) (h : Heap), (K w.params).In h → h.Ns mainGlobals mg → mg d.name = some (.ref fa) →
      ∃ fd : FuncData, (∀ (s : Shared) (u : Value), BindsTo s fd ⟨[u], []⟩ [("_law_script", u)]) ∧ ∀ base : Heap, (K w.params).In base → base.Ns mainGlobals mg → FnOk l.prog w (K w.params) mg base L2.CX0 97 fa fd ["_law_script"] (spLaw (K w.params))) :
    PySem.W.WalkO q loose XP YP l.row.toRowW d [] (fun f vs => PySem.call f vs) :=
  L2.walk_of (n := 63) (k := 97) (x := "_law_script") (CX := fun _ => L2.CX0) (sp := fun w => spLaw (K w.params)) hn (by decide) hdf ⟨rfl, by decide, by decide⟩ hY F (fun _ _ a ns hl _ hS => ⟨a, ns, rfl, hS, hl, fun _ => rfl⟩) fun _ _ _ _ _ z => z
end Lw
open PySem PySem.W PyProof.Rows in
set_option maxRecDepth 100000 in
set_option maxHeartbeats 0 in
theorem PySem.Challenge.cw_baseclash_k25_widest_classes_of_great_po_holds : PySem.Challenge.rw_baseclash_k25_widest_classes_of_great_po.Holds := by
  w_on; o_law; k_head; (case hw => w_witness2)
  k_fill
  refine Lw.walk (l := PySem.Challenge.rw_baseclash_k25_widest_classes_of_great_po) rfl rfl (fun w h Y => PySem.W.kIn_of Y) ?F
  case F =>
    intro w mg fa h KX G hmg
    refine' Lw.all_mk KX G hmg ?z_len ?z_int ?z_abs ?z_max ?z_min ?z_range ?z_isinstance ?z_list ?z_tuple ?z_str ?z_bool ?z_ord ?z_all ?z_enumerate ?z_zip ?a1 ?l1 ?c1 ?k1 ?a2 ?l2 ?c2 ?k2 ?a3 ?l3 ?c3 ?k3 ?a4 ?l4 ?c4 ?k4 ?a5 ?l5 ?c5 ?k5 ?a6 ?l6 ?c6 ?k6 ?a7 ?l7 ?c7 ?k7 ?a8 ?l8 ?c8 ?k8 ?a9 ?l9 ?c9 ?k9 ?a10 ?l10 ?c10 ?k10 ?a11 ?l11 ?c11 ?k11 ?a12 ?l12 ?c12 ?k12 ?a13 ?l13 ?c13 ?k13 ?a14 ?l14 ?c14 ?k14 ?a15 ?l15 ?c15 ?k15 ?a16 ?l16 ?c16 ?k16 ?a17 ?l17 ?c17 ?k17 ?a18 ?l18 ?c18 ?k18 ?a19 ?l19 ?c19 ?k19 ?a20 ?l20 ?c20 ?k20 ?a21 ?l21 ?c21 ?k21 ?a22 ?l22 ?c22 ?k22 ?a23 ?l23 ?c23 ?k23 ?a24 ?l24 ?c24 ?k24 ?a25 ?l25 ?c25 ?k25 ?a26 ?l26 ?c26 ?k26 ?a27 ?l27 ?c27 ?k27 ?a28 ?l28 ?c28 ?k28 ?a29 ?l29 ?c29 ?k29 ?z_dict ?z_sorted ?mEc ?xEc ?saEc ?gaEc ?ggEc ?nfEc ?kcEc ?eCEc ?tCEc ?hCEc ?iCEc ?sCEc ?a30 ?i30 ?l30 ?c30 ?k30 ?tIEc ?mEp ?xEp ?saEp ?gaEp ?ggEp ?nfEp ?kcEp ?eCEp ?tCEp ?hCEp ?iCEp ?sCEp ?a31 ?i31 ?l31 ?c31 ?k31 ?tIEp ?mEw ?xEw ?saEw ?gaEw ?ggEw ?nfEw ?kcEw ?eCEw ?tCEw ?hCEw ?iCEw ?sCEw ?a32 ?i32 ?l32 ?c32 ?k32 ?tIEw ?nuPC ?nuWC ?nuWP ?a33 ?l33 ?c33 ?k33 ?a34 ?l34 ?c34 ?k34
    (case z_len => k_is)
    (case z_int => k_is)
    (case z_abs => k_is)
    (case z_max => k_is)
    (case z_min => k_is)
    (case z_range => k_is)
    (case z_isinstance => k_is)
    (case z_list => k_is)
    (case z_tuple => k_is)
    (case z_str => k_is)
    (case z_bool => k_is)
    (case z_ord => k_is)
    (case z_all => k_is)
    (case z_enumerate => k_is)
    (case z_zip => k_is)
    (case a1 => k_is)
    (case l1 => k_is)
    (case c1 => k_is)
    (case k1 => k_is)
    (case a2 => k_is)
    (case l2 => k_is)
    (case c2 => k_is)
    (case k2 => k_is)
    (case a3 => k_is)
    (case l3 => k_is)
    (case c3 => k_is)
    (case k3 => k_is)
    (case a4 => k_is)
    (case l4 => k_is)
    (case c4 => k_is)
    (case k4 => k_is)
    (case a5 => k_is)
    (case l5 => k_is)
    (case c5 => k_is)
    (case k5 => k_is)
    (case a6 => k_is)
    (case l6 => k_is)
    (case c6 => k_is)
    (case k6 => k_is)
    (case a7 => k_is)
    (case l7 => k_is)
    (case c7 => k_is)
    (case k7 => k_is)
    (case a8 => k_is)
    (case l8 => k_is)
    (case c8 => k_is)
    (case k8 => k_is)
    (case a9 => k_is)
    (case l9 => k_is)
    (case c9 => k_is)
    (case k9 => k_is)
    (case a10 => k_is)
    (case l10 => k_is)
    (case c10 => k_is)
    (case k10 => k_is)
    (case a11 => k_is)
    (case l11 => k_is)
    (case c11 => k_is)
    (case k11 => k_is)
    (case a12 => k_is)
    (case l12 => k_is)
    (case c12 => k_is)
    (case k12 => k_is)
    (case a13 => k_is)
    (case l13 => k_is)
    (case c13 => k_is)
    (case k13 => k_is)
    (case a14 => k_is)
    (case l14 => k_is)
    (case c14 => k_is)
    (case k14 => k_is)
    (case a15 => k_is)
    (case l15 => k_is)
    (case c15 => k_is)
    (case k15 => k_is)
    (case a16 => k_is)
    (case l16 => k_is)
    (case c16 => k_is)
    (case k16 => k_is)
    (case a17 => k_is)
    (case l17 => k_is)
    (case c17 => k_is)
    (case k17 => k_is)
    (case a18 => k_is)
    (case l18 => k_is)
    (case c18 => k_is)
    (case k18 => k_is)
    (case a19 => k_is)
    (case l19 => k_is)
    (case c19 => k_is)
    (case k19 => k_is)
    (case a20 => k_is)
    (case l20 => k_is)
    (case c20 => k_is)
    (case k20 => k_is)
    (case a21 => k_is)
    (case l21 => k_is)
    (case c21 => k_is)
    (case k21 => k_is)
    (case a22 => k_is)
    (case l22 => k_is)
    (case c22 => k_is)
    (case k22 => k_is)
    (case a23 => k_is)
    (case l23 => k_is)
    (case c23 => k_is)
    (case k23 => k_is)
    (case a24 => k_is)
    (case l24 => k_is)
    (case c24 => k_is)
    (case k24 => k_is)
    (case a25 => k_is)
    (case l25 => k_is)
    (case c25 => k_is)
    (case k25 => k_is)
    (case a26 => k_is)
    (case l26 => k_is)
    (case c26 => k_is)
    (case k26 => k_is)
    (case a27 => k_is)
    (case l27 => k_is)
    (case c27 => k_is)
    (case k27 => k_is)
    (case a28 => k_is)
    (case l28 => k_is)
    (case c28 => k_is)
    (case k28 => k_is)
    (case a29 => k_is)
    (case l29 => k_is)
    (case c29 => k_is)
    (case k29 => k_is)
    (case z_dict => k_is)
    (case z_sorted => k_is)
    (case mEc => k_is)
    (case xEc => k_is)
    (case saEc => k_is)
    (case gaEc => k_is)
    (case ggEc => k_is)
    (case nfEc => k_is)
    (case kcEc => k_is)
    (case eCEc => k_is)
    (case tCEc => k_is)
    (case hCEc => k_is)
    (case iCEc => k_is)
    (case sCEc => k_is)
    (case a30 => k_is)
    (case i30 => k_is)
    (case l30 => k_is)
    (case c30 => k_is)
    (case k30 => k_is)
    (case tIEc => k_is)
    (case mEp => k_is)
    (case xEp => k_is)
    (case saEp => k_is)
    (case gaEp => k_is)
    (case ggEp => k_is)
    (case nfEp => k_is)
    (case kcEp => k_is)
    (case eCEp => k_is)
    (case tCEp => k_is)
    (case hCEp => k_is)
    (case iCEp => k_is)
    (case sCEp => k_is)
    (case a31 => k_is)
    (case i31 => k_is)
    (case l31 => k_is)
    (case c31 => k_is)
    (case k31 => k_is)
    (case tIEp => k_is)
    (case mEw => k_is)
    (case xEw => k_is)
    (case saEw => k_is)
    (case gaEw => k_is)
    (case ggEw => k_is)
    (case nfEw => k_is)
    (case kcEw => k_is)
    (case eCEw => k_is)
    (case tCEw => k_is)
    (case hCEw => k_is)
    (case iCEw => k_is)
    (case sCEw => k_is)
    (case a32 => k_is)
    (case i32 => k_is)
    (case l32 => k_is)
    (case c32 => k_is)
    (case k32 => k_is)
    (case tIEw => k_is)
    (case nuPC => k_is)
    (case nuWC => k_is)
    (case nuWP => k_is)
    (case a33 => k_is)
    (case l33 => k_is)
    (case c33 => k_is)
    (case k33 => k_is)
    (case a34 => k_is)
    (case l34 => k_is)
    (case c34 => k_is)
    (case k34 => k_is)
