import PyProof.Rows.All
import Wide.All
import OpenK.AllK
import Wide.FinOn
import HandS.ForMost
import HandS.Codes
import HandS.Style
import HandS.Flow
import HandS.Wide
import HandS.WideBits
import HandS.Defaults
import HandS.MakeKwOnly
import HandS.MakeKw
import HandS.Star
import HandS.IsInst
import HandS.Steps
import HandS.Walk
import HandS.Conv
import HandS.NoneIn
import HandS.Exc
import HandS.ExcOwn
import HandS.ExcInit
import HandS.ExcField
import HandS.CallSlots
import HandS.TryOnly
import HandS.TryMany
import HandS.WordsExc
import HandS.ExcIs
import HandS.Property
import HandS.TupAny
import PySem.Challenge.RW_baseclash_k87_kept_texts
set_option Elab.async false
set_option maxRecDepth 100000
set_option linter.all false
/-! Steps of the readings, one lemma a head; heaps that keep what they hold but for one place; relations by name. -/
namespace Bc
open PySem PySem.Spec PyProof.Rows L2

/-! ### relations by name -/
section
variable {X : Cx}
def rLen (K : PySem.W.Frag) : List V → Hp → VK → Prop := fun xs H Q => ∃ p ys, xs = [.ref p] ∧ (SqL K H p ys ∨ SqT K H p ys) ∧ Q (.int ys.length) H
theorem cLen : CallR X (.builtin "len") (rLen X.K) := call_len_seq
def rLenS : List V → Hp → VK → Prop := fun xs H Q => ∃ x, xs = [.str x] ∧ x.length ≤ sizeLine ∧ Q (.int x.length) H
theorem cLenS : CallR X (.builtin "len") rLenS := call_len_str
def rAbs : List V → Hp → VK → Prop := fun xs H Q => ∃ i, xs = [.int i] ∧ Q (.int (if i < 0 then -i else i)) H
theorem cAbs : CallR X (.builtin "abs") rAbs := call_abs
def rMax2 : List V → Hp → VK → Prop := fun xs H Q => ∃ i j, xs = [.int i, .int j] ∧ Q (.int (if j > i then j else i)) H
theorem cMax2 (hc : X.calm = true) : CallR X (.builtin "max") rMax2 := call_max2 hc
def rMin2 : List V → Hp → VK → Prop := fun xs H Q => ∃ i j, xs = [.int i, .int j] ∧ Q (.int (if j < i then j else i)) H
theorem cMin2 (hc : X.calm = true) : CallR X (.builtin "min") rMin2 := call_min2 hc
def rInt1 : List V → Hp → VK → Prop := fun xs H Q => (∃ i, xs = [.int i] ∧ Q (.int i) H) ∨ ∃ k, xs = [.bl k] ∧ Q (.int (if k then 1 else 0)) H
theorem cInt1 : CallR X (.type "int") rInt1 := call_int1
def rOrd : List V → Hp → VK → Prop := fun xs H Q => ∃ x, xs = [.str x] ∧ x.length = 1 ∧ Q (.int (x.cps.getD 0 0 : Nat)) H
theorem cOrd : CallR X (.builtin "ord") rOrd := call_ord
def rListOf (K : PySem.W.Frag) : List V → Hp → VK → Prop := fun xs H Q => ∃ p ys, xs = [.ref p] ∧ (SqL K H p ys ∨ SqT K H p ys) ∧ ∀ l, H l = none → Q (.ref l) (upd H l (.lst ys))
theorem cListOf : CallR X (.type "list") (rListOf X.K) := call_list_of
def rTupOf (K : PySem.W.Frag) : List V → Hp → VK → Prop := fun xs H Q => ∃ p ys, xs = [.ref p] ∧ ((SqL K H p ys ∧ ∀ l, H l = none → Q (.ref l) (upd H l (.tup ys))) ∨ (SqT K H p ys ∧ Q (.ref p) H))
theorem cTupOf : CallR X (.type "tuple") (rTupOf X.K) := call_tuple_of
def rLeS : R2 := fun x y H Q => ∃ i j, x = .str i ∧ y = .str j ∧ Q (.bl (!decide (j.cps.toList < i.cps.toList))) H
theorem oLeS : OpR X (compareOp .LtE) rLeS := op_le_str
def CPowW (i j : Int) : Prop := 0 ≤ j ∧ (Builtin.Int.intBits i : Int) * j ≤ 2 ^ 27
theorem oPowW : OpR X (binaryOp .Pow) (rI CPowW fun i j => .int (i ^ j.toNat)) := opI fun _ _ _ _ _ _ _ hc q => PyProof.Rows.pow_int hc.1 hc.2 q
end

/-! ### steps -/
section
variable {σ : L2.St} {H : Hp} {D : Ends} {Q : VK} {QT : Bool → Hp → Prop} {QA : List V → Hp → Prop} {K : PySem.W.Frag} {te ta tb tc : TE} {t u : TS} {tt tu : TT} {as : TA} {i j : Nat} {v x y : V} {a b n m : Int}

/-- a continuation kept apart -/
def atV (Q : VK) (v : V) (H : Hp) : Prop := Q v H
theorem w_atV (q : Q v H) : atV Q v H := q
theorem w_var (h : σ[i]? = some (some v)) (q : Q v H) : tVar i σ H Q := ⟨v, h, q⟩
theorem w_c (q : Q v H) : tC v σ H Q := q
theorem w_op {r : R2} (q : ta σ H fun x H1 => tb σ H1 fun y H2 => r x y H2 Q) : tOp r ta tb σ H Q := q
theorem w_un {r : V → Hp → VK → Prop} (q : ta σ H fun x H1 => r x H1 Q) : tUn r ta σ H Q := q
theorem w_cb {r : List V → Hp → VK → Prop} (q : as σ H fun vs H1 => r vs H1 Q) : tCB r as σ H Q := q
theorem w_cons {tr : TA} (q : ta σ H fun x H1 => tr σ H1 fun xs H2 => QA (x :: xs) H2) : tCons ta tr σ H QA := q
theorem w_nil (q : QA [] H) : tNil σ H QA := q
theorem w_seq (q : t { D with nx := u D } σ H) : tSeq t u D σ H := q
theorem w_set (q : te σ H fun x H1 => D.nx (σ.set i (some x)) H1) : tAsg te (gName i) D σ H := q
theorem w_asg {g : TG} (q : te σ H fun x H1 => g x σ H1 D.nx) : tAsg te g D σ H := q
theorem w_name {Qs : L2.St → Hp → Prop} (q : Qs (σ.set i (some v)) H) : gName i v σ H Qs := q
theorem w_par (q : as σ H fun vs H1 => ∃ v w, vs = [v, w] ∧ D.nx ((σ.set i (some v)).set j (some w)) H1) : tPar i j as D σ H := q
theorem w_par2 {p q : V} {P : V → V → Prop} (h : P p q) : ∃ v w, [p, q] = [v, w] ∧ P v w := ⟨p, q, rfl, h⟩
theorem w_aug {ti : TIp} (h : σ[i]? = some (some v)) (q : te σ H fun y H1 => ti v y H1 fun z H2 => D.nx (σ.set i (some z)) H2) : tAug i te ti D σ H := ⟨v, h, q⟩
theorem w_ipI {f : Int → Int → Int} (q : Q (.int (f a b)) H) : ipI f (.int a) (.int b) H Q := ⟨a, b, rfl, rfl, q⟩
theorem w_drop (q : te σ H fun _ H1 => D.nx σ H1) : tDrop te D σ H := q
theorem w_ret (q : te σ H D.rt) : tRet te D σ H := q
theorem w_retN (q : D.rt .non H) : tRetN D σ H := q
theorem w_next (q : D.nx σ H) : tNext D σ H := q
theorem w_if {c : TT} (q : c σ H fun b H1 => if b = true then t D σ H1 else u D σ H1) : tIfS c t u D σ H := q
theorem w_test (q : te σ H fun x H' => ∃ k, x = .bl k ∧ QT k H') : tTest te σ H QT := q
theorem w_tB (q : te σ H fun x H' => ∃ k, x = .bl k ∧ QT k H') : tB te σ H QT := q
theorem w_bl {k : Bool} {P : Bool → Prop} (q : P k) : ∃ c, V.bl k = .bl c ∧ P c := ⟨k, rfl, q⟩
theorem w_and (q : tt σ H fun c H1 => if c = true then tu σ H1 QT else QT false H1) : tAnd tt tu σ H QT := q
theorem w_or (q : tt σ H fun c H1 => if c = true then QT true H1 else tu σ H1 QT) : tOr tt tu σ H QT := q
theorem w_not (q : tt σ H fun c H1 => QT (!c) H1) : tNot tt σ H QT := q
theorem w_andV (q : ta σ H fun x H1 => ∃ c, x = .bl c ∧ if c = true then tb σ H1 Q else Q (.bl false) H1) : tAndV ta tb σ H Q := q
theorem w_orV (q : ta σ H fun x H1 => ∃ c, x = .bl c ∧ if c = true then Q (.bl true) H1 else tb σ H1 Q) : tOrV ta tb σ H Q := q
theorem w_notV (q : ta σ H fun x H1 => ∃ c, x = .bl c ∧ Q (.bl (!c)) H1) : tNotV ta σ H Q := q
theorem w_ifE (q : tt σ H fun c H1 => if c = true then ta σ H1 Q else tb σ H1 Q) : tIf tt ta tb σ H Q := q
theorem w_tup (q : as σ H fun xs H1 => xs.length ≤ sizeLine ∧ ∀ p, H1 p = none → atV Q (.ref p) (upd H1 p (.tup xs))) : tTup as σ H Q := q
theorem w_lst (q : as σ H fun xs H1 => xs.length ≤ sizeLine ∧ ∀ p, H1 p = none → atV Q (.ref p) (upd H1 p (.lst xs))) : tLst as σ H Q := q
theorem w_call {sp : Sp} {dvs : List V} {E : XK} (q : as σ H fun vs H1 => sp (vs ++ dvs) H1 Q E) : tCall sp dvs E as σ H Q := q
theorem w_yes (q : QT true H) : tYes σ H QT := q
theorem w_chain {r r' : R2} (q : ta σ H fun x H1 => tb σ H1 fun y H2 => r x y H2 fun z H3 => ∃ k, z = .bl k ∧ (if k = true then tc σ H3 fun w' H4 => r' y w' H4 Q else Q (.bl false) H3)) : tChain r r' ta tb tc σ H Q := q
theorem w_I0 {g : Int → Int → V} (q : Q (g a b) H) : rI0 g (.int a) (.int b) H Q := ⟨a, b, rfl, rfl, q⟩
theorem w_I {C : Int → Int → Prop} {g : Int → Int → V} (c : C a b) (q : Q (g a b) H) : rI C g (.int a) (.int b) H Q := ⟨a, b, rfl, rfl, c, q⟩
theorem w_U {g : Int → V} (q : Q (g a) H) : rU g (.int a) H Q := ⟨a, rfl, q⟩
theorem w_eq (h : scal x y = true) (q : Q (.bl (decide (x = y))) H) : rEq x y H Q := ⟨h, q⟩
theorem w_ne (h : scal x y = true) (q : Q (.bl (!decide (x = y))) H) : rNe x y H Q := ⟨h, q⟩
theorem w_ixL {p : Addr} {xs : List V} (h : SqL K H p xs) (e : atI xs a = some v) (q : Q v H) : rIxL K (.ref p) (.int a) H Q := ⟨p, xs, a, v, rfl, rfl, h, e, q⟩
theorem w_ixT {p : Addr} {xs : List V} (h : SqT K H p xs) (e : atI xs a = some v) (q : Q v H) : rIxT K (.ref p) (.int a) H Q := ⟨p, xs, a, v, rfl, rfl, h, e, q⟩
theorem w_ixS {z : Str} {c : Nat} (h : z.length ≤ sizeLine) (e : atI z.cps.toList a = some c) (q : Q (.str ⟨#[c]⟩) H) : rIxS (.str z) (.int a) H Q := ⟨z, a, c, rfl, rfl, h, e, q⟩
theorem w_len {p : Addr} {xs : List V} (h : SqL K H p xs) (q : Q (.int xs.length) H) : rLen K [.ref p] H Q := ⟨p, xs, rfl, .inl h, q⟩
theorem w_lenT {p : Addr} {xs : List V} (h : SqT K H p xs) (q : Q (.int xs.length) H) : rLen K [.ref p] H Q := ⟨p, xs, rfl, .inr h, q⟩
theorem w_lenS {z : Str} (h : z.length ≤ sizeLine) (q : Q (.int z.length) H) : rLenS [.str z] H Q := ⟨z, rfl, h, q⟩
theorem w_abs (q : Q (.int (if a < 0 then -a else a)) H) : rAbs [.int a] H Q := ⟨a, rfl, q⟩
theorem w_max2 (q : Q (.int (if b > a then b else a)) H) : rMax2 [.int a, .int b] H Q := ⟨a, b, rfl, q⟩
theorem w_min2 (q : Q (.int (if b < a then b else a)) H) : rMin2 [.int a, .int b] H Q := ⟨a, b, rfl, q⟩
theorem w_int1 (q : Q (.int a) H) : rInt1 [.int a] H Q := .inl ⟨a, rfl, q⟩
theorem w_int1b {k : Bool} (q : Q (.int (if k then 1 else 0)) H) : rInt1 [.bl k] H Q := .inr ⟨k, rfl, q⟩
theorem w_listL {p : Addr} {xs : List V} (h : SqL K H p xs) (q : ∀ l, H l = none → atV Q (.ref l) (upd H l (.lst xs))) : rListOf K [.ref p] H Q := ⟨p, xs, rfl, .inl h, q⟩
theorem w_listT {p : Addr} {xs : List V} (h : SqT K H p xs) (q : ∀ l, H l = none → atV Q (.ref l) (upd H l (.lst xs))) : rListOf K [.ref p] H Q := ⟨p, xs, rfl, .inr h, q⟩
theorem w_tupL {p : Addr} {xs : List V} (h : SqL K H p xs) (q : ∀ l, H l = none → atV Q (.ref l) (upd H l (.tup xs))) : rTupOf K [.ref p] H Q := ⟨p, xs, rfl, .inl ⟨h, q⟩⟩
theorem w_tupT {p : Addr} {xs : List V} (h : SqT K H p xs) (q : Q (.ref p) H) : rTupOf K [.ref p] H Q := ⟨p, xs, rfl, .inr ⟨h, q⟩⟩
theorem w_setL {p : Addr} {xs : List V} {Qs : Hp → Prop} (h : H p = some (.lst xs)) (e : ixN xs.length a = some j) (q : Qs (upd H p (.lst (xs.set j v)))) : rSetL (.ref p) (.int a) v H Qs := ⟨p, xs, a, j, rfl, rfl, h, e, q⟩
theorem w_gsub {to ti : TE} {ts : TSet} {Qs : L2.St → Hp → Prop} (q : to σ H fun o H1 => ti σ H1 fun i H2 => ts o i v H2 fun H3 => Qs σ H3) : gSub to ti ts v σ H Qs := q
theorem w_bm {T : String} {r : V → List V → Hp → VK → Prop} (q : ta σ H fun x H1 => tyV K T x H1 ∧ as σ H1 fun xs H2 => r x xs H2 Q) : tBM K T r ta as σ H Q := q
theorem w_bm0 {T : String} {r : V → List V → Hp → VK → Prop} (q : ta σ H fun x H1 => tyV K T x H1 ∧ r x [] H1 Q) : tBM0 K T r ta σ H Q := q
theorem w_append {p : Addr} {xs : List V} (h : H p = some (.lst xs)) (l : xs.length < sizeLine) (q : Q .non (upd H p (.lst (xs ++ [v])))) : rAppend (.ref p) [v] H Q := ⟨p, xs, v, rfl, rfl, h, l, q⟩
theorem w_cat {p r : Addr} {xs ys : List V} (h : H p = some (.lst xs)) (h2 : H r = some (.lst ys)) (l : xs.length + ys.length ≤ sizeLine) (q : ∀ p, H p = none → atV Q (.ref p) (upd H p (.lst (xs ++ ys)))) : rCat (.ref p) (.ref r) H Q := ⟨p, r, xs, ys, rfl, rfl, h, h2, l, q⟩
theorem w_fld {f : Str} (q : ta σ H fun x H1 => ∃ a C dx fs v, x = .ref a ∧ H1 a = some (.ins C dx fs) ∧ Cls K C ∧ NoAttr K C f ∧ fs.lookup f = some v ∧ Q v H1) : tFld K ta f σ H Q := q
theorem w_sl {r : V → Option Int → Option Int → Hp → VK → Prop} {tl th : TO} (q : te σ H fun x H1 => tl σ H1 fun l H2 => th σ H2 fun u H3 => r x l u H3 Q) : tSl r te tl th σ H Q := q
theorem w_slL {p : Addr} {xs : List V} {lo hi : Option Int} (h : SqL K H p xs) (q : ∀ p, H p = none → atV Q (.ref p) (upd H p (.lst (cutV xs lo hi)))) : rSlL K (.ref p) lo hi H Q := ⟨p, xs, rfl, h, q⟩
theorem w_noPart {Qo : Option Int → Hp → Prop} (q : Qo none H) : tNoPart σ H Qo := q
theorem w_part {Qo : Option Int → Hp → Prop} (q : te σ H fun x H1 => ∃ i, x = .int i ∧ Qo (some i) H1) : tPart te σ H Qo := q
theorem w_isI {P : Int → Prop} (q : P a) : ∃ i, V.int a = .int i ∧ P i := ⟨a, rfl, q⟩
theorem w_revL {K : PySem.W.Frag} (q : te σ H fun x H1 => ∃ a xs, x = .ref a ∧ SqL K H1 a xs ∧ ∀ p, H1 p = none → atV Q (.ref p) (upd H1 p (.lst xs.reverse))) : tRevL K te σ H Q := q
theorem w_isN (q : Q (.bl (decide (x = .non))) H) : rIsN x .non H Q := ⟨rfl, q⟩
theorem w_notN (q : Q (.bl (!decide (x = .non))) H) : rNotN x .non H Q := ⟨rfl, q⟩
theorem w_bits (q : te σ H fun x H1 => ∃ i, x = .int i ∧ Q (.int (Builtin.Int.intBits i : Nat)) H1) : tBits te σ H Q := q
theorem w_gtup {K : PySem.W.Frag} {tg : TGs} {p : Addr} {xs : List V} {k : Nat} {Qs : L2.St → Hp → Prop} (h : SqT K H p xs) (l : xs.length = k) (q : tg xs σ H Qs) : gTup K k tg (.ref p) σ H Qs := ⟨p, xs, rfl, h, l, q⟩
theorem w_gcons {tg : TG} {tr : TGs} {xs : List V} {Qs : L2.St → Hp → Prop} (q : tg v σ H fun σ' H' => tr xs σ' H' Qs) : gCons tg tr (v :: xs) σ H Qs := ⟨v, xs, rfl, q⟩
theorem w_gnil {Qs : L2.St → Hp → Prop} (q : Qs σ H) : gNil [] σ H Qs := ⟨rfl, q⟩
theorem w_for {wi : TI} {g : TG} {tb : TS} (q : wi σ H fun J H1 => ∃ W : Nat → Nat → L2.St → Hp → Prop, (∃ m, W 0 m σ H1) ∧ ∀ i m σ H, W i m σ H →
      (J.stop i H ∧ D.nx σ H) ∨ (J.go i H ∧ ∃ N : L2.St → Hp → Prop, (∀ σ' H', N σ' H' → ∃ m', m' < m ∧ W (i + 1) m' σ' H') ∧ ∀ x H', J.yld i H x H' → g x σ H' fun σ2 H2 => tb { D with nx := N, ct := N, bk := D.nx } σ2 H2)) : tFor wi g tb D σ H := q
theorem w_rng1 {R : It → Hp → Prop} (q : as σ H fun vs H1 => ∃ j : Int, vs = [.int j] ∧ -(2 ^ 62) ≤ j ∧ j < 2 ^ 62 ∧ R (Itr 0 j.toNat) H1) : iRng1 as σ H R := q
theorem w_rng1i {P : Int → Prop} (h0 : -(2 ^ 62) ≤ n) (h1 : n < 2 ^ 62) (q : P n) : ∃ j : Int, [V.int n] = [.int j] ∧ -(2 ^ 62) ≤ j ∧ j < 2 ^ 62 ∧ P j := ⟨n, rfl, h0, h1, q⟩
theorem w_rng2 {R : It → Hp → Prop} (q : as σ H fun vs H1 => ∃ i j : Int, vs = [.int i, .int j] ∧ (-(2 ^ 62) ≤ i ∧ i < 2 ^ 62 ∧ -(2 ^ 62) ≤ j ∧ j < 2 ^ 62) ∧ R (Itr i (j - i).toNat) H1) : iRng2 as σ H R := q
theorem w_rng2i {P : Int → Int → Prop} (h0 : -(2 ^ 62) ≤ n ∧ n < 2 ^ 62 ∧ -(2 ^ 62) ≤ m ∧ m < 2 ^ 62) (q : P n m) : ∃ i j : Int, [V.int n, V.int m] = [.int i, .int j] ∧ (-(2 ^ 62) ≤ i ∧ i < 2 ^ 62 ∧ -(2 ^ 62) ≤ j ∧ j < 2 ^ 62) ∧ P i j := ⟨n, m, rfl, h0, q⟩
theorem w_andsz {xs : List V} {P : Prop} (h : Nat.ble xs.length 100000 = true) (q : P) : xs.length ≤ sizeLine ∧ P := ⟨Nat.le_trans (Nat.le_of_ble_eq_true h) (by decide), q⟩
theorem w_iList {R : It → Hp → Prop} (q : te σ H fun x H1 => ∃ a, x = .ref a ∧ (∃ xs, SqL K H1 a xs) ∧ R (Itl K a) H1) : iList K te σ H R := q
theorem w_iTup {R : It → Hp → Prop} (q : te σ H fun x H1 => ∃ a, x = .ref a ∧ (∃ xs, SqT K H1 a xs) ∧ R (Itt K a) H1) : iTup K te σ H R := q
theorem w_iAt {p : Addr} {P : Addr → Prop} (q : P p) : ∃ a, V.ref p = .ref a ∧ P a := ⟨p, rfl, q⟩
end
theorem w_lc {wi : TI} {g : TG} {tt : TT} {te : TE} {vs : List Nat} {σ : L2.St} {H : Hp} {Q : VK} (q : wi σ H fun J H1 => ∀ D, H1 D = none → ∃ W : Nat → Nat → Hp → Prop, (∃ m, W 0 m (upd H1 D (.lst []))) ∧ ∀ i m H, W i m H →
  (J.stop i H ∧ Q (.ref D) H) ∨ (J.go i H ∧ ∃ Nx : Hp → Prop, (∀ H', Nx H' → ∃ m', m' < m ∧ W (i + 1) m' H') ∧ ∀ x H', J.yld i H x H' → g x (wipe σ vs) H' fun σ2 H2 => wipe σ2 vs = wipe σ vs ∧ tt σ2 H2 fun b H3 =>
    if b = true then te σ2 H3 fun y H4 => ∃ acc, H4 D = some (.lst acc) ∧ acc.length < sizeLine ∧ Nx (upd H4 D (.lst (acc ++ [y]))) else Nx H3)) : tLc wi g tt te vs σ H Q := q
theorem w_iStr {te : TE} {σ : L2.St} {H : Hp} {R : It → Hp → Prop} (q : te σ H fun v H1 => ∃ x, v = .str x ∧ R (Its x) H1) : iStr te σ H R := q
theorem w_isS {z : Str} {P : Str → Prop} (q : P z) : ∃ x, V.str z = .str x ∧ P x := ⟨z, rfl, q⟩
theorem w_iL {K : PySem.W.Frag} {H : Hp} {a : Addr} {xs : List V} {P : Prop} (h : SqL K H a xs) (q : P) : (∃ xs, SqL K H a xs) ∧ P := ⟨⟨xs, h⟩, q⟩
theorem w_iT {K : PySem.W.Frag} {H : Hp} {a : Addr} {xs : List V} {P : Prop} (h : SqT K H a xs) (q : P) : (∃ xs, SqT K H a xs) ∧ P := ⟨⟨xs, h⟩, q⟩
theorem w_leS {x y : Str} {H : Hp} {Q : VK} (q : Q (.bl (!decide (y.cps.toList < x.cps.toList))) H) : rLeS (.str x) (.str y) H Q := ⟨x, y, rfl, rfl, q⟩
theorem w_all {K : PySem.W.Frag} {H : Hp} {Q : VK} {a : Addr} {bs : List Bool} (h : SqL K H a (bs.map V.bl)) (q : Q (.bl (bs.all id)) H) : rAll K [.ref a] H Q := ⟨a, bs, rfl, h, q⟩
theorem w_ord {H : Hp} {Q : VK} {c : Nat} (q : Q (.int (c : Int)) H) : rOrd [.str ⟨#[c]⟩] H Q := ⟨_, rfl, rfl, q⟩
theorem w_nx {N : L2.St → Hp → Prop} {rt : VK} {bk ct : L2.St → Hp → Prop} {σ : L2.St} {H : Hp} (q : N σ H) : Ends.nx ⟨N, rt, bk, ct⟩ σ H := q
theorem w_rt {N : L2.St → Hp → Prop} {rt : VK} {bk ct : L2.St → Hp → Prop} {v : V} {H : Hp} (q : rt v H) : Ends.rt ⟨N, rt, bk, ct⟩ v H := q
theorem w_ct {N : L2.St → Hp → Prop} {rt : VK} {bk ct : L2.St → Hp → Prop} {σ : L2.St} {H : Hp} (q : ct σ H) : Ends.ct ⟨N, rt, bk, ct⟩ σ H := q
theorem w_bk {N : L2.St → Hp → Prop} {rt : VK} {bk ct : L2.St → Hp → Prop} {σ : L2.St} {H : Hp} (q : bk σ H) : Ends.bk ⟨N, rt, bk, ct⟩ σ H := q
theorem atI0 {v : V} {xs : List V} : atI (v :: xs) 0 = some v := atI_nat (j := 0) rfl
theorem sq {K : PySem.W.Frag} {H : Hp} {a : Addr} {xs : List V} (h : H a = some (.lst xs)) : SqL K H a xs := .inl (.inl h)
theorem sqt {K : PySem.W.Frag} {H : Hp} {a : Addr} {xs : List V} (h : H a = some (.tup xs)) : SqT K H a xs := .inl (.inl h)
theorem upd_new {H : Hp} {p q : Addr} {o u : HO} (n : H p = none) (h : H q = some u) : upd H p o q = some u := (upd_ne (ne_of_none h n)).trans h
theorem ite_d {p : Prop} [Decidable p] {A B : Prop} (h1 : p → A) (h2 : ¬ p → B) : if decide p = true then A else B := by
  by_cases h : p
  · rw [if_pos (decide_eq_true h)]; exact h1 h
  · rw [if_neg (by rw [decide_eq_false h]; decide)]; exact h2 h
theorem ite_nd {p : Prop} [Decidable p] {A B : Prop} (h1 : ¬ p → A) (h2 : p → B) : if (!decide p) = true then A else B := by
  by_cases h : p
  · rw [if_neg (by rw [decide_eq_true h]; decide)]; exact h2 h
  · rw [if_pos (by rw [decide_eq_false h]; rfl)]; exact h1 h
theorem wmul {i j : Int} {a b : Nat} (ha : i.natAbs < 2 ^ a) (hb : j.natAbs < 2 ^ b) (h : a + b ≤ 900000) : CMulW i j :=
  wide_mul (a := a + 1) (b := b + 1) (Nat.lt_trans ha (Nat.pow_lt_pow_right (by decide) (Nat.lt_succ_self _))) (Nat.lt_trans hb (Nat.pow_lt_pow_right (by decide) (Nat.lt_succ_self _))) (Nat.succ_pos _) (Nat.succ_pos _) (by omega)
theorem wdiv {i j : Int} {b : Nat} (h : 0 < j) (hb : j.natAbs < 2 ^ b) (h9 : b ≤ 8000) : CDivW i j :=
  wide_div (b := b + 1) h (Nat.lt_trans hb (Nat.pow_lt_pow_right (by decide) (Nat.lt_succ_self _))) (Nat.succ_pos _) (by omega)

/-- products: one side small, or both of bounded bits -/
def CMx (i j : Int) : Prop := CMul i j ∨ CMulW i j
theorem oMul {X : Cx} : OpR X (binaryOp .Mult) (rI CMx fun i j => .int (i * j)) := opI fun _ _ _ _ _ _ _ hc q => hc.elim (fun h => mul_int q h.ok) (fun h => mul_int q h.ok)
theorem mx_l {i j : Int} (h : -(2 ^ 64) < i ∧ i < 2 ^ 64) : CMx i j := .inl (.inl h)
theorem mx_r {i j : Int} (h : -(2 ^ 64) < j ∧ j < 2 ^ 64) : CMx i j := .inl (.inr h)
theorem mx_w {i j : Int} {a b : Nat} (ha : i.natAbs < 2 ^ a) (hb : j.natAbs < 2 ^ b) (h : a + b ≤ 900000) : CMx i j := .inr (wmul ha hb h)
theorem wdiv60 {i j : Int} (h : 0 < j) (hb : j < 2 ^ 60) : CDivW i j := wdiv (b := 60) h (by omega) (by decide)

/-! ### names that are still the built-ins -/
structure Bt (mg : Str → Option Value) : Prop where
  len : mg "len" = none
  int : mg "int" = none
  abs : mg "abs" = none
  max : mg "max" = none
  min : mg "min" = none
  range : mg "range" = none
  isinstance : mg "isinstance" = none
  list : mg "list" = none
  tuple : mg "tuple" = none
  str : mg "str" = none
  bool : mg "bool" = none
  ord : mg "ord" = none
  all : mg "all" = none
  enumerate : mg "enumerate" = none
  zip : mg "zip" = none

/-! ### the purse -/
/-- a list of three ints at a: what is left of a great number, a seed, a count up to c -/
def Purse (H : Hp) (a : Addr) (c : Int) : Prop := ∃ x y z : Int, H a = some (.lst [.int x, .int y, .int z]) ∧ 0 ≤ x ∧ x < 2 ^ 1600 ∧ 0 ≤ y ∧ y < 2 ^ 31 ∧ 0 ≤ z ∧ z ≤ c
/-- all but what stands at a is kept -/
def Keep (a : Addr) (H H' : Hp) : Prop := ∀ b o, b ≠ a → H b = some o → H' b = some o
theorem Keep.refl {a : Addr} {H : Hp} : Keep a H H := fun _ _ _ h => h
theorem Keep.trans {a : Addr} {H H1 H2 : Hp} (k : Keep a H H1) (l : Keep a H1 H2) : Keep a H H2 := fun b o n h => l b o n (k b o n h)
theorem Keep.of {a : Addr} {H H' : Hp} (s : Same H H') : Keep a H H' := fun b o _ h => s b o h
theorem Keep.at_ {a b : Addr} {o : HO} {H H' : Hp} (k : Keep a H H') (n : b ≠ a) (h : H b = some o) : H' b = some o := k b o n h
theorem Same.new {H : Hp} {p : Addr} {o : HO} (n : H p = none) : Same H (upd H p o) := fun b u h => upd_new n h
theorem Purse.same {H H' : Hp} {a : Addr} {c : Int} (p : Purse H a c) (s : Same H H') : Purse H' a c := by
  obtain ⟨x, y, z, h, r⟩ := p
  exact ⟨x, y, z, s _ _ h, r⟩
theorem Purse.le {H : Hp} {a : Addr} {c d : Int} (p : Purse H a c) (h : c ≤ d) : Purse H a d := by
  obtain ⟨x, y, z, h0, h1, h2, h3, h4, h5, h6⟩ := p
  exact ⟨x, y, z, h0, h1, h2, h3, h4, h5, by omega⟩

/-! ### defs of the text by name -/
section
variable {P : Program} {w : World} {K : PySem.W.Frag} {mg : Str → Option Value} {base : Heap}
/-- a def of the module without defaults -/
structure Dn (K : PySem.W.Frag) (mg : Str → Option Value) (x : Str) (st : Stmt) (ps : List Str) : Prop where
  ex : ∃ (f : Addr) (fd : FuncData), L2.Fun K x x st f fd ∧ mg x = some (.ref f) ∧ Binds K fd ps []
theorem Dn.cal {x : Str} {st : Stmt} {N ps : List Str} {k : Nat} {sp : Sp} (F : Dn K mg x st ps) (S : FnScope N ps (defScope st)) (len : ∀ vs H Q E, sp vs H Q E → vs.length = ps.length)
    (hbody : ∀ (f : Addr) (cdv : Value) (A : Around) (outer : List Env) (s : Shared) (H : Hp) (vs : List V) (Q : VK) (E : XK), Room k (A.deeper (envOfC x (defScope st) s.heap.objs.size f cdv)) → sp vs H Q E →
      ∃ t, PSs (cxOf CX0 P w K mg base N x (defScope st) f cdv A outer s H E).nox (defBody st) t ∧ t { nx := fun _ H' => Q .non H', rt := Q } (start N vs) H) : C8.Cal P w K mg base (k + 1) x sp [] := by
  obtain ⟨f, fd, F1, m, b⟩ := F.ex
  exact ⟨f, fd, ps, [], F1.ok S len (fun cdv A outer s H vs Q E hr h => hbody f cdv A outer s H vs Q E hr h), m, F1.kp, b, .nil⟩
end

theorem atI_ints {ns : List Int} {i : Int} (h0 : 0 ≤ i) (h1 : i < (ns.map V.int).length) : atI (ns.map V.int) i = some (.int (ns.getD i.toNat 0)) := by
  obtain ⟨j, rfl⟩ := Int.eq_ofNat_of_zero_le h0
  rw [List.length_map] at h1
  have h2 : j < ns.length := by omega
  refine atI_nat ?_
  rw [List.getElem?_map, List.getElem?_eq_getElem h2]
  simp [List.getD, h2]
theorem atI_get {xs : List V} {i : Int} {v : V} (h0 : 0 ≤ i) (h : xs[i.toNat]? = some v) : atI xs i = some v := by
  obtain ⟨j, rfl⟩ := Int.eq_ofNat_of_zero_le h0
  exact atI_nat h
theorem Keep.upd {a : Addr} {H H' : Hp} {o : HO} (k : Keep a H H') : Keep a H (upd H' a o) := fun b u n h => by rw [upd_ne n]; exact k b u n h
/-! ### loops -/
section
variable {c : TT} {tb : TS} {D : Ends} {σ : L2.St} {H : Hp}
theorem while_go (Pv : L2.St → Hp → Prop) (μ : L2.St → Hp → Nat) (h0 : Pv σ H) (hs : ∀ σ H, Pv σ H → c σ H fun b H1 => if b = true then (∃ N : L2.St → Hp → Prop, (∀ σ' H', N σ' H' → ∃ m', m' < μ σ H ∧ (m' = μ σ' H' ∧ Pv σ' H')) ∧
      tb { D with nx := N, ct := N, bk := D.nx } σ H1) else D.nx σ H1) : tWhile c tb D σ H := ⟨fun m σ H => m = μ σ H ∧ Pv σ H, ⟨_, rfl, h0⟩, fun m σ H h => by
  obtain ⟨e, p⟩ := h
  subst e
  exact hs σ H p⟩
theorem while_n {Pv : L2.St → Hp → Prop} {μ : L2.St → Hp → Nat} {k : Nat} (q : tb { D with nx := fun σ' H' => μ σ' H' < k ∧ Pv σ' H', ct := fun σ' H' => μ σ' H' < k ∧ Pv σ' H', bk := D.nx } σ H) :
    ∃ N : L2.St → Hp → Prop, (∀ σ' H', N σ' H' → ∃ m', m' < k ∧ (m' = μ σ' H' ∧ Pv σ' H')) ∧ tb { D with nx := N, ct := N, bk := D.nx } σ H := ⟨_, fun _ _ h => ⟨_, h.1, rfl, h.2⟩, q⟩
end
/-! ### isinstance -/
theorem w_isi {K : PySem.W.Frag} {H : Hp} {Q : VK} {x : V} {t : Value} {n : String} {b : Bool} (ty : TyX K H x t) (k : PySem.W.kitOne K t (.type n) = some b) (q : Q (.bl b) H) : rIsi K [x, .ty n] H Q := ⟨x, .ty n, t, .type n, b, rfl, .ty n, ty, k, q⟩
theorem w_isiC {K : PySem.W.Frag} {H : Hp} {Q : VK} {x : V} {t : Value} {C : Addr} {b : Bool} (ty : TyX K H x t) (k : PySem.W.kitOne K t (.ref C) = some b) (q : Q (.bl b) H) : rIsi K [x, .ref C] H Q := ⟨x, .ref C, t, .ref C, b, rfl, .own C, ty, k, q⟩
theorem w_isi2 {K : PySem.W.Frag} {H : Hp} {Q : VK} {x : V} {t : Value} {m n : String} {p : Addr} {b : Bool} (h : H p = some (.tup [.ty m, .ty n])) (ty : TyX K H x t) (k : PySem.W.kitAny K t [.type m, .type n] = some b) (q : Q (.bl b) H) : rIsiT K [x, .ref p] H Q :=
  ⟨x, p, _, t, _, b, rfl, h, .cons (.ty m) (.cons (.ty n) .nil), ty, k, q⟩
theorem ty_int {K : PySem.W.Frag} {H : Hp} (i : Int) : TyX K H (.int i) (.type "int") := .base (.int i)
def spIsInt (K : PySem.W.Frag) : Sp := fun vs H Q _ => ∃ (v : V) (t : Value) (b1 b2 : Bool), vs = [v] ∧ TyX K H v t ∧ PySem.W.kitOne K t (.type "int") = some b1 ∧ PySem.W.kitOne K t (.type "bool") = some b2 ∧ Q (.bl (b1 && !b2)) H
theorem use_isInt {K : PySem.W.Frag} {H : Hp} {Q : VK} {E : XK} {i : Int} (q : Q (.bl true) H) : spIsInt K ([.int i] ++ []) H Q E := ⟨.int i, _, true, false, rfl, ty_int i, kit_ty (by decide +kernel), kit_ty (by decide +kernel), q⟩
/-! ### numbers -/
def spRaised : Sp := fun vs H Q _ => ∃ (f p : Int) (b : Nat), vs = [.int f, .int p] ∧ 0 ≤ p ∧ p < 2 ^ 40 ∧ f.natAbs < 2 ^ b ∧ b * p.toNat + b ≤ 100000 ∧ Q (.int (f ^ p.toNat)) H
def spGcd : Sp := fun vs H Q _ => ∃ a b : Int, vs = [.int a, .int b] ∧ Q (.int (Int.gcd a b)) H
def Pr (n : Int) : Prop := 1 < n ∧ ∀ d : Int, 2 ≤ d → d * d ≤ n → n % d ≠ 0
def spPrime : Sp := fun vs H Q _ => ∃ n : Int, vs = [.int n] ∧ n < 2 ^ 60 ∧ ∀ b : Bool, (b = true ↔ Pr n) → Q (.bl b) H
theorem natAbs_pow_lt {f : Int} {b : Nat} (h : f.natAbs < 2 ^ b) (n : Nat) : (f ^ n).natAbs < 2 ^ (b * n + 1) := by
  rw [Int.natAbs_pow]
  have h1 : f.natAbs ^ n ≤ (2 ^ b) ^ n := Nat.pow_le_pow_left (Nat.le_of_lt h) n
  rw [← Nat.pow_mul] at h1
  exact Nat.lt_of_le_of_lt h1 (Nat.pow_lt_pow_right (by decide) (Nat.lt_succ_self _))
/-! ### comprehensions that leave the heap as it was -/
section
variable {J : It} {G : Hp → Prop} {te : TE} {vs : List Nat} {σ : L2.St} {H : Hp} {D : Addr} {Qd : Hp → Prop} {j : Nat}
theorem lc_pure (xs ys : List V) (w : Walk J xs.length G (YAt xs)) (hD : H D = none) (hG : ∀ H', Same H H' → G H') (hl : ys.length = xs.length) (sz : ys.length ≤ 100000)
    (wp : ∀ v, wipe ((wipe σ vs).set j v) vs = wipe σ vs)
    (step : ∀ (i : Nat) (x y : V) (H' : Hp), xs[i]? = some x → ys[i]? = some y → Same H H' → ∀ Q' : VK, (∀ H'', Same H' H'' → Q' y H'') → te ((wipe σ vs).set j (some x)) H' Q')
    (q : ∀ H', Same H H' → H' D = some (.lst ys) → Qd H') :
    ∃ W : Nat → Nat → Hp → Prop, (∃ m, W 0 m (upd H D (.lst []))) ∧ ∀ i m H, W i m H →
      (J.stop i H ∧ Qd H) ∨ (J.go i H ∧ ∃ Nx : Hp → Prop, (∀ H', Nx H' → ∃ m', m' < m ∧ W (i + 1) m' H') ∧ ∀ x H', J.yld i H x H' → gName j x (wipe σ vs) H' fun σ2 H2 => wipe σ2 vs = wipe σ vs ∧ tYes σ2 H2 fun b H3 =>
        if b = true then te σ2 H3 fun y H4 => ∃ acc, H4 D = some (.lst acc) ∧ acc.length < sizeLine ∧ Nx (upd H4 D (.lst (acc ++ [y]))) else Nx H3) := by
  refine lc_it w (fun i H' => H' D = some (.lst (ys.take i)) ∧ Same H H') ⟨upd_same, Same.new hD⟩ (fun i H' _ h => hG H' h.2) ?_ ?_
  · rintro i x H1 H' hi ⟨h1, h2⟩ ⟨rfl, hx⟩
    refine ⟨wp _, w_yes ?_⟩
    rw [if_pos rfl]
    have hi' : i < ys.length := by omega
    refine step i x ys[i] H' hx (by simp [hi']) h2 _ fun H'' h3 => ?_
    refine ⟨_, h3 _ _ h1, ?_, ?_, ?_⟩
    · rw [List.length_take]
      have : (100000 : Nat) < sizeLine := by decide
      omega
    · rw [upd_same, List.take_succ_eq_append_getElem hi']
    · exact fun b o e => by
        rw [upd_ne (ne_of_none e hD)]
        exact h3 _ _ (h2 _ _ e)
  · rintro H' ⟨h1, h2⟩
    refine q H' h2 ?_
    rw [h1, ← hl, List.take_length]
end
/-! ### a text walked -/
theorem walk_strY {z : Str} : Walk (Its z) (z.cps.toList.map fun c => V.str ⟨#[c]⟩).length (fun _ => True) (YAt (z.cps.toList.map fun c => V.str ⟨#[c]⟩)) := by
  have h := walk_str (z := z)
  have e : (z.cps.toList.map fun c => V.str ⟨#[c]⟩).length = z.cps.size := by simp
  rw [e]
  refine h.mono (fun _ h => h) (fun i H x H' hi _ y => ?_)
  obtain ⟨rfl, c, hc, rfl⟩ := y
  refine ⟨rfl, ?_⟩
  rw [List.getElem?_map, Array.getElem?_toList, hc]
  rfl
/-! ### texts -/
/-- a text's value and its letters -/
inductive TextAt (H : Hp) : V → List Int → Prop where
  | str (z : Str) (h : ∀ c ∈ z.cps.toList, 32 ≤ c ∧ c ≤ 126) (l : z.length ≤ 100000) : TextAt H (.str z) (z.cps.toList.map Int.ofNat)
  | lst (a : Addr) (ls : List Int) (h : H a = some (.lst (ls.map V.int))) (l : ls.length ≤ 100000) : TextAt H (.ref a) ls
  | tup (a : Addr) (ls : List Int) (h : H a = some (.tup (ls.map V.int))) (l : ls.length ≤ 100000) : TextAt H (.ref a) ls
theorem TextAt.same {H H' : Hp} {v : V} {ls : List Int} (t : TextAt H v ls) (s : Same H H') : TextAt H' v ls := by
  cases t with
  | str z h l => exact .str z h l
  | lst a _ h l => exact .lst a _ (s _ _ h) l
  | tup a _ h l => exact .tup a _ (s _ _ h) l
theorem TextAt.len {H : Hp} {v : V} {ls : List Int} (t : TextAt H v ls) : ls.length ≤ 100000 := by
  cases t with
  | str z h l => rw [List.length_map]; exact l
  | lst a _ h l => exact l
  | tup a _ h l => exact l
theorem lt1 {a b : Nat} : (([a] : List Nat) < [b]) ↔ a < b := by simp [List.cons_lt_cons_iff]
theorem sign_lo {c : Nat} (h : 32 ≤ c) : decide ((Str.mk #[c]).cps.toList < (Str.ofString " ").cps.toList) = false := decide_eq_false fun z => by
  have : c < 32 := lt1.mp z
  omega
theorem sign_hi {c : Nat} (h : c ≤ 126) : decide ((Str.ofString "~").cps.toList < (Str.mk #[c]).cps.toList) = false := decide_eq_false fun z => by
  have : 126 < c := lt1.mp z
  omega
theorem all_true {α : Type} (l : List α) : (l.map fun _ => true).all id = true := by
  induction l with
  | nil => rfl
  | cons a r ih => rw [List.map_cons, List.all_cons, ih]; rfl
theorem get_map {α β : Type} {f : α → β} {l : List α} {i : Nat} {y : β} (h : (l.map f)[i]? = some y) : ∃ x, l[i]? = some x ∧ f x = y := by
  rw [List.getElem?_map] at h
  cases e : l[i]? with
  | none => rw [e] at h; cases h
  | some x => rw [e] at h; exact ⟨x, rfl, Option.some.inj h⟩
def spIsText : Sp := fun vs H Q _ => ∃ (v : V) (ls : List Int), vs = [v] ∧ TextAt H v ls ∧ ∀ H', Same H H' → Q (.bl true) H'
def spRead : Sp := fun vs H Q _ => ∃ (v : V) (ls : List Int), vs = [v] ∧ TextAt H v ls ∧ ∀ H' t, Same H H' → H' t = some (.tup (ls.map V.int)) → Q (.ref t) H'
theorem kitA {K : PySem.W.Frag} {t m n : String} {b : Bool} (h : (match kitB t m with | some true => some true | some false => (match kitB t n with | some true => some true | some false => some false | none => none) | none => none) = some b) : PySem.W.kitAny K (.type t) [.type m, .type n] = some b := h
/-! ### moduli, markings, ways -/
def num (ps : List (Int × Int)) : Int := ps.foldl (fun n p => n * p.1 ^ p.2.toNat) 1
def Asc : Int → List (Int × Int) → Prop
  | _, [] => True
  | l, q :: r => l < q.1 ∧ 0 < q.2 ∧ Pr q.1 ∧ Asc q.1 r
def Small (ps : List (Int × Int)) : Prop := (∀ q ∈ ps, 0 < q.1 ∧ q.1 < 1024 ∧ 0 < q.2 ∧ q.2 ≤ 100) ∧ ps.length ≤ 64
theorem num_snoc (ps : List (Int × Int)) (q : Int × Int) : num (ps ++ [q]) = num ps * q.1 ^ q.2.toNat := by
  unfold num
  rw [List.foldl_append]
  rfl
theorem num_take {ps : List (Int × Int)} {i : Nat} {q : Int × Int} (h : ps[i]? = some q) : num (ps.take (i + 1)) = num (ps.take i) * q.1 ^ q.2.toNat := by
  obtain ⟨hi, e⟩ := List.getElem?_eq_some_iff.mp h
  rw [List.take_succ_eq_append_getElem hi, num_snoc, e]
theorem num_bound {ps : List (Int × Int)} (h : Small ps) : ∀ i, i ≤ ps.length → 0 < num (ps.take i) ∧ (num (ps.take i)).natAbs < 2 ^ (1010 * i + 1)
  | 0, _ => by
    rw [List.take_zero]
    exact ⟨by decide, by decide⟩
  | i + 1, hi => by
    have ih := num_bound h i (by omega)
    have hlt : i < ps.length := by omega
    have hq := h.1 ps[i] (List.getElem_mem hlt)
    rw [num_take (q := ps[i]) (by simp [hlt])]
    have h1 : ((ps[i].1) ^ (ps[i].2.toNat)).natAbs < 2 ^ (10 * ps[i].2.toNat + 1) := natAbs_pow_lt (b := 10) (by show ps[i].1.natAbs < 1024; omega) _
    refine ⟨Int.mul_pos ih.1 (Int.pow_pos hq.1), ?_⟩
    have h2 := wide_lt ih.2 h1
    refine Nat.lt_of_lt_of_le h2 (Nat.pow_le_pow_right (by decide) ?_)
    omega
theorem num_pos {ps : List (Int × Int)} (h : Small ps) : 0 < num ps := by
  have := (num_bound h ps.length (Nat.le_refl _)).1
  rwa [List.take_length] at this
theorem num_lt {ps : List (Int × Int)} (h : Small ps) : (num ps).natAbs < 2 ^ 70000 := by
  have := (num_bound h ps.length (Nat.le_refl _)).2
  rw [List.take_length] at this
  refine Nat.lt_of_lt_of_le this (Nat.pow_le_pow_right (by decide) ?_)
  have := h.2
  omega
theorem Asc.at_ : ∀ {l : Int} {ps : List (Int × Int)} {i : Nat} {q : Int × Int}, Asc l ps → ps[i]? = some q → ((ps.take i).getLast?.map (·.1)).getD l < q.1 ∧ 0 < q.2 ∧ Pr q.1
  | l, [], i, q, _, h => by simp at h
  | l, r :: ps, 0, q, a, h => by
    have e : r = q := by simpa using h
    subst e
    exact ⟨a.1, a.2.1, a.2.2.1⟩
  | l, r :: ps, i + 1, q, a, h => by
    have ih := Asc.at_ (i := i) a.2.2.2 (by simpa using h)
    refine ⟨?_, ih.2⟩
    have e := ih.1
    rw [List.take_succ_cons, List.getLast?_cons]
    cases hh : (ps.take i).getLast? with
    | none => rw [hh] at e; exact e
    | some z => rw [hh] at e; exact e
def Tp (H : Hp) (p : Int × Int) (t : Addr) : Prop := H t = some (.tup [.int p.1, .int p.2])
theorem paired_get {α β : Type} {R : α → β → Prop} : ∀ {xs : List α} {ys : List β} {i : Nat} {y : β}, Paired R xs ys → ys[i]? = some y → ∃ x, xs[i]? = some x ∧ R x y
  | _, _, _, _, .nil, h => by simp at h
  | _, _, 0, _, .cons r _, h => by
    have e := Option.some.inj (by simpa using h)
    subst e
    exact ⟨_, rfl, r⟩
  | _, _, i + 1, _, .cons _ t, h => by
    obtain ⟨x, h1, h2⟩ := paired_get (i := i) t (by simpa using h)
    exact ⟨x, by simpa using h1, h2⟩
theorem paired_imp {α β : Type} {R S : α → β → Prop} (h : ∀ x y, R x y → S x y) : ∀ {xs : List α} {ys : List β}, Paired R xs ys → Paired S xs ys
  | _, _, .nil => .nil
  | _, _, .cons r t => .cons (h _ _ r) (paired_imp h t)
theorem lk0 {f : Str} {v : V} {r : List (Str × V)} : List.lookup f ((f, v) :: r) = some v := by simp [List.lookup]
theorem lkS {f g : Str} {u : V} {r : List (Str × V)} (h : f ≠ g) : List.lookup f ((g, u) :: r) = List.lookup f r := by
  rw [List.lookup]
  have e : (f == g) = false := by simpa using h
  rw [e]
theorem putS {f g : Str} {u v : V} {r : List (Str × V)} (h : g ≠ f) : putF f v ((g, u) :: r) = (g, u) :: putF f v r := by
  unfold putF
  rw [if_neg h]
  cases r <;> rfl
theorem put0 {f : Str} {v : V} : putF f v [] = [(f, v)] := rfl
/-- a class whose instances are plain -/
structure ClsF (K : PySem.W.Frag) (C : Addr) : Prop where
  cl : Cls K C
  ha : PySem.W.findIn K (.ref C) "__class__" = some (some (.builtin "object.__class__"))
  hn : PySem.W.specialIn K (.builtin "object.__class__") "__get__" = some (some (.builtin "getset_descriptor.__get__"))
  htk : PySem.W.takesIn K (.builtin "object.__class__") = some true
  hm : PySem.W.mroIn K C (.type "object") = some true
theorem ClsF.ty {K : PySem.W.Frag} {C : Addr} (c : ClsF K C) {H : Hp} {a dx : Addr} {fs : List (Str × V)} (h : H a = some (.ins C dx fs)) : TyX K H (.ref a) (.ref C) := .base (.ins h c.cl c.ha c.hn c.htk c.hm)
theorem kit_own {K : PySem.W.Frag} {C : Addr} : PySem.W.kitOne K (.ref C) (.ref C) = some true := by
  unfold PySem.W.kitOne
  rw [if_pos (by simp)]
/-- the addresses of the three classes -/
structure CA where
  md : Addr
  kg : Addr
  wy : Addr
structure Kx (K : PySem.W.Frag) (mg : Str → Option Value) (c : CA) : Prop where
  md : ClsF K c.md
  kg : ClsF K c.kg
  wy : ClsF K c.wy
  mgMd : mg "Modulus" = some (.ref c.md)
  mgMk : mg "Marking" = some (.ref c.kg)
  mgWy : mg "Way" = some (.ref c.wy)
  number : NoAttr K c.md "number"
  factors : NoAttr K c.md "factors"
  low : NoAttr K c.kg "low"
  shift : NoAttr K c.kg "shift"
  lead : NoAttr K c.kg "lead"
  marking : NoAttr K c.wy "marking"
  modulus : NoAttr K c.wy "modulus"
  wnumber : NoAttr K c.wy "number"
  base : NoAttr K c.wy "base"
def mdF (n : Int) (t : Addr) : List (Str × V) := [("number", .int n), ("factors", .ref t)]
def mkF (low : Bool) (shift : Int) (lead : Bool) : List (Str × V) := [("low", .bl low), ("shift", .int shift), ("lead", .bl lead)]
def wyF (k m : Addr) (n b : Int) : List (Str × V) := [("marking", .ref k), ("modulus", .ref m), ("number", .int n), ("base", .int b)]
def ModAt (c : CA) (H : Hp) (m : Addr) (ps : List (Int × Int)) : Prop := ∃ (dx t : Addr) (ts : List Addr), H m = some (.ins c.md dx (mdF (num ps) t)) ∧ H t = some (.tup (ts.map V.ref)) ∧ Paired (Tp H) ps ts ∧ Asc 0 ps ∧ Small ps
def MkAt (c : CA) (H : Hp) (k : Addr) (low : Bool) (shift : Int) (lead : Bool) : Prop := ∃ dx : Addr, H k = some (.ins c.kg dx (mkF low shift lead))
/-- how letters are added up -/
structure Sty where
  low : Bool
  shift : Int
  lead : Bool
def WayAt (c : CA) (H : Hp) (a : Addr) (b : Int) (ps : List (Int × Int)) (y : Sty) : Prop := ∃ (dx m k : Addr), H a = some (.ins c.wy dx (wyF k m (num ps) b)) ∧ ModAt c H m ps ∧ MkAt c H k y.low y.shift y.lead ∧ 0 ≤ b ∧ b < num ps
theorem ModAt.same {c : CA} {H H' : Hp} {m : Addr} {ps : List (Int × Int)} (h : ModAt c H m ps) (s : Same H H') : ModAt c H' m ps := by
  obtain ⟨dx, t, ts, h1, h2, h3, h4⟩ := h
  exact ⟨dx, t, ts, s _ _ h1, s _ _ h2, paired_imp (fun _ _ z => s _ _ z) h3, h4⟩
theorem MkAt.same {c : CA} {H H' : Hp} {k : Addr} {l : Bool} {s : Int} {d : Bool} (h : MkAt c H k l s d) (e : Same H H') : MkAt c H' k l s d := by
  obtain ⟨dx, h1⟩ := h
  exact ⟨dx, e _ _ h1⟩
theorem WayAt.same {c : CA} {H H' : Hp} {a : Addr} {b : Int} {ps : List (Int × Int)} {y : Sty} (h : WayAt c H a b ps y) (s : Same H H') : WayAt c H' a b ps y := by
  obtain ⟨dx, m, k, h1, h2, h3, h4⟩ := h
  exact ⟨dx, m, k, s _ _ h1, h2.same s, h3.same s, h4⟩
/-- coefficients of the sum, that of the highest power first -/
def hf (y : Sty) (ls : List Int) : List Int := (if y.lead then 1 else 0) :: (if y.low then (ls.map (· + y.shift)).reverse else ls.map (· + y.shift))
def restAt (cs : List Int) (b n : Int) : Int := cs.foldl (fun f c => (f * b + c) % n) 0
def mark (y : Sty) (b n : Int) (ls : List Int) : Int := restAt (hf y ls) b n
section
variable {σ : L2.St} {H : Hp} {D : Ends} {Q : VK} {K : PySem.W.Frag} {ta tv : TE} {f : Str} {x C dx : Addr} {fs : List (Str × V)} {v y : V}
theorem w_fldi {P : V → Prop} (h : H x = some (.ins C dx fs)) (c : Cls K C) (n : NoAttr K C f) (l : fs.lookup f = some v) (q : P v) : ∃ a C dx fs v, V.ref x = .ref a ∧ H a = some (.ins C dx fs) ∧ Cls K C ∧ NoAttr K C f ∧ fs.lookup f = some v ∧ P v := ⟨x, C, dx, fs, v, rfl, h, c, n, l, q⟩
theorem w_sfld (q : tv σ H fun y H1 => ta σ H1 fun x H2 => ∃ a C dx fs, x = .ref a ∧ H2 a = some (.ins C dx fs) ∧ Cls K C ∧ NoAttr K C f ∧ fs.length < 1000 ∧ D.nx σ (upd H2 a (.ins C dx (putF f y fs)))) : sFld K ta tv f D σ H := q
theorem w_sfldi {P : Hp → Prop} (h : H x = some (.ins C dx fs)) (c : Cls K C) (n : NoAttr K C f) (l : fs.length < 1000) (q : P (upd H x (.ins C dx (putF f y fs)))) : ∃ a C dx fs, V.ref x = .ref a ∧ H a = some (.ins C dx fs) ∧ Cls K C ∧ NoAttr K C f ∧ fs.length < 1000 ∧ P (upd H a (.ins C dx (putF f y fs))) :=
  ⟨x, C, dx, fs, rfl, h, c, n, l, q⟩
theorem w_make {sp : Sp} {dvs : List V} {E : XK} {as : TA} (q : as σ H fun vs H1 => ∀ x dx, H1 x = none → H1 dx = none → dx ≠ x → sp (.ref x :: (vs ++ dvs)) (upd (upd H1 dx (.own x)) x (.ins C dx [])) (fun v H2 => v = .non ∧ Q (.ref x) H2) E) : tMake C sp dvs E as σ H Q := q
theorem w_meth {m : Str} {sp : Sp} {dvs : List V} {E : XK} {as : TA} (q : ta σ H fun x H1 => ∃ a dx fs, x = .ref a ∧ H1 a = some (.ins C dx fs) ∧ fs.lookup m = none ∧ as σ H1 fun vs H2 => sp (x :: (vs ++ dvs)) H2 Q E) : tMeth C m sp dvs E ta as σ H Q := q
theorem w_methi {m : Str} {P : Addr → Prop} (h : H x = some (.ins C dx fs)) (l : fs.lookup m = none) (q : P x) : ∃ a dx fs, V.ref x = .ref a ∧ H a = some (.ins C dx fs) ∧ fs.lookup m = none ∧ P a := ⟨x, dx, fs, rfl, h, l, q⟩
theorem w_iEnum {K : PySem.W.Frag} {as : TA} {R : It → Hp → Prop} (q : as σ H fun vs H1 => ∃ a xs, vs = [.ref a] ∧ SqL K H1 a xs ∧ R (Ite K a) H1) : iEnum K as σ H R := q
theorem w_enumi {K : PySem.W.Frag} {a : Addr} {xs : List V} {P : Addr → Prop} (h : SqL K H a xs) (q : P a) : ∃ a' xs', [V.ref a] = [.ref a'] ∧ SqL K H a' xs' ∧ P a' := ⟨a, xs, rfl, h, q⟩
end
theorem mk_same {H H' : Hp} {x dx C : Addr} (nx : H x = none) (nd : H dx = none) (k : ∀ b o, b ≠ x → (upd (upd H dx (.own x)) x (.ins C dx [])) b = some o → H' b = some o) : Same H H' := fun b o e =>
  k b o (ne_of_none e nx) (by rw [upd_ne (ne_of_none e nx), upd_ne (ne_of_none e nd)]; exact e)
/-- __init__ of an own class by its body -/
theorem fnD_ok {P : Program} {w : World} {K : PySem.W.Frag} {mg : Str → Option Value} {base : Heap} {x qual : Str} {st : Stmt} {dvs : List V} {kws : List (Str × V)} {f : Addr} {fd : FuncData} {N ps : List Str} {k : Nat} {sp : Sp}
    (F : FunD K x qual (defArgs st) (defBody st) (defScope st) dvs kws f fd) (S : FnScope N ps (defScope st)) (len : ∀ vs H Q E, sp vs H Q E → vs.length = ps.length)
    (hbody : ∀ (cdv : Value) (A : Around) (outer : List Env) (s : Shared) (H : Hp) (vs : List V) (Q : VK) (E : XK), Room k (A.deeper (envOfC qual (defScope st) s.heap.objs.size f cdv)) → sp vs H Q E →
      ∃ t, PSs (cxOf CX0 P w K mg base N qual (defScope st) f cdv A outer s H E).nox (defBody st) t ∧ t { nx := fun _ H' => Q .non H', rt := Q } (start N vs) H) : FnOk P w K mg base CX0 (k + 1) f fd ps sp := by
  refine F.ok S len fun cdv A outer s H vs Q E hr h => ?_
  obtain ⟨t, h1, h2⟩ := hbody cdv A outer s H vs Q E hr h
  exact ⟨t, h1.nox, h2⟩
def spIsFactor : Sp := fun vs H Q _ => ∃ (t : Addr) (l p k : Int), vs = [.ref t, .int l] ∧ H t = some (.tup [.int p, .int k]) ∧ p < 2 ^ 60 ∧ ∀ b : Bool, (b = true ↔ l < p ∧ 0 < k ∧ Pr p) → Q (.bl b) H
def spModInit (c : CA) : Sp := fun vs H Q _ => ∃ (x dx l : Addr) (ts : List Addr) (ps : List (Int × Int)), vs = [.ref x, .ref l] ∧ H x = some (.ins c.md dx []) ∧ H l = some (.lst (ts.map V.ref)) ∧ Paired (Tp H) ps ts ∧ Asc 0 ps ∧ Small ps ∧
  ∀ H' t, (∀ b o, b ≠ x → H b = some o → H' b = some o) → H' x = some (.ins c.md dx (mdF (num ps) t)) → H' t = some (.tup (ts.map V.ref)) → Q .non H'
theorem use_mod {c : CA} {H : Hp} {PP : Addr → Hp → Prop} {E : XK} {l : Addr} {ts : List Addr} {ps : List (Int × Int)} (hl : H l = some (.lst (ts.map V.ref))) (hp : Paired (Tp H) ps ts) (ha : Asc 0 ps) (hs : Small ps) (q : ∀ m H', H m = none → Same H H' → ModAt c H' m ps → PP m H') :
    ∀ x dx, H x = none → H dx = none → dx ≠ x → spModInit c (.ref x :: ([.ref l] ++ [])) (upd (upd H dx (.own x)) x (.ins c.md dx [])) (fun v H2 => v = .non ∧ PP x H2) E := fun x dx nx nd ne => by
  have up : Same H (upd (upd H dx (.own x)) x (.ins c.md dx [])) := fun b o e => by rw [upd_ne (ne_of_none e nx), upd_ne (ne_of_none e nd)]; exact e
  refine ⟨x, dx, l, ts, ps, rfl, upd_same, up _ _ hl, paired_imp (fun _ _ z => up _ _ z) hp, ha, hs, fun H' t k h1 h2 => ⟨rfl, ?_⟩⟩
  have sm : Same H H' := mk_same nx nd k
  exact q x H' nx sm ⟨dx, t, ts, h1, h2, paired_imp (fun _ _ z => sm _ _ z) hp, ha, hs⟩
def spMkInit (c : CA) : Sp := fun vs H Q _ => ∃ (x dx : Addr) (l : Bool) (s : Int) (d : Bool), vs = [.ref x, .bl l, .int s, .bl d] ∧ H x = some (.ins c.kg dx []) ∧
  ∀ H', (∀ b o, b ≠ x → H b = some o → H' b = some o) → H' x = some (.ins c.kg dx (mkF l s d)) → Q .non H'
theorem use_mk {c : CA} {H : Hp} {PP : Addr → Hp → Prop} {E : XK} {l : Bool} {s : Int} {d : Bool} (q : ∀ m H', H m = none → Same H H' → MkAt c H' m l s d → PP m H') :
    ∀ x dx, H x = none → H dx = none → dx ≠ x → spMkInit c [.ref x, .bl l, .int s, .bl d] (upd (upd H dx (.own x)) x (.ins c.kg dx [])) (fun v H2 => v = .non ∧ PP x H2) E := fun x dx nx nd ne =>
  ⟨x, dx, l, s, d, rfl, upd_same, fun H' k h1 => ⟨rfl, q x H' nx (mk_same nx nd k) ⟨dx, h1⟩⟩⟩
def spHf (c : CA) : Sp := fun vs H Q _ => ∃ (k a : Addr) (y : Sty) (ls : List Int), vs = [.ref k, .ref a] ∧ MkAt c H k y.low y.shift y.lead ∧ H a = some (.tup (ls.map V.int)) ∧ ls.length ≤ 100000 ∧ ∀ H' l, Same H H' → H' l = some (.lst ((hf y ls).map V.int)) → Q (.ref l) H'
def spRestAt : Sp := fun vs H Q _ => ∃ (a : Addr) (cs : List Int) (b n : Int) (B : Nat), vs = [.ref a, .int b, .int n] ∧ H a = some (.lst (cs.map V.int)) ∧ 0 ≤ b ∧ b < n ∧ n.natAbs < 2 ^ B ∧ B ≤ 100000 ∧ Q (.int (restAt cs b n)) H
def spMkOf (c : CA) : Sp := fun vs H Q _ => ∃ (v : V) (y : Sty), vs = [v] ∧ ((v = .non ∧ y = ⟨false, 0, false⟩) ∨ ∃ k, v = .ref k ∧ MkAt c H k y.low y.shift y.lead) ∧ ∀ H' k, Same H H' → MkAt c H' k y.low y.shift y.lead → Q (.ref k) H'
def spReqMod (c : CA) : Sp := fun vs H Q _ => ∃ (m dx : Addr) (fs : List (Str × V)), vs = [.ref m] ∧ H m = some (.ins c.md dx fs) ∧ Q .non H
def spReqWay (c : CA) : Sp := fun vs H Q _ => ∃ (m dx : Addr) (fs : List (Str × V)), vs = [.ref m] ∧ H m = some (.ins c.wy dx fs) ∧ Q .non H
def spReqStock : Sp := fun vs H Q _ => ∃ n : Int, vs = [.int n] ∧ 1 ≤ n ∧ Q .non H
def spWayInit (c : CA) : Sp := fun vs H Q _ => ∃ (x dx m : Addr) (b : Int) (mv : V) (ps : List (Int × Int)) (y : Sty), vs = [.ref x, .int b, .ref m, mv] ∧ H x = some (.ins c.wy dx []) ∧ ModAt c H m ps ∧ ((mv = .non ∧ y = ⟨false, 0, false⟩) ∨ ∃ k, mv = .ref k ∧ MkAt c H k y.low y.shift y.lead) ∧
  ∀ H' k, (∀ b o, b ≠ x → H b = some o → H' b = some o) → H' x = some (.ins c.wy dx (wyF k m (num ps) (b % num ps))) → MkAt c H' k y.low y.shift y.lead → Q .non H'
theorem use_way {c : CA} {H : Hp} {PP : Addr → Hp → Prop} {E : XK} {m : Addr} {b : Int} {mv : V} {ps : List (Int × Int)} {y : Sty} (hm : ModAt c H m ps) (hk : (mv = .non ∧ y = ⟨false, 0, false⟩) ∨ ∃ k, mv = .ref k ∧ MkAt c H k y.low y.shift y.lead)
    (q : ∀ m H', H m = none → Same H H' → WayAt c H' m (b % num ps) ps y → PP m H') :
    ∀ x dx, H x = none → H dx = none → dx ≠ x → spWayInit c [.ref x, .int b, .ref m, mv] (upd (upd H dx (.own x)) x (.ins c.wy dx [])) (fun v H2 => v = .non ∧ PP x H2) E := fun x dx nx nd ne => by
  have up : Same H (upd (upd H dx (.own x)) x (.ins c.wy dx [])) := fun b o e => by rw [upd_ne (ne_of_none e nx), upd_ne (ne_of_none e nd)]; exact e
  refine ⟨x, dx, m, b, mv, ps, y, rfl, upd_same, hm.same up, ?_, fun H' k kp h1 h2 => ⟨rfl, ?_⟩⟩
  · rcases hk with h | ⟨k, e, h⟩
    · exact .inl h
    · exact .inr ⟨k, e, h.same up⟩
  · have sm : Same H H' := mk_same nx nd kp
    have hn : 0 < num ps := by
      obtain ⟨_, _, _, _, _, _, _, h⟩ := hm
      exact num_pos h
    exact q x H' nx sm ⟨dx, m, k, h1, hm.same sm, h2, Int.emod_nonneg _ (by omega), Int.emod_lt_of_pos _ hn⟩
def spOfLetters (c : CA) : Sp := fun vs H Q _ => ∃ (x a : Addr) (b : Int) (ps : List (Int × Int)) (y : Sty) (ls : List Int), vs = [.ref x, .ref a] ∧ WayAt c H x b ps y ∧ H a = some (.tup (ls.map V.int)) ∧ ls.length ≤ 100000 ∧ ∀ H', Same H H' → Q (.int (mark y b (num ps) ls)) H'
def spMarkOf (c : CA) : Sp := fun vs H Q _ => ∃ (x : Addr) (v : V) (b : Int) (ps : List (Int × Int)) (y : Sty) (ls : List Int), vs = [.ref x, v] ∧ WayAt c H x b ps y ∧ TextAt H v ls ∧ ∀ H', Same H H' → Q (.int (mark y b (num ps) ls)) H'
def spTwo (c : CA) (r : Sty → Int → Int → List Int → List Int → Bool) : Sp := fun vs H Q _ => ∃ (x : Addr) (v u : V) (b : Int) (ps : List (Int × Int)) (y : Sty) (ls ms : List Int), vs = [.ref x, v, u] ∧ WayAt c H x b ps y ∧ TextAt H v ls ∧ TextAt H u ms ∧ ∀ H', Same H H' → Q (.bl (r y b (num ps) ls ms)) H'
def rAgree (y : Sty) (b n : Int) (ls ms : List Int) : Bool := decide (mark y b n ls = mark y b n ms)
def rClash (y : Sty) (b n : Int) (ls ms : List Int) : Bool := decide (ls ≠ ms) && decide (mark y b n ls = mark y b n ms)
/-! ### calls by keyword, calls without arguments -/
section
variable {X : Cx} {k j : Nat} {x : Str} {C : Addr} {sp : Sp} {dvs : List V} {p pos : Pos} {ks : List Str} {gV : List V → List V → List V} {kws : List Keyword} {tk : TA}
theorem pe_mk0 (c : C8.Mak X.prog X.w X.K X.mg X.base k x C sp dvs) (hr : Room j X.A) (hk : k + 1 ≤ j) (hg : Gl X x) (hdb : (x == ("__debug__" : Str)) = false := by decide) : PE X (.Call (.Name x p) [] [] pos) (tMake C sp dvs L2.E0 tNil) := by
  obtain ⟨f, fd, ps, ds, M, F, hm, b, d⟩ := c.ex
  exact pe_make0 M F (hr.mono hk) hg hm b d pass0 hdb
structure MakK (P : Program) (w : World) (K : PySem.W.Frag) (mg : Str → Option Value) (base : Heap) (k : Nat) (x : Str) (C : Addr) (ks : List Str) (sp : Sp) (gV : List V → List V → List V) : Prop where
  ex : ∃ (f : Addr) (fd : FuncData) (ps : List Str) (g : List Value → List Value → List Value), Mk K C f ∧ FnOk P w K mg base L2.CX0 k f fd ps sp ∧ mg x = some (.ref C) ∧ KBn K fd ps 1 ks g gV
theorem pe_mkK0 (c : MakK X.prog X.w X.K X.mg X.base k x C ks sp gV) (hr : Room j X.A) (hk : k + 1 ≤ j) (hg : Gl X x) (hkw : PK X kws tk)
    (hall : (backToKw pos (keywordEach kws X.env)).all (·.1.isSome) = true := by rfl) (hks : (backToKw pos (keywordEach kws X.env)).filterMap (·.1) = ks := by rfl) (hdb : (x == ("__debug__" : Str)) = false := by decide)
    (hpl : ((backTo pos (starEach [] X.env)).any (·.1) || (backToKw pos (keywordEach kws X.env)).any (·.1.isNone)) = false := by rfl) :
    PE X (.Call (.Name x p) [] kws pos) (tMakeK C 0 ks.length sp gV L2.E0 tNil tk) := by
  obtain ⟨f, fd, ps, g, M, F, hm, b⟩ := c.ex
  exact pe_makeK0 M F (hr.mono hk) hg hm b pass0 hkw hall hks hdb hpl
structure CalK (P : Program) (w : World) (K : PySem.W.Frag) (mg : Str → Option Value) (base : Heap) (k : Nat) (x : Str) (ks : List Str) (sp : Sp) (gV : List V → List V → List V) : Prop where
  ex : ∃ (f : Addr) (fd : FuncData) (ps : List Str) (g : List Value → List Value → List Value), FnOk P w K mg base L2.CX0 k f fd ps sp ∧ mg x = some (.ref f) ∧ PySem.W.keepIn K (.ref f) = true ∧ KBn K fd ps 0 ks g gV
theorem pe_cK0 (c : CalK X.prog X.w X.K X.mg X.base k x ks sp gV) (hr : Room j X.A) (hk : k ≤ j) (hg : Gl X x) (hkw : PK X kws tk)
    (hall : (backToKw pos (keywordEach kws X.env)).all (·.1.isSome) = true := by rfl) (hks : (backToKw pos (keywordEach kws X.env)).filterMap (·.1) = ks := by rfl) (hdb : (x == ("__debug__" : Str)) = false := by decide)
    (hpl : ((backTo pos (starEach [] X.env)).any (·.1) || (backToKw pos (keywordEach kws X.env)).any (·.1.isNone)) = false := by rfl) :
    PE X (.Call (.Name x p) [] kws pos) (tCallN 0 ks.length sp gV L2.E0 tNil tk) := by
  obtain ⟨f, fd, ps, g, F, hm, kp, b⟩ := c.ex
  refine ⟨fun pins s σ H Q I h => ?_⟩
  refine wpAny_Call_Name_kw (ld_glob I hg hm ?_ hdb)
  refine PySem.W.callWith_KW0 (h₀ := X.base) I.ok.mod.kin kp hall ?_ hpl
  refine thn (hkw.run pos pins s σ H _ I h) fun ws s2 ⟨zs, H2, I2, rz, l1, l2, q2⟩ => ⟨I2.kIn, ?_⟩
  rw [hks]
  exact run_fnN (us := []) (vs := []) F (hr.mono hk) b pass0 I2 .nil rz rfl l2 q2
theorem w_makeK {σ : L2.St} {H : Hp} {Q : VK} {n m : Nat} {E : XK} {t tk : TA} (q : t σ H fun vs H1 => tk σ H1 fun zs H2 => vs.length = n ∧ zs.length = m ∧ ∀ x dx, H2 x = none → H2 dx = none → dx ≠ x → sp (gV (.ref x :: vs) zs) (upd (upd H2 dx (.own x)) x (.ins C dx [])) (fun v H3 => v = .non ∧ Q (.ref x) H3) E) : tMakeK C n m sp gV E t tk σ H Q := q
theorem w_callN {σ : L2.St} {H : Hp} {Q : VK} {n m : Nat} {E : XK} {t tk : TA} (q : t σ H fun vs H1 => tk σ H1 fun zs H2 => vs.length = n ∧ zs.length = m ∧ sp (gV vs zs) H2 Q E) : tCallN n m sp gV E t tk σ H Q := q
end
/-! ### lists of ints as data -/
section
variable {K : PySem.W.Frag} {H : Hp}
theorem dp_ints : ∀ ls : List Int, DpAll K H (ls.map V.int) (ls.map PyData.int)
  | [] => .nil
  | i :: r => .cons (.int i) (dp_ints r)
theorem eqv_ints : ∀ ls ms : List Int, PyData.eqvAll (ls.map PyData.int) (ms.map PyData.int) = decide (ls = ms)
  | [], [] => by simp [PyData.eqvAll]
  | [], _ :: _ => by simp [PyData.eqvAll]
  | _ :: _, [] => by simp [PyData.eqvAll]
  | i :: r, j :: t => by
    rw [List.map_cons, List.map_cons, PyData.eqvAll, eqv_ints r t, PyData.eqv]
    simp only [List.cons.injEq, Bool.decide_and]
    congr 1
theorem lay_ints : ∀ ls : List Int, PyData.canLayAll0 (ls.map PyData.int) = true
  | [] => rfl
  | i :: r => by
    rw [List.map_cons, PyData.canLayAll0, lay_ints r]
    rfl
theorem depth_ints : ∀ ls : List Int, PyData.depthAll (ls.map PyData.int) = 0
  | [] => rfl
  | i :: r => by
    rw [List.map_cons, PyData.depthAll, depth_ints r]
    rfl
theorem shaped_tup (ls : List Int) : SeqAt.shaped (.tuple (ls.map PyData.int)) = true := by
  unfold SeqAt.shaped
  rw [PyData.canLay0, lay_ints, PyData.depth, depth_ints]
  rfl
theorem shaped_lst (ls : List Int) : SeqAt.shaped (.list (ls.map PyData.int)) = true := by
  unfold SeqAt.shaped
  rw [PyData.canLay0, lay_ints, PyData.depth, depth_ints]
  rfl
theorem w_neTT {a b : Addr} {ls ms : List Int} {Q : VK} (ha : SqT K H a (ls.map V.int)) (hb : SqT K H b (ms.map V.int)) (q : Q (.bl (!decide (ls = ms))) H) : rNeD K (.ref a) (.ref b) H Q :=
  ⟨_, _, .tup ha (dp_ints ls), .tup hb (dp_ints ms), shaped_tup _, shaped_tup _, by rw [PyData.eqv, eqv_ints]; exact q⟩
theorem w_eqTT {a b : Addr} {ls ms : List Int} {Q : VK} (ha : SqT K H a (ls.map V.int)) (hb : SqT K H b (ms.map V.int)) (q : Q (.bl (decide (ls = ms))) H) : rEqD K (.ref a) (.ref b) H Q :=
  ⟨_, _, .tup ha (dp_ints ls), .tup hb (dp_ints ms), shaped_tup _, shaped_tup _, by rw [PyData.eqv, eqv_ints]; exact q⟩
theorem w_neLL {a b : Addr} {ls ms : List Int} {Q : VK} (ha : SqL K H a (ls.map V.int)) (hb : SqL K H b (ms.map V.int)) (q : Q (.bl (!decide (ls = ms))) H) : rNeD K (.ref a) (.ref b) H Q :=
  ⟨_, _, .lst ha (dp_ints ls), .lst hb (dp_ints ms), shaped_lst _, shaped_lst _, by rw [PyData.eqv, eqv_ints]; exact q⟩
theorem w_eqLL {a b : Addr} {ls ms : List Int} {Q : VK} (ha : SqL K H a (ls.map V.int)) (hb : SqL K H b (ms.map V.int)) (q : Q (.bl (decide (ls = ms))) H) : rEqD K (.ref a) (.ref b) H Q :=
  ⟨_, _, .lst ha (dp_ints ls), .lst hb (dp_ints ms), shaped_lst _, shaped_lst _, by rw [PyData.eqv, eqv_ints]; exact q⟩
theorem w_revi {x : Addr} {xs : List V} {P : Addr → Hp → Prop} (h : SqL K H x xs) (q : ∀ p, H p = none → P p (upd H p (.lst xs.reverse))) : ∃ a xs, V.ref x = .ref a ∧ SqL K H a xs ∧ ∀ p, H p = none → P p (upd H p (.lst xs.reverse)) := ⟨x, xs, rfl, h, q⟩
end
theorem mk_low {l : Bool} {s : Int} {d : Bool} : (mkF l s d).lookup ("low" : Str) = some (.bl l) := lk0
theorem mk_shift {l : Bool} {s : Int} {d : Bool} : (mkF l s d).lookup ("shift" : Str) = some (.int s) := (lkS (by decide +kernel)).trans lk0
theorem mk_lead {l : Bool} {s : Int} {d : Bool} : (mkF l s d).lookup ("lead" : Str) = some (.bl d) := (lkS (by decide +kernel)).trans ((lkS (by decide +kernel)).trans lk0)
theorem mk_no {l : Bool} {s : Int} {d : Bool} {m : Str} (h1 : m ≠ ("low" : Str)) (h2 : m ≠ ("shift" : Str)) (h3 : m ≠ ("lead" : Str)) : (mkF l s d).lookup m = none := (lkS h1).trans ((lkS h2).trans ((lkS h3).trans rfl))
theorem md_number {n : Int} {t : Addr} : (mdF n t).lookup ("number" : Str) = some (.int n) := lk0
theorem md_factors {n : Int} {t : Addr} : (mdF n t).lookup ("factors" : Str) = some (.ref t) := (lkS (by decide +kernel)).trans lk0
theorem wy_marking {k m : Addr} {n b : Int} : (wyF k m n b).lookup ("marking" : Str) = some (.ref k) := lk0
theorem wy_modulus {k m : Addr} {n b : Int} : (wyF k m n b).lookup ("modulus" : Str) = some (.ref m) := (lkS (by decide +kernel)).trans lk0
theorem wy_number {k m : Addr} {n b : Int} : (wyF k m n b).lookup ("number" : Str) = some (.int n) := (lkS (by decide +kernel)).trans ((lkS (by decide +kernel)).trans lk0)
theorem wy_base {k m : Addr} {n b : Int} : (wyF k m n b).lookup ("base" : Str) = some (.int b) := (lkS (by decide +kernel)).trans ((lkS (by decide +kernel)).trans ((lkS (by decide +kernel)).trans lk0))
theorem wy_no {k m : Addr} {n b : Int} {f : Str} (h1 : f ≠ ("marking" : Str)) (h2 : f ≠ ("modulus" : Str)) (h3 : f ≠ ("number" : Str)) (h4 : f ≠ ("base" : Str)) : (wyF k m n b).lookup f = none := (lkS h1).trans ((lkS h2).trans ((lkS h3).trans ((lkS h4).trans rfl)))
theorem rest_take {cs : List Int} {i : Nat} {v b n : Int} (h : cs[i]? = some v) : restAt (cs.take (i + 1)) b n = (restAt (cs.take i) b n * b + v) % n := by
  obtain ⟨hi, e⟩ := List.getElem?_eq_some_iff.mp h
  unfold restAt
  rw [List.take_succ_eq_append_getElem hi, List.foldl_append, e]
  rfl
theorem rest_range {b n : Int} (hn : 0 < n) : ∀ (cs : List Int), 0 ≤ restAt cs b n ∧ restAt cs b n < n := fun cs => by
  unfold restAt
  have : ∀ (cs : List Int) (a : Int), 0 ≤ a → a < n → 0 ≤ cs.foldl (fun f c => (f * b + c) % n) a ∧ cs.foldl (fun f c => (f * b + c) % n) a < n := by
    intro cs
    induction cs with
    | nil => exact fun a h1 h2 => ⟨h1, h2⟩
    | cons c r ih => exact fun a h1 h2 => ih _ (Int.emod_nonneg _ (by omega)) (Int.emod_lt_of_pos _ hn)
  exact this cs 0 (Int.le_refl _) hn
theorem map_rev (f : Int → V) (l : List Int) : (l.map f).reverse = l.reverse.map f := by rw [List.map_reverse]
theorem w_tyL {K : PySem.W.Frag} {H : Hp} {a : Addr} {xs : List V} {P : Prop} (h : SqL K H a xs) (q : P) : tyV K "list" (.ref a) H ∧ P := ⟨Or.inl ⟨rfl, _, h⟩, q⟩
theorem decI {a b : Int} : decide (V.int a = V.int b) = decide (a = b) := by
  by_cases z : a = b
  · rw [decide_eq_true z, decide_eq_true (by rw [z])]
  · rw [decide_eq_false z, decide_eq_false (fun w => z (by injection w))]
theorem w_m1 {σ : L2.St} {H : Hp} {Q : VK} {r : V → List V → Hp → VK → Prop} {to te : TE} (q : to σ H fun x H1 => (∃ a, x = .str a) ∧ te σ H1 fun y H2 => r x [y] H2 Q) : tM1 r to te σ H Q := q
theorem w_isStr {z : Str} {P : Prop} (q : P) : (∃ a, V.str z = .str a) ∧ P := ⟨⟨z, rfl⟩, q⟩
/-! ### what the purse leaves alone -/
section
variable {a b : Addr} {c : Int} {H H' : Hp} {o : HO}
theorem Purse.ne (p : Purse H a c) (h : H b = some o) (d : ∀ x y z : Int, o ≠ .lst [.int x, .int y, .int z]) : b ≠ a := fun e => by
  obtain ⟨x, y, z, h1, _⟩ := p
  rw [e, h1] at h
  exact d x y z (Option.some.inj h).symm
theorem Purse.fresh (p : Purse H a c) (h : H b = none) : b ≠ a := fun e => by
  obtain ⟨x, y, z, h1, _⟩ := p
  rw [e, h1] at h
  cases h
theorem Keep.free (k : Keep a H H') (p : Purse H' a c) (h : H' b = none) : H b = none := by
  cases e : H b with
  | none => rfl
  | some o =>
    by_cases z : b = a
    · obtain ⟨_, _, _, e2, _⟩ := p
      rw [z, e2] at h
      cases h
    · rw [k _ _ z e] at h
      cases h
theorem Keep.tup {xs : List V} (k : Keep a H H') (p : Purse H a c) (h : H b = some (.tup xs)) : H' b = some (.tup xs) := k b _ (p.ne h fun _ _ _ z => by cases z) h
theorem Keep.ins {C dx : Addr} {fs : List (Str × V)} (k : Keep a H H') (p : Purse H a c) (h : H b = some (.ins C dx fs)) : H' b = some (.ins C dx fs) := k b _ (p.ne h fun _ _ _ z => by cases z) h
/-- a list of pairs -/
def PrL (H : Hp) (l : Addr) (ps : List (Int × Int)) : Prop := ∃ ts : List Addr, H l = some (.lst (ts.map V.ref)) ∧ Paired (Tp H) ps ts
theorem refs_ne {ts : List Addr} (x y z : Int) : HO.lst (ts.map V.ref) ≠ .lst [.int x, .int y, .int z] := fun e => by
  injection e with e
  cases ts with
  | nil => cases e
  | cons t r =>
    rw [List.map_cons] at e
    injection e with e1
    cases e1
theorem PrL.keep {l : Addr} {ps : List (Int × Int)} (h : PrL H l ps) (p : Purse H a c) (k : Keep a H H') : PrL H' l ps := by
  obtain ⟨ts, h1, h2⟩ := h
  exact ⟨ts, k l _ (p.ne h1 refs_ne) h1, paired_imp (fun _ _ z => k.tup p z) h2⟩
theorem PrL.same {l : Addr} {ps : List (Int × Int)} (h : PrL H l ps) (s : Same H H') : PrL H' l ps := by
  obtain ⟨ts, h1, h2⟩ := h
  exact ⟨ts, s _ _ h1, paired_imp (fun _ _ z => s _ _ z) h2⟩
theorem ModAt.keep {ca : CA} {m : Addr} {ps : List (Int × Int)} (h : ModAt ca H m ps) (p : Purse H a c) (k : Keep a H H') : ModAt ca H' m ps := by
  obtain ⟨dx, t, ts, h1, h2, h3, h4⟩ := h
  exact ⟨dx, t, ts, k.ins p h1, k.tup p h2, paired_imp (fun _ _ z => k.tup p z) h3, h4⟩
theorem MkAt.keep {ca : CA} {m : Addr} {l : Bool} {s : Int} {d : Bool} (h : MkAt ca H m l s d) (p : Purse H a c) (k : Keep a H H') : MkAt ca H' m l s d := by
  obtain ⟨dx, h1⟩ := h
  exact ⟨dx, k.ins p h1⟩
theorem WayAt.keep {ca : CA} {m : Addr} {b : Int} {ps : List (Int × Int)} {y : Sty} (h : WayAt ca H m b ps y) (p : Purse H a c) (k : Keep a H H') : WayAt ca H' m b ps y := by
  obtain ⟨dx, m1, k1, h1, h2, h3, h4⟩ := h
  exact ⟨dx, m1, k1, k.ins p h1, h2.keep p k, h3.keep p k, h4⟩
theorem Keep.new (p : Purse H a c) {q : Addr} (n : H q = none) : Keep a H (L2.upd H q o) := .of (Same.new n)
end
theorem Asc.snoc : ∀ {l : Int} {ps : List (Int × Int)} {q : Int × Int}, Asc l ps → (ps.getLast?.map (·.1)).getD l < q.1 → 0 < q.2 → Pr q.1 → Asc l (ps ++ [q])
  | l, [], q, _, h1, h2, h3 => ⟨h1, h2, h3, trivial⟩
  | l, r :: ps, q, a, h1, h2, h3 => by
    refine ⟨a.1, a.2.1, a.2.2.1, Asc.snoc a.2.2.2 ?_ h2 h3⟩
    rw [List.getLast?_cons] at h1
    cases hh : ps.getLast? with
    | none => rw [hh] at h1; exact h1
    | some z => rw [hh] at h1; exact h1
instance (n : Int) : Decidable (∀ d : Int, 2 ≤ d → d * d ≤ n → n % d ≠ 0) := 
  if h : ∀ k : Fin 64, (2 ≤ k.val ∧ (k.val : Int) * k.val ≤ n) → n % (k.val : Int) ≠ 0 then
    if h2 : n < 4096 then .isTrue (fun d h3 h4 => by
      have hd : d < 64 := by
        refine Int.not_le.mp fun z => ?_
        have := Int.mul_le_mul z z (by decide) (by omega)
        omega
      have e : ((d.toNat : Nat) : Int) = d := Int.toNat_of_nonneg (by omega)
      have := h ⟨d.toNat, by omega⟩ ⟨by show 2 ≤ d.toNat; omega, by show ((d.toNat : Nat) : Int) * ((d.toNat : Nat) : Int) ≤ n; rw [e]; exact h4⟩
      rwa [show (((⟨d.toNat, by omega⟩ : Fin 64).val : Nat) : Int) = d from e] at this)
    else if h5 : ∀ k : Fin n.toNat, (2 ≤ k.val ∧ (k.val : Int) * k.val ≤ n) → n % (k.val : Int) ≠ 0 then .isTrue (fun d h3 h4 => by
      have hd : d < n := by
        refine Int.not_le.mp fun z => ?_
        have : n * 2 ≤ d * d := Int.mul_le_mul z h3 (by decide) (by omega)
        omega
      have e : ((d.toNat : Nat) : Int) = d := Int.toNat_of_nonneg (by omega)
      have := h5 ⟨d.toNat, by omega⟩ ⟨by show 2 ≤ d.toNat; omega, by show ((d.toNat : Nat) : Int) * ((d.toNat : Nat) : Int) ≤ n; rw [e]; exact h4⟩
      rwa [show (((⟨d.toNat, by omega⟩ : Fin n.toNat).val : Nat) : Int) = d from e] at this)
    else .isFalse fun z => h5 fun k hk => z k.val (by omega) hk.2
  else .isFalse fun z => h fun k hk => z k.val (by omega) hk.2
instance (n : Int) : Decidable (Pr n) := inferInstanceAs (Decidable (_ ∧ _))
def PL : List Int := [2, 3, 5, 7, 11, 13, 97, 101, 499, 991, 997]
def KL : List Int := [12, 5, 3, 3, 2, 2, 2, 2, 2, 8, 12]
theorem PL_pr : ∀ i : Fin 11, Pr (PL.getD i.val 0) ∧ 0 < PL.getD i.val 0 ∧ PL.getD i.val 0 < 1024 ∧ PL.getD i.val 0 < PL.getD (i.val + 1) 10000 ∧ PL.getD i.val 0 = PL.getD i.val 10000 := by decide +kernel
theorem KL_pr : ∀ i : Fin 11, 0 < KL.getD i.val 0 ∧ KL.getD i.val 0 ≤ 12 := by decide +kernel
theorem prN {p : Int} (h : Pr p) (d : Nat) (hd : d ∣ p.natAbs) : d = 1 ∨ d = p.natAbs := by
  obtain ⟨e, he⟩ := hd
  have hp := h.1
  have h0 : p = ((d * e : Nat) : Int) := by omega
  by_cases d1 : d = 1
  · exact .inl d1
  by_cases e1 : e = 1
  · right; rw [he, e1, Nat.mul_one]
  exfalso
  have d0 : d ≠ 0 := fun z => by rw [z, Nat.zero_mul] at he; omega
  have e0 : e ≠ 0 := fun z => by rw [z, Nat.mul_zero] at he; omega
  by_cases c : d ≤ e
  · refine h.2 d (by omega) ?_ ?_
    · rw [h0]
      have : d * d ≤ d * e := Nat.mul_le_mul_left d c
      exact_mod_cast this
    · rw [h0, Int.natCast_mul]
      exact Int.mul_emod_right _ _
  · refine h.2 e (by omega) ?_ ?_
    · rw [h0]
      have : e * e ≤ d * e := Nat.mul_le_mul_right e (by omega)
      exact_mod_cast this
    · rw [h0, Int.natCast_mul]
      exact Int.mul_emod_left _ _
theorem cop_or {p : Int} (h : Pr p) (b : Nat) : p.natAbs ∣ b ∨ Nat.Coprime b p.natAbs := by
  rcases prN h _ (Nat.gcd_dvd_right b p.natAbs) with e | e
  · exact .inr e
  · left
    have := Nat.gcd_dvd_left b p.natAbs
    rwa [e] at this
def numN (ps : List (Int × Int)) : Nat := ps.foldl (fun n p => n * p.1.natAbs ^ p.2.toNat) 1
theorem numN_fold (ps : List (Int × Int)) : ∀ a : Nat, ps.foldl (fun n p => n * p.1.natAbs ^ p.2.toNat) a = a * numN ps := by
  unfold numN
  induction ps with
  | nil => intro a; simp
  | cons q r ih =>
    intro a
    rw [List.foldl_cons, List.foldl_cons, ih, ih (1 * _), Nat.one_mul, Nat.mul_assoc]
theorem numN_cons (q : Int × Int) (ps : List (Int × Int)) : numN (q :: ps) = q.1.natAbs ^ q.2.toNat * numN ps := by
  show List.foldl _ _ _ = _
  rw [List.foldl_cons, numN_fold, Nat.one_mul]
theorem num_fold (ps : List (Int × Int)) : ∀ a : Int, ps.foldl (fun n p => n * p.1 ^ p.2.toNat) a = a * num ps := by
  unfold num
  induction ps with
  | nil => intro a; simp
  | cons q r ih =>
    intro a
    rw [List.foldl_cons, List.foldl_cons, ih, ih (1 * _), Int.one_mul, Int.mul_assoc]
theorem num_cons (q : Int × Int) (ps : List (Int × Int)) : num (q :: ps) = q.1 ^ q.2.toNat * num ps := by
  show List.foldl _ _ _ = _
  rw [List.foldl_cons, num_fold, Int.one_mul]
theorem num_cast : ∀ {l : Int} {ps : List (Int × Int)}, 0 ≤ l → Asc l ps → num ps = (numN ps : Int)
  | _, [], _, _ => rfl
  | l, q :: r, h0, a => by
    have h1 := a.1
    rw [num_cons, numN_cons, num_cast (l := q.1) (by omega) a.2.2.2, Int.natCast_mul, Int.natCast_pow, Int.natAbs_of_nonneg (by omega)]
theorem Asc.lt : ∀ {l : Int} {ps : List (Int × Int)}, Asc l ps → ∀ q ∈ ps, l < q.1 ∧ 0 < q.2 ∧ Pr q.1
  | _, [], _, q, h => by cases h
  | l, r :: ps, a, q, h => by
    rcases List.mem_cons.mp h with e | e
    · rw [e]; exact ⟨a.1, a.2.1, a.2.2.1⟩
    · have := Asc.lt a.2.2.2 q e
      exact ⟨Int.lt_trans a.1 this.1, this.2⟩
theorem cop_num {p : Int} (hp : Pr p) (k : Nat) : ∀ {ps : List (Int × Int)}, (∀ q ∈ ps, p < q.1 ∧ 0 < q.2 ∧ Pr q.1) → Nat.Coprime (p.natAbs ^ k) (numN ps)
  | [], _ => Nat.coprime_one_right _
  | q :: r, h => by
    rw [numN_cons]
    refine Nat.Coprime.mul_right (Nat.Coprime.pow _ _ ?_) (cop_num hp k fun q hq => h q (List.mem_cons_of_mem _ hq))
    have hq := h q (List.mem_cons_self ..)
    have hp1 := hp.1
    rcases cop_or hq.2.2 p.natAbs with z | z
    · exfalso
      have := Nat.le_of_dvd (by omega) z
      omega
    · exact z
theorem gcd_stab {b S e : Nat} (he : S ≤ e) : ∀ {l : Int} {ps : List (Int × Int)}, Asc l ps → (∀ q ∈ ps, q.2.toNat ≤ S) → Nat.gcd (b ^ e) (numN ps) = Nat.gcd (b ^ S) (numN ps)
  | _, [], _, _ => by
    show Nat.gcd _ 1 = Nat.gcd _ 1
    rw [Nat.gcd_one_right, Nat.gcd_one_right]
  | l, q :: r, a, h => by
    have hk := h q (List.mem_cons_self ..)
    have hc : Nat.Coprime (q.1.natAbs ^ q.2.toNat) (numN r) := cop_num a.2.2.1 _ (Asc.lt a.2.2.2)
    rw [numN_cons, Nat.Coprime.gcd_mul _ hc, Nat.Coprime.gcd_mul _ hc, gcd_stab he a.2.2.2 fun q hq => h q (List.mem_cons_of_mem _ hq)]
    congr 1
    rcases cop_or a.2.2.1 b with z | z
    · have h1 : ∀ m, q.2.toNat ≤ m → q.1.natAbs ^ q.2.toNat ∣ b ^ m := fun m hm => Nat.dvd_trans (Nat.pow_dvd_pow _ hm) ((Nat.pow_dvd_pow_iff (by have := a.2.1; omega)).mpr z)
      rw [Nat.gcd_eq_right (h1 e (by omega)), Nat.gcd_eq_right (h1 S hk)]
    · rw [(Nat.Coprime.pow e q.2.toNat z), (Nat.Coprime.pow S q.2.toNat z)]
/-- a step that a number hides -/
theorem miss_iff {n x A : Nat} (hn : 0 < n) : (∃ s, 1 ≤ s ∧ s < A ∧ n ∣ s * x) ↔ n / Nat.gcd x n < A := by
  have hg : 0 < Nat.gcd x n := Nat.gcd_pos_of_pos_right _ hn
  have hgn := Nat.gcd_dvd_right x n
  have hgx := Nat.gcd_dvd_left x n
  constructor
  · rintro ⟨s, s1, s2, h⟩
    have h1 : n / Nat.gcd x n ∣ s := by
      have hc : Nat.Coprime (n / Nat.gcd x n) (x / Nat.gcd x n) := (Nat.coprime_div_gcd_div_gcd hg).symm
      refine hc.dvd_of_dvd_mul_right ?_
      obtain ⟨t, ht⟩ := h
      refine ⟨t, ?_⟩
      have e1 : n / Nat.gcd x n * Nat.gcd x n = n := Nat.div_mul_cancel hgn
      have e2 : x / Nat.gcd x n * Nat.gcd x n = x := Nat.div_mul_cancel hgx
      refine Nat.eq_of_mul_eq_mul_right hg ?_
      rw [Nat.mul_assoc, e2, ht, Nat.mul_right_comm, e1]
    exact Nat.lt_of_le_of_lt (Nat.le_of_dvd (by omega) h1) s2
  · intro h
    refine ⟨n / Nat.gcd x n, Nat.div_pos (Nat.le_of_dvd hn hgn) hg, h, ?_⟩
    obtain ⟨t, ht⟩ := hgx
    refine ⟨t, ?_⟩
    have e1 : n / Nat.gcd x n * Nat.gcd x n = n := Nat.div_mul_cancel hgn
    calc n / Nat.gcd x n * x = n / Nat.gcd x n * (Nat.gcd x n * t) := by rw [← ht]
      _ = n * t := by rw [← Nat.mul_assoc, e1]
/-- the first of the places below N at which P holds -/
def Fst (P : Nat → Prop) (N : Nat) : Option Nat → Prop
  | none => ∀ e, e < N → ¬ P e
  | some e => e < N ∧ P e ∧ ∀ j, j < e → ¬ P j
theorem Fst.same {P P' : Nat → Prop} {N M S : Nat} {r r' : Option Nat} (h : Fst P N r) (h' : Fst P' M r') (e : ∀ j, P j ↔ P' j) (st : ∀ j, S ≤ j → P j → P S) (hN : S < N) (hM : S < M) : r = r' := by
  have low : ∀ j, P j → ∃ i, i ≤ S ∧ i ≤ j ∧ P i := fun j hj => by
    by_cases c : S ≤ j
    · exact ⟨S, Nat.le_refl _, c, st j c hj⟩
    · exact ⟨j, by omega, Nat.le_refl _, hj⟩
  cases r with
  | none =>
    cases r' with
    | none => rfl
    | some e' =>
      obtain ⟨i, h1, h2, h3⟩ := low e' ((e e').mpr h'.2.1)
      exact absurd h3 (h i (by omega))
  | some e1 =>
    cases r' with
    | none =>
      obtain ⟨i, h1, h2, h3⟩ := low e1 h.2.1
      exact absurd ((e i).mp h3) (h' i (by omega))
    | some e2 =>
      have a1 : ¬ e1 < e2 := fun z => h'.2.2 e1 z ((e e1).mp h.2.1)
      have a2 : ¬ e2 < e1 := fun z => h.2.2 e2 z ((e e2).mpr h'.2.1)
      have : e1 = e2 := by omega
      rw [this]
theorem max_pow {S0 : Nat} : ∀ {l : Int} {ps : List (Int × Int)}, 0 ≤ l → Asc l ps → (∀ q ∈ ps, q.2.toNat ≤ S0) → ∃ S, S ≤ S0 ∧ (∀ q ∈ ps, q.2.toNat ≤ S) ∧ 2 ^ S ≤ numN ps ∧ 0 < numN ps
  | _, [], _, _, _ => ⟨0, Nat.zero_le _, (fun q h => by cases h), Nat.le_refl _, Nat.zero_lt_one⟩
  | l, q :: r, h0, a, h => by
    have h1 := a.1
    obtain ⟨S, b1, b2, b3, b4⟩ := max_pow (S0 := S0) (l := q.1) (ps := r) (by omega) a.2.2.2 fun z hz => h z (List.mem_cons_of_mem _ hz)
    have hp := a.2.2.1.1
    have hq : 2 ^ q.2.toNat ≤ q.1.natAbs ^ q.2.toNat := Nat.pow_le_pow_left (by omega) _
    have hq0 : 0 < q.1.natAbs ^ q.2.toNat := Nat.lt_of_lt_of_le (Nat.pow_pos (by decide)) hq
    refine ⟨max S q.2.toNat, Nat.max_le.mpr ⟨b1, h q (List.mem_cons_self ..)⟩, fun z hz => ?_, ?_, ?_⟩
    · rcases List.mem_cons.mp hz with e | e
      · rw [e]; exact Nat.le_max_right _ _
      · exact Nat.le_trans (b2 z e) (Nat.le_max_left _ _)
    · rw [numN_cons]
      by_cases c : S ≤ q.2.toNat
      · rw [Nat.max_eq_right c]
        exact Nat.le_trans hq (Nat.le_mul_of_pos_right _ b4)
      · rw [Nat.max_eq_left (by omega)]
        exact Nat.le_trans b3 (Nat.le_mul_of_pos_left _ hq0)
    · rw [numN_cons]
      exact Nat.mul_pos hq0 b4
/-! ### comprehensions with a test, and such as draw -/
section
variable {J : It} {G : Hp → Prop} {tt : TT} {te : TE} {vs : List Nat} {σ : L2.St} {H : Hp} {D : Addr} {Qd : Hp → Prop} {j : Nat}
theorem lc_filt (xs : List V) (p : V → Bool) (f : V → V) (w : Walk J xs.length G (YAt xs)) (hD : H D = none) (hG : ∀ H', Same H H' → G H') (sz : xs.length ≤ 100000)
    (wp : ∀ v, wipe ((wipe σ vs).set j v) vs = wipe σ vs)
    (tst : ∀ (i : Nat) (x : V) (H' : Hp), xs[i]? = some x → Same H H' → ∀ Q' : Bool → Hp → Prop, (∀ H'', Same H' H'' → Q' (p x) H'') → tt ((wipe σ vs).set j (some x)) H' Q')
    (step : ∀ (i : Nat) (x : V) (H' : Hp), xs[i]? = some x → p x = true → Same H H' → ∀ Q' : VK, (∀ H'', Same H' H'' → Q' (f x) H'') → te ((wipe σ vs).set j (some x)) H' Q')
    (q : ∀ H', Same H H' → H' D = some (.lst ((xs.filter p).map f)) → Qd H') :
    ∃ W : Nat → Nat → Hp → Prop, (∃ m, W 0 m (upd H D (.lst []))) ∧ ∀ i m H, W i m H →
      (J.stop i H ∧ Qd H) ∨ (J.go i H ∧ ∃ Nx : Hp → Prop, (∀ H', Nx H' → ∃ m', m' < m ∧ W (i + 1) m' H') ∧ ∀ x H', J.yld i H x H' → gName j x (wipe σ vs) H' fun σ2 H2 => wipe σ2 vs = wipe σ vs ∧ tt σ2 H2 fun b H3 =>
        if b = true then te σ2 H3 fun y H4 => ∃ acc, H4 D = some (.lst acc) ∧ acc.length < sizeLine ∧ Nx (upd H4 D (.lst (acc ++ [y]))) else Nx H3) := by
  refine lc_it w (fun i H' => H' D = some (.lst (((xs.take i).filter p).map f)) ∧ Same H H') ⟨upd_same, Same.new hD⟩ (fun i H' _ h => hG H' h.2) ?_ ?_
  · rintro i x H1 H' hi ⟨h1, h2⟩ ⟨rfl, hx⟩
    refine ⟨wp _, ?_⟩
    have e : xs[i] = x := by rw [List.getElem?_eq_getElem hi] at hx; exact Option.some.inj hx
    have tk : xs.take (i + 1) = xs.take i ++ [x] := by rw [List.take_succ_eq_append_getElem hi, e]
    refine tst i x H' hx h2 _ fun H2 s2 => ?_
    by_cases hp : p x = true
    · rw [hp]
      refine iteT ?_
      refine step i x H2 hx hp (h2.trans s2) _ fun H3 s3 => ?_
      refine ⟨_, s3 _ _ (s2 _ _ h1), ?_, ?_, ?_⟩
      · rw [List.length_map]
        have h5 := List.length_filter_le p (xs.take i)
        rw [List.length_take] at h5
        have : (100000 : Nat) < sizeLine := by decide
        omega
      · rw [upd_same, tk, List.filter_append, List.map_append, List.filter_cons, if_pos hp]
        rfl
      · exact fun b o e => by
          rw [upd_ne (ne_of_none e hD)]
          exact s3 _ _ (s2 _ _ (h2 _ _ e))
    · have hp' : p x = false := by simpa using hp
      rw [hp']
      refine iteF ?_
      refine ⟨?_, h2.trans s2⟩
      rw [s2 _ _ h1, tk, List.filter_append, List.map_append, List.filter_cons, if_neg hp]
      simp
  · rintro H' ⟨h1, h2⟩
    refine q H' h2 ?_
    rw [h1, List.take_length]
/-- each turn draws: ints that R speaks of, the purse counted up by n a turn -/
theorem lc_draws (xs : List V) (a : Addr) (c n : Int) (R : Int → Prop) (w : Walk J xs.length G (YAt xs)) (pu : Purse H a c) (hD : H D = none) (hG : ∀ H', Keep a H H' → G H') (sz : xs.length ≤ 100000)
    (wp : ∀ v, wipe ((wipe σ vs).set j v) vs = wipe σ vs)
    (step : ∀ (i : Nat) (x : V) (H' : Hp), xs[i]? = some x → Keep a H H' → Purse H' a (c + n * i) → ∀ Q' : VK, (∀ (y : Int) (H'' : Hp), R y → Keep a H' H'' → Purse H'' a (c + n * ((i + 1 : Nat) : Int)) → Q' (.int y) H'') → te ((wipe σ vs).set j (some x)) H' Q')
    (q : ∀ (H' : Hp) (ys : List Int), ys.length = xs.length → (∀ y ∈ ys, R y) → H' D = some (.lst (ys.map V.int)) → Keep a H H' → Purse H' a (c + n * xs.length) → Qd H') :
    ∃ W : Nat → Nat → Hp → Prop, (∃ m, W 0 m (upd H D (.lst []))) ∧ ∀ i m H, W i m H →
      (J.stop i H ∧ Qd H) ∨ (J.go i H ∧ ∃ Nx : Hp → Prop, (∀ H', Nx H' → ∃ m', m' < m ∧ W (i + 1) m' H') ∧ ∀ x H', J.yld i H x H' → gName j x (wipe σ vs) H' fun σ2 H2 => wipe σ2 vs = wipe σ vs ∧ tYes σ2 H2 fun b H3 =>
        if b = true then te σ2 H3 fun y H4 => ∃ acc, H4 D = some (.lst acc) ∧ acc.length < sizeLine ∧ Nx (upd H4 D (.lst (acc ++ [y]))) else Nx H3) := by
  have nD : D ≠ a := pu.fresh hD
  refine lc_it w (fun i H' => ∃ ys : List Int, ys.length = i ∧ (∀ y ∈ ys, R y) ∧ H' D = some (.lst (ys.map V.int)) ∧ Keep a H H' ∧ Purse H' a (c + n * i)) ⟨[], rfl, (fun y h => by cases h), upd_same, .of (Same.new hD), (pu.same (Same.new hD)).le (by simp)⟩ (fun i H' _ h => by obtain ⟨_, _, _, _, k, _⟩ := h; exact hG H' k) ?_ ?_
  · rintro i x H1 H' hi ⟨ys, h1, h2, h3, h4, h5⟩ ⟨rfl, hx⟩
    refine ⟨wp _, w_yes ?_⟩
    rw [if_pos rfl]
    refine step i x H' hx h4 h5 _ fun y H2 r k2 p2 => ?_
    refine ⟨_, k2.at_ nD h3, ?_, ys ++ [y], ?_, ?_, ?_, ?_, ?_⟩
    · rw [List.length_map]
      have : (100000 : Nat) < sizeLine := by decide
      omega
    · rw [List.length_append, h1]
      rfl
    · intro z hz
      rcases List.mem_append.mp hz with e | e
      · exact h2 z e
      · have : z = y := by simpa using e
        rw [this]; exact r
    · rw [upd_same, List.map_append]
      rfl
    · intro b o nb hb
      rw [upd_ne (ne_of_none hb hD)]
      exact k2 _ _ nb (h4 _ _ nb hb)
    · obtain ⟨x1, y1, z1, e, r1⟩ := p2
      exact ⟨x1, y1, z1, by rw [upd_ne nD.symm]; exact e, r1⟩
  · rintro H' ⟨ys, h1, h2, h3, h4, h5⟩
    exact q H' ys h1 h2 h3 h4 h5
end
theorem walk_rangeY {lo : Int} {n : Nat} : Walk (Itr lo n) ((List.range n).map fun i : Nat => V.int (lo + i)).length (fun _ => True) (YAt ((List.range n).map fun i : Nat => V.int (lo + i))) := by
  have h := walk_range (lo := lo) (n := n)
  have e : ((List.range n).map fun i : Nat => V.int (lo + i)).length = n := by simp
  rw [e]
  refine h.mono (fun _ h => h) (fun i H x H' hi _ y => ?_)
  obtain ⟨rfl, rfl⟩ := y
  refine ⟨rfl, ?_⟩
  rw [List.getElem?_map, List.getElem?_range hi]
  rfl
/-! ### sums, and a letter exchanged -/
def hv (cs : List Int) (b : Int) : Int := cs.foldl (fun f c => f * b + c) 0
theorem hv_fold (cs : List Int) (b : Int) : ∀ a : Int, cs.foldl (fun f c => f * b + c) a = a * b ^ cs.length + hv cs b := by
  unfold hv
  induction cs with
  | nil => intro a; simp
  | cons c r ih =>
    intro a
    rw [List.foldl_cons, List.foldl_cons, ih, ih (0 * b + c), List.length_cons, Int.pow_succ, Int.zero_mul, Int.zero_add, Int.add_mul, Int.mul_assoc, Int.mul_comm b]
    omega
theorem hv_cons (c : Int) (cs : List Int) (b : Int) : hv (c :: cs) b = c * b ^ cs.length + hv cs b := by
  show List.foldl _ _ _ = _
  rw [List.foldl_cons, hv_fold, Int.zero_mul, Int.zero_add]
theorem rest_hv (cs : List Int) (b n : Int) : restAt cs b n = hv cs b % n := by
  unfold restAt hv
  have : ∀ (cs : List Int) (a a' : Int), a % n = a' % n → (cs.foldl (fun f c => (f * b + c) % n) a) % n = (cs.foldl (fun f c => f * b + c) a') % n := by
    intro cs
    induction cs with
    | nil => exact fun a a' h => h
    | cons c r ih =>
      intro a a' h
      rw [List.foldl_cons, List.foldl_cons]
      refine ih _ _ ?_
      rw [Int.emod_emod_of_dvd _ (Int.dvd_refl n), Int.add_emod, Int.mul_emod, h, ← Int.mul_emod, ← Int.add_emod]
  cases cs with
  | nil => simp
  | cons c r =>
    have h := this (c :: r) 0 0 rfl
    rw [← h]
    have h2 : ∀ (cs : List Int) (a : Int), a % n = a → (cs.foldl (fun f c => (f * b + c) % n) a) % n = cs.foldl (fun f c => (f * b + c) % n) a := by
      intro cs
      induction cs with
      | nil => exact fun a h => h
      | cons c r ih => exact fun a h => ih _ (Int.emod_emod_of_dvd _ (Int.dvd_refl n))
    exact (h2 (c :: r) 0 (by simp)).symm
/-! ### promises of the law's own drawing -/
def spMixed : Sp := fun vs H Q _ => ∃ a b : Int, vs = [.int a, .int b] ∧ 0 ≤ a ∧ a < 2 ^ 31 ∧ 0 ≤ b ∧ b < 2 ^ 60 ∧ ∀ r : Int, 0 ≤ r → r < 2 ^ 31 → Q (.int r) H
def spPurse (K : PySem.W.Frag) : Sp := fun vs H Q _ => ∃ (a : Addr) (ns : List Int) (i : Int), vs = [.ref a, .int i] ∧ SqL K H a (ns.map V.int) ∧ 0 ≤ i ∧ i < 2 ^ 40 ∧
  ∀ p H', H p = none → Same H H' → Purse H' p (1000 * i) → Q (.ref p) H'
def spDraw : Sp := fun vs H Q _ => ∃ (a : Addr) (n c : Int), vs = [.ref a, .int n] ∧ 0 < n ∧ n < 2 ^ 60 ∧ c < 2 ^ 50 ∧ Purse H a c ∧
  ∀ r H', 0 ≤ r → r < n → Keep a H H' → Purse H' a (c + 1) → Q (.int r) H'
theorem use_draw {H : Hp} {Q : VK} {E : XK} {a : Addr} {n c : Int} (p : Purse H a c) (n0 : 0 < n) (n1 : n < 2 ^ 60) (hc : c < 2 ^ 50) (q : ∀ r H', 0 ≤ r → r < n → Keep a H H' → Purse H' a (c + 1) → Q (.int r) H') :
    spDraw ([.ref a, .int n] ++ []) H Q E := ⟨a, n, c, rfl, n0, n1, hc, p, q⟩
def spGreat : Sp := fun vs H Q _ => ∃ (a : Addr) (n c : Int), vs = [.ref a, .int n] ∧ 0 ≤ n ∧ n < 1000 ∧ c < 2 ^ 49 ∧ Purse H a c ∧
  ∀ r H', 0 ≤ r → r < 10 ^ n.toNat → Keep a H H' → Purse H' a (c + n) → Q (.int r) H'
theorem use_great {H : Hp} {Q : VK} {E : XK} {a : Addr} {n c : Int} (p : Purse H a c) (n0 : 0 ≤ n) (n1 : n < 1000) (hc : c < 2 ^ 49) (q : ∀ r H', 0 ≤ r → r < 10 ^ n.toNat → Keep a H H' → Purse H' a (c + n) → Q (.int r) H') :
    spGreat ([.ref a, .int n] ++ []) H Q E := ⟨a, n, c, rfl, n0, n1, hc, p, q⟩

def spPairs : Sp := fun vs H Q _ => ∃ (a : Addr) (n c : Int), vs = [.ref a, .int n] ∧ 0 ≤ n ∧ n ≤ 11 ∧ c < 2 ^ 48 ∧ Purse H a c ∧
  ∀ l H' ps, H l = none → Keep a H H' → Purse H' a (c + 22) → PrL H' l ps → Asc 0 ps → Small ps → (ps.length : Int) ≤ n → (∀ q ∈ ps, q.2 ≤ 12) → Q (.ref l) H'
theorem use_pairs {H : Hp} {Q : VK} {E : XK} {a : Addr} {n c : Int} (p : Purse H a c) (n0 : 0 ≤ n) (n1 : n ≤ 11) (hc : c < 2 ^ 48)
    (q : ∀ l H' ps, H l = none → Keep a H H' → Purse H' a (c + 22) → PrL H' l ps → Asc 0 ps → Small ps → (ps.length : Int) ≤ n → (∀ q ∈ ps, q.2 ≤ 12) → Q (.ref l) H') : spPairs ([.ref a, .int n] ++ []) H Q E := ⟨a, n, c, rfl, n0, n1, hc, p, q⟩
def spSize : Sp := fun vs H Q _ => ∃ (l : Addr) (ps : List (Int × Int)), vs = [.ref l] ∧ PrL H l ps ∧ Small ps ∧ Q (.int (num ps)) H
def spStyle : Sp := fun vs H Q _ => ∃ (a : Addr) (c : Int), vs = [.ref a] ∧ c < 2 ^ 48 ∧ Purse H a c ∧
  ∀ p H' (y : Sty), H p = none → Keep a H H' → Purse H' a (c + 34) → H' p = some (.lst [.bl y.low, .int y.shift, .bl y.lead]) → y.shift.natAbs < 10 ^ 31 → Q (.ref p) H'
def spMarking (ca : CA) : Sp := fun vs H Q _ => ∃ (g : Addr) (y : Sty), vs = [.ref g] ∧ H g = some (.lst [.bl y.low, .int y.shift, .bl y.lead]) ∧ ∀ k H', H k = none → Same H H' → MkAt ca H' k y.low y.shift y.lead → Q (.ref k) H'
def spRoot : Sp := fun vs H Q _ => ∃ (a : Addr) (n c : Int), vs = [.ref a, .int n] ∧ 0 < n ∧ c < 2 ^ 48 ∧ Purse H a c ∧
  ∀ (r : Int) H', r.natAbs ≤ n.natAbs + 10 ^ 40 → Keep a H H' → Purse H' a (c + 43) → Q (.int r) H'
/-! ### the slots kept as a plain list -/
theorem w_st {t : TS} {N : List Str} {vs : List V} {σ' : L2.St} {D : Ends} {H : Hp} (h : L2.start N vs = σ') (q : t D σ' H) : t D (L2.start N vs) H := by rw [h]; exact q
theorem w_setN {te : TE} {i : Nat} {σ : L2.St} {σ' : V → L2.St} {D : Ends} {H : Hp} (h : ∀ x, σ.set i (some x) = σ' x) (q : te σ H fun x H1 => D.nx (σ' x) H1) : tAsg te (gName i) D σ H := by
  have e : (fun x H1 => D.nx (σ' x) H1) = fun x H1 => gName i x σ H1 D.nx := by
    funext x H1
    rw [← h x]
    rfl
  show te σ H fun x H1 => gName i x σ H1 D.nx
  rw [← e]
  exact q
theorem w_nxD {D : Ends} {σ : L2.St} {H : Hp} (q : D.nx σ H) : D.nx σ H := q
theorem w_rtD {D : Ends} {v : V} {H : Hp} (q : D.rt v H) : D.rt v H := q
theorem w_ctD {D : Ends} {σ : L2.St} {H : Hp} (q : D.ct σ H) : D.ct σ H := q
theorem w_bkD {D : Ends} {σ : L2.St} {H : Hp} (q : D.bk σ H) : D.bk σ H := q
end Bc

namespace Bc
open PySem PySem.Spec PyProof.Rows L2
/-! ### slices of ints, the law's own promise -/
theorem take_min {α : Type} (xs : List α) (j : Nat) : xs.take (min j xs.length) = xs.take j := by
  by_cases h : j ≤ xs.length
  · rw [Nat.min_eq_left h]
  · rw [Nat.min_eq_right (by omega), List.take_length, List.take_of_length_le (by omega)]
theorem drop_min {α : Type} (xs : List α) (j : Nat) : xs.drop (min j xs.length) = xs.drop j := by
  by_cases h : j ≤ xs.length
  · rw [Nat.min_eq_left h]
  · rw [Nat.min_eq_right (by omega), List.drop_length, List.drop_of_length_le (by omega)]
theorem cut_to (ls : List Int) (j : Nat) : cutV (ls.map V.int) none (some (j : Int)) = (ls.take j).map V.int := by
  unfold cutV
  rw [HT.sIx_none, HT.sIx_nat, List.drop_zero, Nat.sub_zero, take_min, List.map_take]
theorem cut_from (ls : List Int) (j : Nat) : cutV (ls.map V.int) (some (j : Int)) none = (ls.drop j).map V.int := by
  unfold cutV
  rw [HT.sIx_none, HT.sIx_nat, drop_min, List.map_drop, List.take_of_length_le]
  rw [List.length_drop, List.length_map]
  by_cases h : j ≤ ls.length
  · rw [Nat.min_eq_left h]; exact Nat.le_refl _
  · omega
theorem sz {n : Nat} (h : n ≤ 100000) : n ≤ sizeLine := Nat.le_trans h (by decide)
theorem map3 (a b c : List Int) : a.map V.int ++ b.map V.int ++ c.map V.int = (a ++ b ++ c).map V.int := by rw [List.map_append, List.map_append]
theorem vals_rev : ∀ {zs : List V} {ws : List Value}, Vals zs ws → Vals zs.reverse ws.reverse
  | _, _, .nil => .nil
  | _, _, .cons r t => by
    rw [List.reverse_cons, List.reverse_cons]
    exact Vals.append (vals_rev t) (.cons r .nil)
theorem Keep.toSame {p : Addr} {H H' : Hp} (n : H p = none) (k : Keep p H H') : Same H H' := fun b o h => k b o (fun e => by rw [e, n] at h; cases h) h
theorem small1 {p k : Int} (h : 0 < p ∧ p < 1024 ∧ 0 < k ∧ k ≤ 100) : Small [(p, k)] := ⟨fun q hq => by
  have : q = (p, k) := by simpa using hq
  rw [this]; exact h, by show 1 ≤ 64; decide⟩
def spLaw (K : PySem.W.Frag) : Sp := fun vs H Q _ => ∃ (a : Addr) (ns : List Int), vs = [.ref a] ∧ SqL K H a (ns.map V.int) ∧ ns.length ≤ 63 ∧ ∀ H', Q (.bl true) H'

end Bc
namespace Bc
open PySem PySem.Spec PyProof.Rows L2
/-! ### texts that are drawn -/
section
variable {J : It} {G : Hp → Prop} {te : TE} {vs : List Nat} {σ : L2.St} {H : Hp} {D : Addr} {Qd : Hp → Prop} {j : Nat}
theorem lc_drawsV (xs : List V) (a : Addr) (c n : Int) (R : V → Prop) (w : Walk J xs.length G (YAt xs)) (pu : Purse H a c) (hD : H D = none) (hG : ∀ H', Keep a H H' → G H') (sz : xs.length ≤ 100000)
    (wp : ∀ v, wipe ((wipe σ vs).set j v) vs = wipe σ vs)
    (step : ∀ (i : Nat) (x : V) (H' : Hp), xs[i]? = some x → Keep a H H' → Purse H' a (c + n * i) → ∀ Q' : VK, (∀ (y : V) (H'' : Hp), R y → Keep a H' H'' → Purse H'' a (c + n * ((i + 1 : Nat) : Int)) → Q' y H'') → te ((wipe σ vs).set j (some x)) H' Q')
    (q : ∀ (H' : Hp) (ys : List V), ys.length = xs.length → (∀ y ∈ ys, R y) → H' D = some (.lst ys) → Keep a H H' → Purse H' a (c + n * xs.length) → Qd H') :
    ∃ W : Nat → Nat → Hp → Prop, (∃ m, W 0 m (upd H D (.lst []))) ∧ ∀ i m H, W i m H →
      (J.stop i H ∧ Qd H) ∨ (J.go i H ∧ ∃ Nx : Hp → Prop, (∀ H', Nx H' → ∃ m', m' < m ∧ W (i + 1) m' H') ∧ ∀ x H', J.yld i H x H' → gName j x (wipe σ vs) H' fun σ2 H2 => wipe σ2 vs = wipe σ vs ∧ tYes σ2 H2 fun b H3 =>
        if b = true then te σ2 H3 fun y H4 => ∃ acc, H4 D = some (.lst acc) ∧ acc.length < sizeLine ∧ Nx (upd H4 D (.lst (acc ++ [y]))) else Nx H3) := by
  have nD : D ≠ a := pu.fresh hD
  refine lc_it w (fun i H' => ∃ ys : List V, ys.length = i ∧ (∀ y ∈ ys, R y) ∧ H' D = some (.lst ys) ∧ Keep a H H' ∧ Purse H' a (c + n * i)) ⟨[], rfl, (fun y h => by cases h), upd_same, .of (Same.new hD), (pu.same (Same.new hD)).le (by simp)⟩ (fun i H' _ h => by obtain ⟨_, _, _, _, k, _⟩ := h; exact hG H' k) ?_ ?_
  · rintro i x H1 H' hi ⟨ys, h1, h2, h3, h4, h5⟩ ⟨rfl, hx⟩
    refine ⟨wp _, w_yes ?_⟩
    rw [if_pos rfl]
    refine step i x H' hx h4 h5 _ fun y H2 r k2 p2 => ?_
    refine ⟨_, k2.at_ nD h3, ?_, ys ++ [y], ?_, ?_, ?_, ?_, ?_⟩
    · have : (100000 : Nat) < sizeLine := by decide
      omega
    · rw [List.length_append, h1]
      rfl
    · intro z hz
      rcases List.mem_append.mp hz with e | e
      · exact h2 z e
      · have : z = y := by simpa using e
        rw [this]; exact r
    · rw [upd_same]
    · intro b o nb hb
      rw [upd_ne (ne_of_none hb hD)]
      exact k2 _ _ nb (h4 _ _ nb hb)
    · obtain ⟨x1, y1, z1, e, r1⟩ := p2
      exact ⟨x1, y1, z1, by rw [upd_ne nD.symm]; exact e, r1⟩
  · rintro H' ⟨ys, h1, h2, h3, h4, h5⟩
    exact q H' ys h1 h2 h3 h4 h5
end
/-- a written text of plain signs -/
def Plain (z : Str) : Prop := ∀ c ∈ z.cps.toList, 32 ≤ c ∧ c ≤ 126
instance (z : Str) : Decidable (Plain z) := inferInstanceAs (Decidable (∀ c ∈ z.cps.toList, _))
theorem signs_of : ∀ {ys : List V}, (∀ y ∈ ys, ∃ c : Nat, (32 ≤ c ∧ c ≤ 126) ∧ y = .str ⟨#[c]⟩) → ∃ cs : List Nat, (∀ c ∈ cs, 32 ≤ c ∧ c ≤ 126) ∧ ys = (cs.map fun c => (⟨#[c]⟩ : Str)).map V.str
  | [], _ => ⟨[], (fun c h => by cases h), rfl⟩
  | y :: r, h => by
    obtain ⟨c, hc, e⟩ := h y (List.mem_cons_self ..)
    obtain ⟨cs, h1, h2⟩ := signs_of (ys := r) fun z hz => h z (List.mem_cons_of_mem _ hz)
    refine ⟨c :: cs, fun d hd => ?_, by rw [e, h2]; rfl⟩
    rcases List.mem_cons.mp hd with z | z
    · rw [z]; exact hc
    · exact h1 d z
theorem joinL_nil : ∀ cs : List Nat, TL.joinL [] (cs.map fun c => [c]) = cs
  | [] => rfl
  | [c] => rfl
  | c :: d :: r => by
    show [c] ++ ([] ++ TL.joinL [] ((d :: r).map fun c => [c])) = _
    rw [joinL_nil (d :: r)]
    rfl
theorem join_signs (cs : List Nat) : (Txt.join (Str.ofString "") (cs.map fun c => (⟨#[c]⟩ : Str))).cps.toList = cs := by
  rw [TL.join_eq]
  have h := TL.tl_join (Str.ofString "") (cs.map fun c => (⟨#[c]⟩ : Str))
  rw [List.map_map] at h
  exact h.trans (joinL_nil cs)
def spSigns : Sp := fun vs H Q _ => ∃ (a : Addr) (n c : Int), vs = [.ref a, .int n] ∧ 0 ≤ n ∧ n ≤ 1000 ∧ c < 2 ^ 48 ∧ Purse H a c ∧
  ∀ (z : Str) H', Keep a H H' → Purse H' a (c + 1 + n) → Plain z → (z.length : Int) = n → Q (.str z) H'
def spLetter : Sp := fun vs H Q _ => ∃ (a : Addr) (c : Int), vs = [.ref a] ∧ c < 2 ^ 48 ∧ Purse H a c ∧ ∀ (x : Int) H', Keep a H H' → Purse H' a (c + 34) → x.natAbs < 10 ^ 31 → Q (.int x) H'
theorem use_letter {H : Hp} {Q : VK} {E : XK} {a : Addr} {c : Int} (p : Purse H a c) (hc : c < 2 ^ 48) (q : ∀ (x : Int) H', Keep a H H' → Purse H' a (c + 34) → x.natAbs < 10 ^ 31 → Q (.int x) H') : spLetter ([.ref a] ++ []) H Q E := ⟨a, c, rfl, hc, p, q⟩
def NotAt (a : Addr) : V → Prop
  | .ref p => p ≠ a
  | _ => True
theorem TextAt.keep {a : Addr} {H H' : Hp} {v : V} {ls : List Int} (t : TextAt H v ls) (n : NotAt a v) (k : Keep a H H') : TextAt H' v ls := by
  cases t with
  | str z h l => exact .str z h l
  | lst p _ h l => exact .lst p _ (k _ _ n h) l
  | tup p _ h l => exact .tup p _ (k _ _ n h) l
def spText : Sp := fun vs H Q _ => ∃ (a : Addr) (n c : Int), vs = [.ref a, .int n] ∧ 0 ≤ n ∧ n ≤ 1000 ∧ c < 2 ^ 47 ∧ Purse H a c ∧
  ∀ (v : V) (ls : List Int) H', Keep a H H' → Purse H' a (c + 2 + 34 * (n + 1)) → TextAt H' v ls → NotAt a v → (ls.length : Int) ≤ n → (∀ l ∈ ls, l.natAbs < 10 ^ 31) → Q v H'
theorem use_text {H : Hp} {Q : VK} {E : XK} {a : Addr} {n c : Int} (p : Purse H a c) (n0 : 0 ≤ n) (n1 : n ≤ 1000) (hc : c < 2 ^ 47) (q : ∀ (v : V) (ls : List Int) H', Keep a H H' → Purse H' a (c + 2 + 34 * (n + 1)) → TextAt H' v ls → NotAt a v → (ls.length : Int) ≤ n → (∀ l ∈ ls, l.natAbs < 10 ^ 31) → Q v H') :
    spText ([.ref a, .int n] ++ []) H Q E := ⟨a, n, c, rfl, n0, n1, hc, p, q⟩
def spLetters : Sp := fun vs H Q _ => ∃ (v : V) (ls : List Int), vs = [v] ∧ TextAt H v ls ∧ ∀ l H', H l = none → Same H H' → H' l = some (.lst (ls.map V.int)) → Q (.ref l) H'
theorem mem_ints {cs : List Nat} {l : Int} (hc : ∀ c ∈ cs, 32 ≤ c ∧ c ≤ 126) (h : l ∈ cs.map Int.ofNat) : l.natAbs < 10 ^ 31 := by
  obtain ⟨c, h1, rfl⟩ := List.mem_map.mp h
  have := hc c h1
  show c < 10 ^ 31
  omega

end Bc
namespace Bc
open PySem PySem.Spec PyProof.Rows L2
/-! ### instances that are called, ways compared -/
section
variable {X : Cx} {k j : Nat} {C : Addr} {sp : Sp} {tf : TE} {t : TA} {fe e : Expr} {es : List Expr} {pos : Pos}
structure CalO (P : Program) (w : World) (K : PySem.W.Frag) (mg : Str → Option Value) (base : Heap) (k : Nat) (C : Addr) (sp : Sp) : Prop where
  ex : ∃ g : Addr, StX.CallO K C g ∧ FnR P w K mg base L2.CX0 k g sp
def tCO (C : Addr) (sp : Sp) (E : XK) (tf : TE) (t : TA) : TE := fun σ H Q => tf σ H fun y H1 => ∃ a, y = V.ref a ∧ t σ H1 fun vs H2 => ((∃ dx vs, SlX.Slt H2 a C dx vs) ∨ ∃ dx fs, H2 a = some (.ins C dx fs)) ∧ sp (V.ref a :: vs) H2 Q E
theorem pe_cO (hf : PE X fe tf) (c : CalO X.prog X.w X.K X.mg X.base k C sp) (hr : Room j X.A) (hk : k ≤ j) (ha : PA X (e :: es) t)
    (ht : eval (.Call fe (e :: es) [] pos) X.env = (do callWith pos (← eval fe X.env) [] (backTo pos (starEach (e :: es) X.env)) (backToKw pos (keywordEach [] X.env))) := by rfl)
    (he : starEach (e :: es) X.env = (false, eval e X.env) :: starEach es X.env := by rfl) (hpl : (backTo pos (starEach es X.env)).any (·.1) = false := by rfl) : PE X (.Call fe (e :: es) [] pos) (tCO C sp L2.E0 tf t) := by
  obtain ⟨g, c1, F⟩ := c.ex
  exact StX.pe_callO hf c1 F (hr.mono hk) pass0 ha ht he hpl
theorem w_cO {σ : L2.St} {H : Hp} {Q : VK} {E : XK} (q : tf σ H fun y H1 => ∃ a, y = V.ref a ∧ t σ H1 fun vs H2 => ((∃ dx vs, SlX.Slt H2 a C dx vs) ∨ ∃ dx fs, H2 a = some (.ins C dx fs)) ∧ sp (V.ref a :: vs) H2 Q E) : tCO C sp E tf t σ H Q := q
theorem w_insC {H : Hp} {a dx : Addr} {fs : List (Str × V)} {P : Prop} (h : H a = some (.ins C dx fs)) (q : P) : ((∃ dx vs, SlX.Slt H a C dx vs) ∨ ∃ dx fs, H a = some (.ins C dx fs)) ∧ P := ⟨.inr ⟨dx, fs, h⟩, q⟩
end
def plainS (y : Sty) (b n : Int) : Int := (y.shift + (if y.lead then b - 1 else 0)) % n
def spShift (c : CA) : Sp := fun vs H Q _ => ∃ (x : Addr) (b : Int) (ps : List (Int × Int)) (y : Sty), vs = [.ref x] ∧ WayAt c H x b ps y ∧ Q (.int (plainS y b (num ps))) H
def spLike (c : CA) : Sp := fun vs H Q _ => ∃ (x x' : Addr) (b b' : Int) (ps ps' : List (Int × Int)) (y y' : Sty), vs = [.ref x, .ref x'] ∧ WayAt c H x b ps y ∧ WayAt c H x' b' ps' y' ∧ y.low = y'.low ∧ Q .non H
def rParts (b n s b' n' s' : Int) : Bool := decide (n % n' = 0) && decide ((b - b') % n' = 0) && decide ((s - s') % n' = 0)
def spParts (c : CA) : Sp := fun vs H Q _ => ∃ (x x' : Addr) (b b' : Int) (ps ps' : List (Int × Int)) (y y' : Sty), vs = [.ref x, .ref x'] ∧ WayAt c H x b ps y ∧ WayAt c H x' b' ps' y' ∧ y.low = y'.low ∧ Q (.bl (rParts b (num ps) (plainS y b (num ps)) b' (num ps') (plainS y' b' (num ps')))) H
def rPartsL (low low' : Bool) (b n b' n' : Int) : Bool := decide (n % n' = 0) && (if low = low' then decide ((b - b') % n' = 0) else decide ((b * b' - 1) % n' = 0))
def spPartsL (c : CA) : Sp := fun vs H Q _ => ∃ (x x' : Addr) (b b' : Int) (ps ps' : List (Int × Int)) (y y' : Sty), vs = [.ref x, .ref x'] ∧ WayAt c H x b ps y ∧ WayAt c H x' b' ps' y' ∧ Q (.bl (rPartsL y.low y'.low b (num ps) b' (num ps'))) H
theorem WayAt.pos {c : CA} {H : Hp} {x : Addr} {b : Int} {ps : List (Int × Int)} {y : Sty} (h : WayAt c H x b ps y) : 0 < num ps := by
  obtain ⟨_, _, _, _, _, _, h1, h2⟩ := h
  omega
theorem decB {a b : Bool} : decide (V.bl a = V.bl b) = decide (a = b) := by cases a <;> cases b <;> rfl

end Bc
namespace Bc
open PySem PySem.Spec PyProof.Rows L2
/-! ### k96: sums turned about -/
theorem hv_app (u v : List Int) (b : Int) : hv (u ++ v) b = hv u b * b ^ v.length + hv v b := by
  show List.foldl _ _ _ = _
  rw [List.foldl_append, hv_fold]
  rfl
/-- 1 + b + .. -/
def geo (b : Int) (n : Nat) : Int := hv (List.replicate n 1) b
theorem geo_succ (b : Int) (n : Nat) : geo b (n + 1) = b ^ n + geo b n := by
  unfold geo
  rw [List.replicate_succ, hv_cons, List.length_replicate, Int.one_mul]
theorem geo_mul (b : Int) : ∀ n : Nat, (b - 1) * geo b n = b ^ n - 1
  | 0 => by simp [geo, hv]
  | n + 1 => by
    rw [geo_succ, Int.pow_succ, Int.mul_add, geo_mul b n]
    grind
theorem hv_map (s b : Int) : ∀ ls : List Int, hv (ls.map (· + s)) b = hv ls b + s * geo b ls.length
  | [] => by simp [geo, hv]
  | l :: r => by
    rw [List.map_cons, hv_cons, hv_cons, hv_map s b r, List.length_map, List.length_cons, geo_succ]
    grind
/-- the mark, by the sum -/
theorem mark_hv (y : Sty) (b n : Int) (ls : List Int) : mark y b n ls = ((if y.lead then 1 else 0) * b ^ ls.length + hv (if y.low then ls.reverse else ls) b + y.shift * geo b ls.length) % n := by
  unfold mark hf
  rw [rest_hv, hv_cons]
  by_cases h : y.low = true
  · rw [if_pos h, if_pos h, ← List.map_reverse, hv_map, List.length_map, List.length_reverse, Int.add_assoc]
  · rw [if_neg h, if_neg h, hv_map, List.length_map, Int.add_assoc]
theorem emod_of {n x y : Int} (k : Int) (h : x = y + n * k) : x % n = y % n := by
  rw [h, Int.add_mul_emod_self_left]
theorem plain_mark (y : Sty) (b n : Int) (ls : List Int) : (mark ⟨y.low, plainS y b n, false⟩ b n ls + (if y.lead then 1 else 0)) % n = mark y b n ls := by
  rw [mark_hv, mark_hv, Int.emod_add_emod]
  unfold plainS
  have h := geo_mul b ls.length
  generalize b ^ ls.length = p at h ⊢
  generalize hv (if y.low = true then ls.reverse else ls) b = z
  generalize geo b ls.length = g at h ⊢
  by_cases hl : y.lead = true
  · simp only [hl, if_true, Bool.false_eq_true, if_false]
    refine emod_of (-((y.shift + (b - 1)) / n) * g) ?_
    rw [Int.emod_def]
    generalize (y.shift + (b - 1)) / n = q
    grind
  · have hl' : y.lead = false := by simpa using hl
    simp only [hl', if_true, Bool.false_eq_true, if_false]
    refine emod_of (-((y.shift + 0) / n) * g) ?_
    rw [Int.emod_def]
    generalize (y.shift + 0) / n = q
    grind
theorem hv_mod (b n : Int) : ∀ cs : List Int, hv cs (b % n) % n = hv cs b % n := fun cs => by
  have h : ∀ (cs : List Int) (a a' : Int), a % n = a' % n → (cs.foldl (fun f c => f * (b % n) + c) a) % n = (cs.foldl (fun f c => f * b + c) a') % n := by
    intro cs
    induction cs with
    | nil => exact fun a a' h => h
    | cons c r ih =>
      intro a a' h
      rw [List.foldl_cons, List.foldl_cons]
      refine ih _ _ ?_
      rw [Int.add_emod, Int.mul_emod, h, Int.emod_emod_of_dvd _ (Int.dvd_refl n), ← Int.mul_emod, ← Int.add_emod]
  exact h cs 0 0 rfl
/-- the difference of two lists of one length -/
def sub2 (ls ms : List Int) : List Int := List.zipWith (· - ·) ls ms
theorem hv_sub (b : Int) : ∀ {ls ms : List Int}, ls.length = ms.length → hv (sub2 ls ms) b = hv ls b - hv ms b
  | [], [], _ => by simp [sub2, hv]
  | [], _ :: _, h => by cases h
  | _ :: _, [], h => by cases h
  | l :: r, m :: t, h => by
    have h' : r.length = t.length := by simpa using h
    have e : sub2 (l :: r) (m :: t) = (l - m) :: sub2 r t := rfl
    have el : (sub2 r t).length = r.length := by unfold sub2; rw [List.length_zipWith]; omega
    rw [e, hv_cons, hv_cons, hv_cons, hv_sub b h', el, ← h']
    grind
theorem sub2_rev : ∀ {ls ms : List Int}, ls.length = ms.length → sub2 ls.reverse ms.reverse = (sub2 ls ms).reverse := fun {ls ms} h => by
  unfold sub2
  rw [List.reverse_zipWith h]
/-- two texts of one length agree just if the number divides the sum of their difference -/
theorem agree_iff {y : Sty} {b n : Int} {ls ms : List Int} (hl : ls.length = ms.length) : mark y b n ls = mark y b n ms ↔ n ∣ hv (if y.low then (sub2 ls ms).reverse else sub2 ls ms) b := by
  rw [mark_hv, mark_hv, Int.emod_eq_emod_iff_emod_sub_eq_zero, ← Int.dvd_iff_emod_eq_zero]
  have e : hv (if y.low then (sub2 ls ms).reverse else sub2 ls ms) b = hv (if y.low then ls.reverse else ls) b - hv (if y.low then ms.reverse else ms) b := by
    by_cases h : y.low = true
    · rw [if_pos h, if_pos h, if_pos h, ← sub2_rev hl, hv_sub b (by simpa using hl)]
    · rw [if_neg h, if_neg h, if_neg h, hv_sub b hl]
  rw [e, hl]
  have e2 : ∀ p q r s g : Int, p + q + s - (p + r + s) = q - r := fun p q r s g => by omega
  rw [e2 _ _ _ _ 0]
/-- read from the other end by an inverse -/
theorem hv_turn {b c n u : Int} (h : b * c = 1 + n * u) : ∀ ds : List Int, ∃ k, hv ds.reverse c * b ^ ds.length = hv ds b * b + n * k
  | [] => ⟨0, by simp [hv]⟩
  | d :: r => by
    obtain ⟨k, hk⟩ := hv_turn h r
    refine ⟨hv r.reverse c * b ^ r.length * u + k, ?_⟩
    have e : hv [d] c = d := by simp [hv]
    rw [List.reverse_cons, hv_app, e, hv_cons d r b]
    show (hv r.reverse c * c ^ 1 + d) * b ^ (r.length + 1) = _
    rw [Int.pow_succ b r.length]
    generalize hv r.reverse c = x at hk ⊢
    generalize b ^ r.length = p at hk ⊢
    generalize hv r b = z at hk ⊢
    grind
theorem turn_dvd {b c n u : Int} (h : b * c = 1 + n * u) (ds : List Int) : n ∣ hv ds.reverse c ↔ n ∣ hv ds b := by
  obtain ⟨k, hk⟩ := hv_turn h ds
  have hp : ∀ m : Nat, ∃ v, b ^ m * c ^ m = 1 + n * v := fun m => by
    induction m with
    | zero => exact ⟨0, by simp⟩
    | succ m ih =>
      obtain ⟨v, hv⟩ := ih
      refine ⟨v + u + n * u * v, ?_⟩
      rw [Int.pow_succ, Int.pow_succ]
      generalize b ^ m = p at hv ⊢
      generalize c ^ m = q at hv ⊢
      grind
  constructor
  · rintro ⟨t, ht⟩
    refine ⟨t * b ^ ds.length * c - k * c - hv ds b * u, ?_⟩
    rw [ht] at hk
    generalize hv ds b = z at hk ⊢
    generalize b ^ ds.length = p at hk ⊢
    grind
  · rintro ⟨t, ht⟩
    obtain ⟨v, hv'⟩ := hp ds.length
    refine ⟨(t * b + k) * c ^ ds.length - hv ds.reverse c * v, ?_⟩
    rw [ht] at hk
    generalize hv ds.reverse c = z at hk ⊢
    generalize b ^ ds.length = p at hk hv' ⊢
    generalize c ^ ds.length = q at hv' ⊢
    grind

def spInv : Sp := fun vs H Q _ => ∃ (r n : Int) (B : Nat), vs = [.int r, .int n] ∧ 0 < n ∧ n.natAbs < 2 ^ B ∧ B ≤ 8000 ∧ (∀ (i u : Int) H', Same H H' → 0 ≤ i → i < n → r * i = 1 + n * u → Q (.int i) H') ∧ (∀ H', Same H H' → (∀ i u : Int, r * i ≠ 1 + n * u) → Q .non H')
/-- the two rows of the search for an inverse -/
def InvRow (r n one two f l : Int) : Prop := (one ≤ n ∧ two ≤ n) ∧ 0 < one ∧ 0 ≤ two ∧ (∃ u, f * r = one + n * u) ∧ (∃ v, l * r = two + n * v) ∧ Int.gcd one two = Int.gcd r n ∧ ∃ s F L : Int, (s = 1 ∨ s = -1) ∧ f = -s * F ∧ l = s * L ∧ 0 ≤ F ∧ 0 ≤ L ∧ L * one + F * two = n
theorem InvRow.start {r n : Int} (hn : 0 < n) : InvRow r n n (r % n) 0 1 := by
  have hlt := Int.emod_lt_of_pos r hn
  refine ⟨⟨by omega, by omega⟩, hn, Int.emod_nonneg _ (by omega), ⟨-1, by omega⟩, ⟨r / n, ?_⟩, ?_, 1, 0, 1, .inl rfl, rfl, rfl, by decide, by decide, by omega⟩
  · have := Int.emod_add_mul_ediv r n
    omega
  · have h := Int.gcd_mul_left_add_left n (r % n) (r / n)
    rw [Int.mul_ediv_add_emod] at h
    rw [Int.gcd_comm, h]
theorem InvRow.step {r n one two f l : Int} (h : InvRow r n one two f l) (h2 : two ≠ 0) : InvRow r n two (one - one / two * two) l (f - one / two * l) := by
  obtain ⟨a0, a1, a2, ⟨u, a3⟩, ⟨v, a4⟩, a5, s, F, L, a6, a7, a8, a9, a10, a11⟩ := h
  have hlt := Int.emod_lt_of_pos one (show 0 < two by omega)
  have e : one - one / two * two = one % two := by rw [Int.emod_def, Int.mul_comm]
  have hm := Int.emod_nonneg one h2
  have hq : 0 ≤ one / two := Int.ediv_nonneg (by omega) a2
  refine ⟨⟨by omega, by omega⟩, by omega, by omega, ⟨v, a4⟩, ⟨u - one / two * v, ?_⟩, ?_, -s, L, F + one / two * L, ?_, ?_, ?_, a10, ?_, ?_⟩
  · generalize one / two = t
    grind
  · rw [e, ← a5]
    have h6 := Int.gcd_mul_left_add_right two (one % two) (one / two)
    rw [Int.mul_ediv_add_emod] at h6
    rw [← h6, Int.gcd_comm]
  · omega
  · rw [a8]; grind
  · rw [a7, a8]
    generalize one / two = t
    grind
  · have := Int.mul_nonneg hq a10
    omega
  · generalize one / two = t
    grind
theorem InvRow.small {r n one two f l : Int} (h : InvRow r n one two f l) : l.natAbs ≤ n.natAbs := by
  obtain ⟨_, a1, a2, _, _, _, s, F, L, a6, a7, a8, a9, a10, a11⟩ := h
  have h1 : L ≤ L * one := by
    have := Int.mul_le_mul_of_nonneg_left (show 1 ≤ one by omega) a10
    omega
  have h2 : 0 ≤ F * two := Int.mul_nonneg a9 a2
  rcases a6 with rfl | rfl <;> omega
theorem InvRow.ends {r n one f l : Int} (h : InvRow r n one 0 f l) : (one = 1 → ∃ u, r * (f % n) = 1 + n * u) ∧ (one ≠ 1 → ∀ i u : Int, r * i ≠ 1 + n * u) := by
  obtain ⟨_, a1, _, ⟨u, a3⟩, _, a5, _⟩ := h
  constructor
  · intro e
    refine ⟨u - r * (f / n), ?_⟩
    rw [Int.emod_def]
    generalize f / n = q
    grind
  · intro e i u z
    rw [Int.gcd_zero] at a5
    have h1 : (Int.gcd r n : Int) ∣ 1 := by
      have d1 : (Int.gcd r n : Int) ∣ r * i := Int.dvd_trans (Int.gcd_dvd_left r n) (Int.dvd_mul_right _ _)
      have d2 : (Int.gcd r n : Int) ∣ n * u := Int.dvd_trans (Int.gcd_dvd_right r n) (Int.dvd_mul_right _ _)
      have := Int.dvd_sub d1 d2
      rwa [z, show 1 + n * u - n * u = 1 by omega] at this
    have h2 := Int.le_of_dvd (by decide) h1
    omega
def spNear : Sp := fun vs H Q _ => ∃ (a l : Addr) (ls : List Int) (r n c : Int), vs = [.ref a, .ref l, .int r, .int n] ∧ l ≠ a ∧ H l = some (.lst (ls.map V.int)) ∧ ls.length ≤ 1000 ∧ c < 2 ^ 47 ∧ Purse H a c ∧
  ∀ (m : Addr) (ms : List Int) H', H m = none → Keep a H H' → Purse H' a (c + 5) → H' m = some (.lst (ms.map V.int)) → ms.length = ls.length → hv ms r = hv ls r → Q (.ref m) H'
theorem near_hv {ls : List Int} {j : Nat} (h : j + 1 < ls.length) (s r : Int) : hv (ls.take j ++ [ls.getD j 0 + s, ls.getD (j + 1) 0 - s * r] ++ ls.drop (j + 2)) r = hv ls r := by
  have e : ls = ls.take j ++ [ls.getD j 0, ls.getD (j + 1) 0] ++ ls.drop (j + 2) := by
    have h1 : ls.getD j 0 = ls[j] := by simp [List.getD, h, show j < ls.length by omega]
    have h2 : ls.getD (j + 1) 0 = ls[j + 1] := by simp [List.getD, h]
    rw [h1, h2, List.append_assoc]
    show ls = ls.take j ++ (ls[j] :: ls[j + 1] :: ls.drop (j + 2))
    rw [← List.drop_eq_getElem_cons h, ← List.drop_eq_getElem_cons (show j < ls.length by omega), List.take_append_drop]
  conv => rhs; rw [e]
  rw [hv_app, hv_app, hv_app, hv_app]
  have e3 : ∀ x y : Int, hv [x, y] r = x * r + y := fun x y => by simp [hv]
  rw [e3, e3]
  generalize hv (ls.take j) r = z
  generalize hv (ls.drop (j + 2)) r = w
  generalize r ^ (ls.drop (j + 2)).length = p
  show (z * r ^ 2 + _) * p + w = (z * r ^ 2 + _) * p + w
  generalize r ^ 2 = q
  grind
def spRight : Sp := fun vs H Q _ => ∃ (a : Addr) (c : Int), vs = [.ref a] ∧ c < 2 ^ 46 ∧ Purse H a c ∧ ∀ H', Keep a H H' → Purse H' a (c + 10000) → Q (.bl true) H'
theorem cut3 (x y z : V) : cutV [x, y, z] (some 1) none = [y, z] := by
  have h := HT.sIx_nat 3 0 1
  unfold cutV
  rw [HT.sIx_none, show HT.sIx [x, y, z].length 0 (some 1) = min 1 3 from h]
  rfl
theorem three_ne (l : Bool) (s : Int) (d : Bool) (x y z : Int) : HO.lst [.bl l, .int s, .bl d] ≠ .lst [.int x, .int y, .int z] := fun e => by cases e
theorem bound3 {ps : List (Int × Int)} (hs : Small ps) (hl : (ps.length : Int) ≤ 3) : (num ps).natAbs < 2 ^ 3031 := by
  have h := (num_bound hs ps.length (Nat.le_refl _)).2
  rw [List.take_length] at h
  exact Nat.lt_of_lt_of_le h (Nat.pow_le_pow_right (by decide) (by omega))
theorem mark_rev1 (s : Int) (d : Bool) (b n : Int) (ls : List Int) : mark ⟨true, s, d⟩ b n ls.reverse = mark ⟨false, s, d⟩ b n ls := by
  unfold mark hf
  simp only [if_true, Bool.false_eq_true, if_false]
  rw [← List.map_reverse, List.reverse_reverse]
theorem mark_rev2 (s : Int) (d : Bool) (b n : Int) (ls : List Int) : mark ⟨false, s, d⟩ b n ls.reverse = mark ⟨true, s, d⟩ b n ls := by
  unfold mark hf
  simp only [if_true, Bool.false_eq_true, if_false]
  rw [List.map_reverse]
theorem plainS_plain (y : Sty) (l : Bool) (b n : Int) : plainS ⟨l, plainS y b n, false⟩ b n = plainS y b n := by
  unfold plainS
  simp only [Bool.false_eq_true, if_false]
  rw [Int.add_zero, Int.emod_emod_of_dvd _ (Int.dvd_refl n)]
theorem parts_self (b n s : Int) : rParts b n s b n s = true := by
  unfold rParts
  simp
theorem partsL_no {r n : Int} (h : ∀ i u : Int, r * i ≠ 1 + n * u) : rPartsL false true (r % n) n (r % n) n = false := by
  unfold rPartsL
  rw [if_neg (by decide)]
  have : ¬ (r % n * (r % n) - 1) % n = 0 := fun z => by
    obtain ⟨k, hk⟩ := Int.dvd_of_emod_eq_zero z
    refine h (r % n) (k + r / n * (r % n)) ?_
    have e := Int.emod_add_mul_ediv r n
    generalize r / n = q at e ⊢
    generalize r % n = m at e hk ⊢
    grind
  rw [decide_eq_false this, Bool.and_false]
theorem prod_mod {r n i u : Int} (h : r * i = 1 + n * u) : ∃ v, r % n * (i % n) = 1 + n * v := by
  refine ⟨u - r / n * i - i / n * r + n * (r / n) * (i / n), ?_⟩
  rw [Int.emod_def, Int.emod_def]
  generalize r / n = q
  generalize i / n = t
  grind
theorem partsL_yes {r n i u : Int} (h : r * i = 1 + n * u) : rPartsL false true (r % n) n (i % n) n = true ∧ rPartsL true false (i % n) n (r % n) n = true := by
  obtain ⟨v, hv⟩ := prod_mod h
  unfold rPartsL
  rw [if_neg (by decide), if_neg (by decide), Int.mul_comm (i % n), hv, show 1 + n * v - 1 = n * v by omega]
  simp
theorem agree_turn {r n i u s : Int} {d d' : Bool} {ls ms : List Int} (h : r * i = 1 + n * u) (hl : ls.length = ms.length) : rAgree ⟨false, s, d⟩ (r % n) n ls ms = rAgree ⟨true, s, d'⟩ (i % n) n ls ms := by
  obtain ⟨v, hv⟩ := prod_mod h
  unfold rAgree
  have h1 := agree_iff (y := ⟨false, s, d⟩) (b := r % n) (n := n) hl
  have h2 := agree_iff (y := ⟨true, s, d'⟩) (b := i % n) (n := n) hl
  simp only [if_true, Bool.false_eq_true, if_false] at h1 h2
  rw [turn_dvd hv] at h2
  exact decide_eq_decide.mpr (h1.trans h2.symm)
theorem agree_near {r n s : Int} {d : Bool} {ls ms : List Int} (hl : ms.length = ls.length) (hv' : hv ms r = hv ls r) : rAgree ⟨false, s, d⟩ (r % n) n ls ms = true := by
  unfold rAgree
  refine decide_eq_true ?_
  rw [agree_iff hl.symm]
  simp only [Bool.false_eq_true, if_false]
  rw [hv_sub _ hl.symm, Int.dvd_iff_emod_eq_zero, Int.sub_emod, hv_mod, hv_mod, hv', ← Int.sub_emod, Int.sub_self]
  rfl
theorem w_revx {K : PySem.W.Frag} {H : Hp} {x : Addr} {xs : List V} {P : Addr → List V → Prop} (h : SqL K H x xs) (q : ∀ p, H p = none → P p xs) : ∃ a xs, V.ref x = .ref a ∧ SqL K H a xs ∧ ∀ p, H p = none → P p xs := ⟨x, xs, rfl, h, q⟩

end Bc
namespace Bc
open PySem PySem.Spec PyProof.Rows L2
/-! ### pieces of texts: sums that are not reduced -/
def ld (y : Sty) : Int := if y.lead then 1 else 0
def Sm (y : Sty) (b : Int) (ls : List Int) : Int := ld y * b ^ ls.length + hv (if y.low then ls.reverse else ls) b + y.shift * geo b ls.length
theorem mark_Sm (y : Sty) (b n : Int) (ls : List Int) : mark y b n ls = Sm y b ls % n := mark_hv y b n ls
theorem geo_add (b : Int) (m : Nat) : ∀ k : Nat, geo b (k + m) = geo b k * b ^ m + geo b m
  | 0 => by rw [Nat.zero_add]; simp [geo, hv]
  | k + 1 => by
    rw [Nat.add_right_comm, geo_succ, geo_succ, geo_add b m k, Int.pow_add]
    grind
theorem geo_add2 (b : Int) (k m : Nat) : geo b (k + m) = geo b k + b ^ k * geo b m := by
  rw [Nat.add_comm, geo_add]
  grind
theorem Sm_high {y : Sty} (h : y.low = false) (b : Int) (u v : List Int) : Sm y b (u ++ v) = (Sm y b u - ld y) * b ^ v.length + Sm y b v := by
  unfold Sm
  rw [h]
  simp only [Bool.false_eq_true, if_false]
  rw [List.length_append, hv_app, geo_add, Int.pow_add]
  generalize b ^ u.length = p
  generalize b ^ v.length = q
  grind
theorem Sm_low {y : Sty} (h : y.low = true) (b : Int) (u v : List Int) : Sm y b (u ++ v) = Sm y b u + b ^ u.length * (Sm y b v - ld y) := by
  unfold Sm
  rw [h]
  simp only [if_true]
  rw [List.length_append, List.reverse_append, hv_app, geo_add2, Int.pow_add, List.length_reverse]
  generalize b ^ u.length = p
  generalize b ^ v.length = q
  grind
theorem cg {n x y : Int} : x % n = y % n ↔ ∃ k, x = y + n * k := by
  rw [Int.emod_eq_emod_iff_emod_sub_eq_zero, ← Int.dvd_iff_emod_eq_zero]
  constructor
  · rintro ⟨k, hk⟩
    exact ⟨k, by omega⟩
  · rintro ⟨k, hk⟩
    exact ⟨k, by omega⟩
theorem self_mod (n x : Int) : ∃ k, x % n = x + n * k := ⟨-(x / n), by rw [Int.emod_def]; grind⟩
/-- what joined reckons -/
theorem join_high {y : Sty} (h : y.low = false) (b n : Int) (u v : List Int) : (b ^ v.length % n * (mark y b n u - ld y) + mark y b n v) % n = mark y b n (u ++ v) := by
  rw [mark_Sm, mark_Sm, mark_Sm, Sm_high h, cg]
  obtain ⟨k1, e1⟩ := self_mod n (b ^ v.length)
  obtain ⟨k2, e2⟩ := self_mod n (Sm y b u)
  obtain ⟨k3, e3⟩ := self_mod n (Sm y b v)
  rw [e1, e2, e3]
  generalize b ^ v.length = q
  generalize Sm y b u = su
  generalize Sm y b v = sv
  exact ⟨q * k2 + k1 * (su - ld y) + n * k1 * k2 + k3, by grind⟩
theorem join_low {y : Sty} (h : y.low = true) (b n : Int) (u v : List Int) : (mark y b n u + b ^ u.length % n * (mark y b n v - ld y)) % n = mark y b n (u ++ v) := by
  rw [mark_Sm, mark_Sm, mark_Sm, Sm_low h, cg]
  obtain ⟨k1, e1⟩ := self_mod n (b ^ u.length)
  obtain ⟨k2, e2⟩ := self_mod n (Sm y b v)
  obtain ⟨k3, e3⟩ := self_mod n (Sm y b u)
  rw [e1, e2, e3]
  generalize b ^ u.length = q
  generalize Sm y b u = su
  generalize Sm y b v = sv
  exact ⟨q * k2 + k1 * (sv - ld y) + n * k1 * k2 + k3, by grind⟩
/-- the right part of a high one, the left part of a low one -/
theorem right_high {y : Sty} (h : y.low = false) (b n : Int) (u v : List Int) : (mark y b n (u ++ v) - b ^ v.length % n * (mark y b n u - ld y)) % n = mark y b n v := by
  rw [mark_Sm, mark_Sm, mark_Sm, Sm_high h, cg]
  obtain ⟨k1, e1⟩ := self_mod n (b ^ v.length)
  obtain ⟨k2, e2⟩ := self_mod n (Sm y b u)
  obtain ⟨k3, e3⟩ := self_mod n ((Sm y b u - ld y) * b ^ v.length + Sm y b v)
  rw [e1, e2, e3]
  generalize b ^ v.length = q
  generalize Sm y b u = su
  generalize Sm y b v = sv
  exact ⟨k3 - q * k2 - k1 * (su - ld y) - n * k1 * k2, by grind⟩
theorem left_low {y : Sty} (h : y.low = true) (b n : Int) (u v : List Int) : (mark y b n (u ++ v) - b ^ u.length % n * (mark y b n v - ld y)) % n = mark y b n u := by
  rw [mark_Sm, mark_Sm, mark_Sm, Sm_low h, cg]
  obtain ⟨k1, e1⟩ := self_mod n (b ^ u.length)
  obtain ⟨k2, e2⟩ := self_mod n (Sm y b v)
  obtain ⟨k3, e3⟩ := self_mod n (Sm y b u + b ^ u.length * (Sm y b v - ld y))
  rw [e1, e2, e3]
  generalize b ^ u.length = q
  generalize Sm y b u = su
  generalize Sm y b v = sv
  exact ⟨k3 - q * k2 - k1 * (sv - ld y) - n * k1 * k2, by grind⟩
/-- powers by halves -/
def spPower : Sp := fun vs H Q _ => ∃ (b e n : Int) (B : Nat), vs = [.int b, .int e, .int n] ∧ 0 ≤ e ∧ e < 2 ^ 60 ∧ 0 < n ∧ n.natAbs < 2 ^ B ∧ B ≤ 100000 ∧ Q (.int (b ^ e.toNat % n)) H
theorem half_pow (f : Int) (x : Int) (h : 0 < x) : f ^ x.toNat = (if x % 2 = 1 then f else 1) * (f * f) ^ (x / 2).toNat := by
  have e : x.toNat = (x / 2).toNat + (x / 2).toNat + (x % 2).toNat := by omega
  have h2 : x % 2 = 0 ∨ x % 2 = 1 := by omega
  have hm : ∀ k : Nat, (f * f) ^ k = f ^ k * f ^ k := fun k => by
    induction k with
    | zero => simp
    | succ k ih => rw [Int.pow_succ, Int.pow_succ, ih]; grind
  rw [hm]
  rcases h2 with h2 | h2
  · rw [if_neg (by omega), e, h2, Int.pow_add, Int.pow_add]
    simp
  · rw [if_pos h2, e, h2, Int.pow_add, Int.pow_add]
    show f ^ _ * f ^ _ * f ^ 1 = _
    grind
def spReqMark (c : CA) : Sp := fun vs H Q _ => ∃ (x : Addr) (m b : Int) (ps : List (Int × Int)) (y : Sty), vs = [.ref x, .int m] ∧ WayAt c H x b ps y ∧ 0 ≤ m ∧ m < num ps ∧ Q .non H
def spReqLen : Sp := fun vs H Q _ => ∃ n : Int, vs = [.int n] ∧ 0 ≤ n ∧ Q .non H
def spReqPlace : Sp := fun vs H Q _ => ∃ n f l : Int, vs = [.int n, .int f, .int l] ∧ f ≤ n ∧ n ≤ l ∧ Q .non H
def spReqLetter : Sp := fun vs H Q _ => ∃ n : Int, vs = [.int n] ∧ Q .non H
def spReqPieces (c : CA) : Sp := fun vs H Q _ => ∃ (x : Addr) (m k i j b : Int) (ps : List (Int × Int)) (y : Sty), vs = [.ref x, .int m, .int k, .int i, .int j] ∧ WayAt c H x b ps y ∧ (0 ≤ m ∧ m < num ps) ∧ (0 ≤ k ∧ k < num ps) ∧ 0 ≤ i ∧ 0 ≤ j ∧ Q .non H
def spWeight (c : CA) : Sp := fun vs H Q _ => ∃ (x : Addr) (e b : Int) (ps : List (Int × Int)) (y : Sty), vs = [.ref x, .int e] ∧ WayAt c H x b ps y ∧ 0 ≤ e ∧ e < 2 ^ 60 ∧ Q (.int (b ^ e.toNat % num ps)) H
/-- joined, right_of, left_of, changed, rolled: two texts and what is told -/
def spJoined (c : CA) : Sp := fun vs H Q _ => ∃ (x : Addr) (b : Int) (ps : List (Int × Int)) (y : Sty) (u v : List Int), vs = [.ref x, .int (mark y b (num ps) u), .int (mark y b (num ps) v), .int u.length, .int v.length] ∧ WayAt c H x b ps y ∧ u.length < 2 ^ 40 ∧ v.length < 2 ^ 40 ∧ Q (.int (mark y b (num ps) (u ++ v))) H
theorem mark_range {y : Sty} {b n : Int} (hn : 0 < n) (ls : List Int) : 0 ≤ mark y b n ls ∧ mark y b n ls < n := rest_range hn _
theorem ld_int (y : Sty) : (if y.lead = true then (1 : Int) else 0) = ld y := rfl
theorem pow_mod_range {b n : Int} (hn : 0 < n) (e : Nat) : 0 ≤ b ^ e % n ∧ b ^ e % n < n := ⟨Int.emod_nonneg _ (by omega), Int.emod_lt_of_pos _ hn⟩
theorem ld_range (y : Sty) : 0 ≤ ld y ∧ ld y ≤ 1 := by unfold ld; split <;> omega
theorem WayAt.bits {c : CA} {H : Hp} {x : Addr} {b : Int} {ps : List (Int × Int)} {y : Sty} (h : WayAt c H x b ps y) : (num ps).natAbs < 2 ^ 70000 := by
  obtain ⟨_, _, _, _, ⟨_, _, _, _, _, _, _, hs⟩, _⟩ := h
  exact num_lt hs

end Bc
namespace Bc
open PySem PySem.Spec PyProof.Rows L2
/-! ### heaps by chains: what is known below the purse -/
def rm (a : Addr) (H : Hp) : Hp := fun b => if b = a then none else H b
section
variable {a b p : Addr} {c d : Int} {H H' X : Hp} {o : HO} {Q : VK} {ca : CA} {K : PySem.W.Frag}
theorem rm_le : Same (rm a H) H := fun b o h => by
  unfold rm at h
  by_cases e : b = a
  · rw [if_pos e] at h; cases h
  · rwa [if_neg e] at h
theorem rm_of (n : b ≠ a) (h : H b = some o) : rm a H b = some o := by
  unfold rm
  rw [if_neg n]; exact h
theorem rm_none (h : H b = none) : rm a H b = none := by
  unfold rm
  by_cases e : b = a
  · rw [if_pos e]
  · rw [if_neg e]; exact h
theorem rm_self : rm a H a = none := by
  unfold rm
  rw [if_pos rfl]
theorem Keep.rm (k : Keep a H H') : Same (rm a H) (rm a H') := fun b o h => by
  by_cases e : b = a
  · rw [e, rm_self] at h; cases h
  · exact rm_of e (k b o e (rm_le _ _ h))
theorem _root_.L2.Same.rm (s : Same H H') : Same (rm a H) (rm a H') := Keep.rm (.of s)
theorem Keep.ofR (s : Same (Bc.rm a H) (Bc.rm a H')) : Keep a H H' := fun b o n h => rm_le _ _ (s b o (rm_of n h))
theorem rm_new (n : H a = none) (s : Same (Bc.rm a H) X) : Same H X := fun b o h => s b o (rm_of (fun e => by rw [e, n] at h; cases h) h)
theorem rm_in (n : X a = none) (s : Same X H) : Same X (rm a H) := fun b o h => rm_of (fun e => by rw [e, n] at h; cases h) (s b o h)
theorem rm_upd (n : p ≠ a) : rm a (upd H p o) = upd (rm a H) p o := by
  funext b
  by_cases e : b = a
  · rw [e, rm_self, upd_ne n.symm, rm_self]
  · by_cases e2 : b = p
    · rw [e2, upd_same, rm_of n upd_same]
    · rw [upd_ne e2]
      unfold rm
      rw [if_neg e, if_neg e, upd_ne e2]
theorem rm_updS : rm a (upd H a o) = rm a H := by
  funext b
  by_cases e : b = a
  · rw [e, rm_self, rm_self]
  · unfold rm
    rw [if_neg e, if_neg e, upd_ne e]
theorem rm_free (n : H a = none) : rm a H = H := by
  funext b
  by_cases e : b = a
  · rw [e, rm_self, n]
  · unfold rm
    rw [if_neg e]
theorem rm_comm : rm a (rm b H) = rm b (rm a H) := by
  funext x
  unfold rm
  by_cases e : x = a
  · rw [if_pos e]
    by_cases e2 : x = b
    · rw [if_pos e2]
    · rw [if_neg e2, if_pos e]
  · rw [if_neg e]
    by_cases e2 : x = b
    · rw [if_pos e2, if_pos e2]
    · rw [if_neg e2, if_neg e2, if_neg e]
theorem same_rm (s : Same X (rm a H)) : Same X H := s.trans rm_le
theorem hpL (h : X b = some o) (s : Same X H) : H b = some o := s _ _ h
theorem al (q : ∀ p H', H p = none → Same H H' → H' p = some o → atV Q (.ref p) H') : ∀ p, H p = none → atV Q (.ref p) (upd H p o) := fun p n => q p _ n (Same.new n) upd_same
theorem alR (pu : Purse H a c) (q : ∀ p H', Same (rm a H) (rm a H') → Purse H' a c → rm a H' p = some o → rm a H p = none → atV Q (.ref p) H') : ∀ p, H p = none → atV Q (.ref p) (upd H p o) := fun p n =>
  q p _ (Same.new n).rm (pu.same (Same.new n)) (rm_of (pu.fresh n) upd_same) (rm_none n)
theorem PrL.rm {l : Addr} {ps : List (Int × Int)} (h : PrL H l ps) (pu : Purse H a c) : PrL (rm a H) l ps := by
  obtain ⟨ts, h1, h2⟩ := h
  exact ⟨ts, rm_of (pu.ne h1 refs_ne) h1, paired_imp (fun _ _ z => rm_of (pu.ne z fun _ _ _ w => by cases w) z) h2⟩
theorem ModAt.rm {m : Addr} {ps : List (Int × Int)} (h : ModAt ca H m ps) (pu : Purse H a c) : ModAt ca (rm a H) m ps := by
  obtain ⟨dx, t, ts, h1, h2, h3, h4⟩ := h
  exact ⟨dx, t, ts, rm_of (pu.ne h1 fun _ _ _ w => by cases w) h1, rm_of (pu.ne h2 fun _ _ _ w => by cases w) h2, paired_imp (fun _ _ z => rm_of (pu.ne z fun _ _ _ w => by cases w) z) h3, h4⟩
theorem MkAt.rm {m : Addr} {l : Bool} {s : Int} {e : Bool} (h : MkAt ca H m l s e) (pu : Purse H a c) : MkAt ca (rm a H) m l s e := by
  obtain ⟨dx, h1⟩ := h
  exact ⟨dx, rm_of (pu.ne h1 fun _ _ _ w => by cases w) h1⟩
theorem WayAt.rm {m : Addr} {b : Int} {ps : List (Int × Int)} {y : Sty} (h : WayAt ca H m b ps y) (pu : Purse H a c) : WayAt ca (rm a H) m b ps y := by
  obtain ⟨dx, m1, k1, h1, h2, h3, h4⟩ := h
  exact ⟨dx, m1, k1, rm_of (pu.ne h1 fun _ _ _ w => by cases w) h1, h2.rm pu, h3.rm pu, h4⟩
theorem TextAt.rm {v : V} {ls : List Int} (t : TextAt H v ls) (n : NotAt a v) : TextAt (rm a H) v ls := by
  cases t with
  | str z h l => exact .str z h l
  | lst p _ h l => exact .lst p _ (rm_of n h) l
  | tup p _ h l => exact .tup p _ (rm_of n h) l
/-! fields -/
variable {x m k : Addr} {bb : Int} {ps : List (Int × Int)} {y : Sty} {mg : Str → Option Value} {P : V → Prop}
theorem w_wbase (X : Kx K mg ca) (h : WayAt ca H x bb ps y) (q : P (.int bb)) : ∃ a C dx fs v, V.ref x = .ref a ∧ H a = some (.ins C dx fs) ∧ Cls K C ∧ NoAttr K C "base" ∧ fs.lookup ("base" : Str) = some v ∧ P v := by
  obtain ⟨dx, m, k, hx, _⟩ := h
  exact w_fldi hx X.wy.cl X.base wy_base q
theorem w_wnum (X : Kx K mg ca) (h : WayAt ca H x bb ps y) (q : P (.int (num ps))) : ∃ a C dx fs v, V.ref x = .ref a ∧ H a = some (.ins C dx fs) ∧ Cls K C ∧ NoAttr K C "number" ∧ fs.lookup ("number" : Str) = some v ∧ P v := by
  obtain ⟨dx, m, k, hx, _⟩ := h
  exact w_fldi hx X.wy.cl X.wnumber wy_number q
theorem w_wmark (X : Kx K mg ca) (h : WayAt ca H x bb ps y) (q : ∀ k, MkAt ca H k y.low y.shift y.lead → P (.ref k)) : ∃ a C dx fs v, V.ref x = .ref a ∧ H a = some (.ins C dx fs) ∧ Cls K C ∧ NoAttr K C "marking" ∧ fs.lookup ("marking" : Str) = some v ∧ P v := by
  obtain ⟨dx, m, k, hx, hm, hk, _⟩ := h
  exact w_fldi hx X.wy.cl X.marking wy_marking (q k hk)
theorem w_wmod (X : Kx K mg ca) (h : WayAt ca H x bb ps y) (q : ∀ m, ModAt ca H m ps → P (.ref m)) : ∃ a C dx fs v, V.ref x = .ref a ∧ H a = some (.ins C dx fs) ∧ Cls K C ∧ NoAttr K C "modulus" ∧ fs.lookup ("modulus" : Str) = some v ∧ P v := by
  obtain ⟨dx, m, k, hx, hm, hk, _⟩ := h
  exact w_fldi hx X.wy.cl X.modulus wy_modulus (q m hm)
theorem w_mnum (X : Kx K mg ca) (h : ModAt ca H m ps) (q : P (.int (num ps))) : ∃ a C dx fs v, V.ref m = .ref a ∧ H a = some (.ins C dx fs) ∧ Cls K C ∧ NoAttr K C "number" ∧ fs.lookup ("number" : Str) = some v ∧ P v := by
  obtain ⟨dx, t, ts, hx, _⟩ := h
  exact w_fldi hx X.md.cl X.number md_number q
theorem w_mfac (X : Kx K mg ca) (h : ModAt ca H m ps) (q : ∀ t ts, H t = some (.tup (ts.map V.ref)) → Paired (Tp H) ps ts → P (.ref t)) : ∃ a C dx fs v, V.ref m = .ref a ∧ H a = some (.ins C dx fs) ∧ Cls K C ∧ NoAttr K C "factors" ∧ fs.lookup ("factors" : Str) = some v ∧ P v := by
  obtain ⟨dx, t, ts, hx, h1, h2, _⟩ := h
  exact w_fldi hx X.md.cl X.factors md_factors (q t ts h1 h2)
theorem w_klow (X : Kx K mg ca) {l e : Bool} {s : Int} (h : MkAt ca H k l s e) (q : P (.bl l)) : ∃ a C dx fs v, V.ref k = .ref a ∧ H a = some (.ins C dx fs) ∧ Cls K C ∧ NoAttr K C "low" ∧ fs.lookup ("low" : Str) = some v ∧ P v := by
  obtain ⟨dx, hx⟩ := h
  exact w_fldi hx X.kg.cl X.low mk_low q
theorem w_kshift (X : Kx K mg ca) {l e : Bool} {s : Int} (h : MkAt ca H k l s e) (q : P (.int s)) : ∃ a C dx fs v, V.ref k = .ref a ∧ H a = some (.ins C dx fs) ∧ Cls K C ∧ NoAttr K C "shift" ∧ fs.lookup ("shift" : Str) = some v ∧ P v := by
  obtain ⟨dx, hx⟩ := h
  exact w_fldi hx X.kg.cl X.shift mk_shift q
theorem w_klead (X : Kx K mg ca) {l e : Bool} {s : Int} (h : MkAt ca H k l s e) (q : P (.bl e)) : ∃ a C dx fs v, V.ref k = .ref a ∧ H a = some (.ins C dx fs) ∧ Cls K C ∧ NoAttr K C "lead" ∧ fs.lookup ("lead" : Str) = some v ∧ P v := by
  obtain ⟨dx, hx⟩ := h
  exact w_fldi hx X.kg.cl X.lead mk_lead q
/-! calls, below the purse -/
variable {E : XK} {n : Int} {l g : Addr} {PP : Addr → Hp → Prop}
theorem use_drawR (pu : Purse H a c) (n0 : 0 < n) (n1 : n < 2 ^ 60) (hc : c < 2 ^ 50) (q : ∀ r H', 0 ≤ r → r < n → Same (rm a H) (rm a H') → Purse H' a (c + 1) → Q (.int r) H') : spDraw ([.ref a, .int n] ++ []) H Q E :=
  use_draw pu n0 n1 hc fun r H' h0 h1 k p => q r H' h0 h1 k.rm p
theorem use_greatR (pu : Purse H a c) (n0 : 0 ≤ n) (n1 : n < 1000) (hc : c < 2 ^ 49) (q : ∀ r H', 0 ≤ r → r < 10 ^ n.toNat → Same (rm a H) (rm a H') → Purse H' a (c + n) → Q (.int r) H') : spGreat ([.ref a, .int n] ++ []) H Q E :=
  use_great pu n0 n1 hc fun r H' h0 h1 k p => q r H' h0 h1 k.rm p
theorem use_pairsR (pu : Purse H a c) (n0 : 0 ≤ n) (n1 : n ≤ 11) (hc : c < 2 ^ 48)
    (q : ∀ l H' ps, Same (rm a H) (rm a H') → Purse H' a (c + 22) → PrL (rm a H') l ps → Asc 0 ps → Small ps → (ps.length : Int) ≤ n → (∀ q ∈ ps, q.2 ≤ 12) → Q (.ref l) H') : spPairs ([.ref a, .int n] ++ []) H Q E :=
  use_pairs pu n0 n1 hc fun l H' ps _ k p h => q l H' ps k.rm p (h.rm p)
theorem use_sizeR (h : PrL H l ps) (hs : Small ps) (q : Q (.int (num ps)) H) : spSize ([.ref l] ++ []) H Q E := ⟨l, ps, rfl, h, hs, q⟩
theorem use_styleR (pu : Purse H a c) (hc : c < 2 ^ 48) (q : ∀ p H' (y : Sty), Same (rm a H) (rm a H') → Purse H' a (c + 34) → rm a H' p = some (.lst [.bl y.low, .int y.shift, .bl y.lead]) → y.shift.natAbs < 10 ^ 31 → Q (.ref p) H') : spStyle ([.ref a] ++ []) H Q E :=
  ⟨a, c, rfl, hc, pu, fun p H' y _ k p2 h => q p H' y k.rm p2 (rm_of (p2.ne h (fun _ _ _ w => by cases w)) h)⟩
theorem use_markingR (pu : Purse H a c) (h : H g = some (.lst [.bl y.low, .int y.shift, .bl y.lead])) (q : ∀ k H', Same (rm a H) (rm a H') → Purse H' a c → MkAt ca (rm a H') k y.low y.shift y.lead → Q (.ref k) H') : spMarking ca ([.ref g] ++ []) H Q E :=
  ⟨g, y, rfl, h, fun k H' _ s hk => q k H' s.rm (pu.same s) (hk.rm (pu.same s))⟩
theorem use_rootR (pu : Purse H a c) (n0 : 0 < n) (hc : c < 2 ^ 48) (q : ∀ (r : Int) H', r.natAbs ≤ n.natAbs + 10 ^ 40 → Same (rm a H) (rm a H') → Purse H' a (c + 43) → Q (.int r) H') : spRoot ([.ref a, .int n] ++ []) H Q E :=
  ⟨a, n, c, rfl, n0, hc, pu, fun r H' h k p => q r H' h k.rm p⟩
theorem use_letterR (pu : Purse H a c) (hc : c < 2 ^ 48) (q : ∀ (x : Int) H', Same (rm a H) (rm a H') → Purse H' a (c + 34) → x.natAbs < 10 ^ 31 → Q (.int x) H') : spLetter ([.ref a] ++ []) H Q E :=
  use_letter pu hc fun x H' k p h => q x H' k.rm p h
theorem use_textR (pu : Purse H a c) (n0 : 0 ≤ n) (n1 : n ≤ 1000) (hc : c < 2 ^ 47) (q : ∀ (v : V) (ls : List Int) H', Same (rm a H) (rm a H') → Purse H' a (c + 2 + 34 * (n + 1)) → TextAt (rm a H') v ls → (ls.length : Int) ≤ n → (∀ l ∈ ls, l.natAbs < 10 ^ 31) → Q v H') :
    spText ([.ref a, .int n] ++ []) H Q E := use_text pu n0 n1 hc fun v ls H' k p t na h1 h2 => q v ls H' k.rm p (t.rm na) h1 h2
theorem use_lettersR {v : V} {ls : List Int} (pu : Purse H a c) (t : TextAt H v ls) (q : ∀ l H', Same (rm a H) (rm a H') → Purse H' a c → rm a H' l = some (.lst (ls.map V.int)) → Q (.ref l) H') : spLetters ([v] ++ []) H Q E :=
  ⟨v, ls, rfl, t, fun l H' nl s h => q l H' s.rm (pu.same s) (rm_of (pu.fresh nl) h)⟩
theorem use_modR (pu : Purse H a c) (hl : PrL H l ps) (ha : Asc 0 ps) (hs : Small ps) (q : ∀ m H', Same (rm a H) (rm a H') → Purse H' a c → ModAt ca (rm a H') m ps → PP m H') :
    ∀ x dx, H x = none → H dx = none → dx ≠ x → spModInit ca (.ref x :: ([.ref l] ++ [])) (upd (upd H dx (.own x)) x (.ins ca.md dx [])) (fun v H2 => v = .non ∧ PP x H2) E := by
  obtain ⟨ts, h1, h2⟩ := hl
  exact use_mod h1 h2 ha hs fun m H' _ s hm => q m H' s.rm (pu.same s) (hm.rm (pu.same s))
theorem use_modS (hl : PrL H l ps) (ha : Asc 0 ps) (hs : Small ps) (q : ∀ m H', Same H H' → ModAt ca H' m ps → PP m H') :
    ∀ x dx, H x = none → H dx = none → dx ≠ x → spModInit ca (.ref x :: ([.ref l] ++ [])) (upd (upd H dx (.own x)) x (.ins ca.md dx [])) (fun v H2 => v = .non ∧ PP x H2) E := by
  obtain ⟨ts, h1, h2⟩ := hl
  exact use_mod h1 h2 ha hs fun m H' _ s hm => q m H' s hm
theorem use_wayR (pu : Purse H a c) (hm : ModAt ca H m ps) (hk : MkAt ca H k y.low y.shift y.lead) (q : ∀ x H', Same (rm a H) (rm a H') → Purse H' a c → WayAt ca (rm a H') x (bb % num ps) ps y → PP x H') :
    ∀ x dx, H x = none → H dx = none → dx ≠ x → spWayInit ca [.ref x, .int bb, .ref m, .ref k] (upd (upd H dx (.own x)) x (.ins ca.wy dx [])) (fun v H2 => v = .non ∧ PP x H2) E :=
  use_way hm (.inr ⟨k, rfl, hk⟩) fun x H' _ s hw => q x H' s.rm (pu.same s) (hw.rm (pu.same s))
theorem use_wayN (hm : ModAt ca H m ps) (q : ∀ x H', Same H H' → WayAt ca H' x (bb % num ps) ps ⟨false, 0, false⟩ → PP x H') :
    ∀ x dx, H x = none → H dx = none → dx ≠ x → spWayInit ca [.ref x, .int bb, .ref m, .non] (upd (upd H dx (.own x)) x (.ins ca.wy dx [])) (fun v H2 => v = .non ∧ PP x H2) E :=
  use_way hm (.inl ⟨rfl, rfl⟩) fun x H' _ s hw => q x H' s hw
theorem w_insW {P : Prop} (h : WayAt ca H x bb ps y) (q : P) : ((∃ dx vs, SlX.Slt H x ca.wy dx vs) ∨ ∃ dx fs, H x = some (.ins ca.wy dx fs)) ∧ P := by
  obtain ⟨dx, m, k, hx, _⟩ := h
  exact w_insC hx q
theorem use_markR {v : V} {ls : List Int} (pu : Purse H a c) (h : WayAt ca H x bb ps y) (t : TextAt H v ls) (q : ∀ H', Same (rm a H) (rm a H') → Purse H' a c → Q (.int (mark y bb (num ps) ls)) H') : spMarkOf ca [.ref x, v] H Q E :=
  ⟨x, v, bb, ps, y, ls, rfl, h, t, fun H' s => q H' s.rm (pu.same s)⟩
theorem use_mark {v : V} {ls : List Int} (h : WayAt ca H x bb ps y) (t : TextAt H v ls) (q : ∀ H', Same H H' → Q (.int (mark y bb (num ps) ls)) H') : spMarkOf ca [.ref x, v] H Q E :=
  ⟨x, v, bb, ps, y, ls, rfl, h, t, q⟩
theorem use_reqway (h : WayAt ca H x bb ps y) (q : Q .non H) : spReqWay ca ([.ref x] ++ []) H Q E := by
  obtain ⟨dx, m, k, hx, _⟩ := h
  exact ⟨x, dx, _, rfl, hx, q⟩
end


end Bc
namespace Bc
open PySem PySem.Spec PyProof.Rows L2
/-! ### a letter exchanged, a text rolled -/
theorem hv_set (x b : Int) : ∀ {ls : List Int} {i : Nat} {o : Int}, ls[i]? = some o → hv (ls.set i x) b = hv ls b + (x - o) * b ^ (ls.length - 1 - i)
  | [], i, o, h => by simp at h
  | c :: r, 0, o, h => by
    have e : c = o := by simpa using h
    subst e
    rw [List.set_cons_zero, hv_cons, hv_cons, List.length_cons, Nat.add_sub_cancel, Nat.sub_zero]
    grind
  | c :: r, i + 1, o, h => by
    have h2 : r[i]? = some o := by simpa using h
    rw [List.set_cons_succ, hv_cons, hv_cons, hv_set x b h2, List.length_set, List.length_cons, show r.length + 1 - 1 - (i + 1) = r.length - 1 - i by omega]
    grind
theorem hv_setR (x b : Int) : ∀ {ls : List Int} {i : Nat} {o : Int}, ls[i]? = some o → hv (ls.set i x).reverse b = hv ls.reverse b + (x - o) * b ^ i
  | [], i, o, h => by simp at h
  | c :: r, 0, o, h => by
    have e : c = o := by simpa using h
    subst e
    rw [List.set_cons_zero, List.reverse_cons, List.reverse_cons, hv_app, hv_app]
    simp [hv]
    grind
  | c :: r, i + 1, o, h => by
    have h2 : r[i]? = some o := by simpa using h
    rw [List.set_cons_succ, List.reverse_cons, List.reverse_cons, hv_app, hv_app, hv_setR x b h2, Int.pow_succ]
    simp [hv]
    grind
def exN (y : Sty) (len i : Nat) : Nat := if y.low then i else len - 1 - i
theorem Sm_set {y : Sty} (b x : Int) {ls : List Int} {i : Nat} {o : Int} (h : ls[i]? = some o) : Sm y b (ls.set i x) = Sm y b ls + (x - o) * b ^ exN y ls.length i := by
  unfold Sm exN
  rw [List.length_set]
  cases hl : y.low with
  | true =>
    simp only [if_true]
    rw [hv_setR x b h]
    grind
  | false =>
    simp only [Bool.false_eq_true, if_false]
    rw [hv_set x b h]
    grind
theorem changed_eq {y : Sty} (b n x : Int) {ls : List Int} {i : Nat} {o : Int} (h : ls[i]? = some o) : (mark y b n ls + (x - o) * (b ^ exN y ls.length i % n)) % n = mark y b n (ls.set i x) := by
  rw [mark_Sm, mark_Sm, Sm_set b x h, cg]
  obtain ⟨k1, e1⟩ := self_mod n (b ^ exN y ls.length i)
  obtain ⟨k2, e2⟩ := self_mod n (Sm y b ls)
  rw [e1, e2]
  generalize b ^ exN y ls.length i = q
  generalize Sm y b ls = su
  exact ⟨k2 + (x - o) * k1, by grind⟩
theorem Sm_one (y : Sty) (b x : Int) : Sm y b [x] = ld y * b + x + y.shift := by
  unfold Sm
  have e : hv (if y.low = true then [x].reverse else [x]) b = x := by split <;> simp [hv]
  rw [e]
  simp [geo, hv, Int.pow_succ]
theorem roll_high {y : Sty} (h : y.low = false) (b n o x : Int) (t : List Int) : ((mark y b n (o :: t) - ld y * (b ^ (t.length + 1) % n) - (o + y.shift) * (b ^ t.length % n)) * b + (x + y.shift) + ld y * (b ^ (t.length + 1) % n)) % n = mark y b n (t ++ [x]) := by
  rw [mark_Sm, mark_Sm, Sm_high h, show o :: t = [o] ++ t from rfl, Sm_high h, Sm_one, Sm_one, cg]
  obtain ⟨k1, e1⟩ := self_mod n (b ^ (t.length + 1))
  obtain ⟨k2, e2⟩ := self_mod n (b ^ t.length)
  obtain ⟨k3, e3⟩ := self_mod n ((ld y * b + o + y.shift - ld y) * b ^ t.length + Sm y b t)
  rw [e1, e2, e3, Int.pow_succ, show ([x] : List Int).length = 1 from rfl, Int.pow_succ, Int.pow_zero]
  generalize b ^ t.length = q
  generalize Sm y b t = su
  exact ⟨(k3 - ld y * k1 - (o + y.shift) * k2) * b + ld y * k1, by grind⟩
/-! ### sums that the laws reckon -/
theorem hv_take {cs : List Int} {i : Nat} {v b : Int} (h : cs[i]? = some v) : hv (cs.take (i + 1)) b = hv (cs.take i) b * b + v := by
  obtain ⟨hi, e⟩ := List.getElem?_eq_some_iff.mp h
  unfold hv
  rw [List.take_succ_eq_append_getElem hi, List.foldl_append, e]
  rfl
theorem hv_bits {R : Nat} {r : Int} (hr : r.natAbs < 2 ^ R) : ∀ {cs : List Int}, (∀ c ∈ cs, c.natAbs < 2 ^ R) → ∀ i, (hv (cs.take i) r).natAbs < 2 ^ (R * i)
  | cs, h, 0 => by simp [hv]
  | cs, h, i + 1 => by
    have ih := hv_bits hr h i
    by_cases hi : i < cs.length
    · rw [hv_take (List.getElem?_eq_getElem hi)]
      have hc := h _ (List.getElem_mem hi)
      have h1 := Int.natAbs_add_le (hv (cs.take i) r * r) cs[i]
      rw [Int.natAbs_mul] at h1
      have h2 : (hv (cs.take i) r).natAbs * r.natAbs ≤ (2 ^ (R * i) - 1) * 2 ^ R := Nat.mul_le_mul (by omega) (by omega)
      have h3 : (2 ^ (R * i) - 1) * 2 ^ R = 2 ^ (R * i) * 2 ^ R - 2 ^ R := by rw [Nat.sub_mul, Nat.one_mul]
      have h4 : 2 ^ R ≤ 2 ^ (R * i) * 2 ^ R := Nat.le_mul_of_pos_left _ (Nat.pow_pos (by decide))
      rw [Nat.mul_succ, Nat.pow_add]
      omega
    · rw [List.take_of_length_le (by omega)] at ih ⊢
      exact Nat.lt_of_lt_of_le ih (Nat.pow_le_pow_right (by decide) (Nat.mul_le_mul_left _ (by omega)))
theorem mark_sum {y : Sty} {r n : Int} (ls : List Int) : hv (hf y ls) r % n = mark y (r % n) n ls := by
  unfold mark
  rw [rest_hv, hv_mod]
theorem ten31 {x : Int} (h : x.natAbs < 10 ^ 31) : x.natAbs < 2 ^ 103 := Nat.lt_trans h (by decide)
theorem hf_bits {y : Sty} {ls : List Int} {R : Nat} (hR : 105 ≤ R) (h : ∀ l ∈ ls, l.natAbs < 10 ^ 31) (hs : y.shift.natAbs < 10 ^ 31) : ∀ c ∈ hf y ls, c.natAbs < 2 ^ R := by
  have h1 : ∀ l ∈ ls.map (· + y.shift), l.natAbs < 2 ^ R := fun l hl => by
    obtain ⟨x, hx, rfl⟩ := List.mem_map.mp hl
    have a1 := h x hx
    have a2 := Int.natAbs_add_le x y.shift
    have a3 : (10 : Nat) ^ 31 + 10 ^ 31 < 2 ^ 105 := by decide
    have a4 : (2 : Nat) ^ 105 ≤ 2 ^ R := Nat.pow_le_pow_right (by decide) hR
    show (x + y.shift).natAbs < _
    omega
  intro c hc
  unfold hf at hc
  rcases List.mem_cons.mp hc with e | e
  · have a4 : (2 : Nat) ^ 105 ≤ 2 ^ R := Nat.pow_le_pow_right (by decide) hR
    have a5 : (1 : Nat) < 2 ^ 105 := by decide
    rw [e]
    split <;> omega
  · split at e
    · exact h1 c (List.mem_reverse.mp e)
    · exact h1 c e
def spSum : Sp := fun vs H Q _ => ∃ (l g : Addr) (r : Int) (ls : List Int) (y : Sty), vs = [.ref l, .int r, .ref g] ∧ H l = some (.lst (ls.map V.int)) ∧ H g = some (.lst [.bl y.low, .int y.shift, .bl y.lead]) ∧ ls.length ≤ 150 ∧ r.natAbs < 2 ^ 4000 ∧ (∀ x ∈ ls, x.natAbs < 10 ^ 31) ∧ y.shift.natAbs < 10 ^ 31 ∧ ∀ H', Same H H' → Q (.int (hv (hf y ls) r)) H'
def spRightOf (c : CA) : Sp := fun vs H Q _ => ∃ (x : Addr) (b : Int) (ps : List (Int × Int)) (y : Sty) (u v : List Int), vs = [.ref x, .int (mark y b (num ps) (u ++ v)), .int (mark y b (num ps) u), .int u.length, .int v.length] ∧ WayAt c H x b ps y ∧ y.low = false ∧ u.length < 2 ^ 40 ∧ v.length < 2 ^ 40 ∧ ∀ H', Same H H' → Q (.int (mark y b (num ps) v)) H'
def spLeftOf (c : CA) : Sp := fun vs H Q _ => ∃ (x : Addr) (b : Int) (ps : List (Int × Int)) (y : Sty) (u v : List Int), vs = [.ref x, .int (mark y b (num ps) (u ++ v)), .int (mark y b (num ps) v), .int u.length, .int v.length] ∧ WayAt c H x b ps y ∧ y.low = true ∧ u.length < 2 ^ 40 ∧ v.length < 2 ^ 40 ∧ ∀ H', Same H H' → Q (.int (mark y b (num ps) u)) H'
def spChanged (c : CA) : Sp := fun vs H Q _ => ∃ (x : Addr) (b o z : Int) (i : Nat) (ps : List (Int × Int)) (y : Sty) (ls : List Int), vs = [.ref x, .int (mark y b (num ps) ls), .int ls.length, .int i, .int o, .int z] ∧ WayAt c H x b ps y ∧ ls.length < 2 ^ 40 ∧ ls[i]? = some o ∧ o.natAbs < 2 ^ 1000 ∧ z.natAbs < 2 ^ 1000 ∧ Q (.int (mark y b (num ps) (ls.set i z))) H
def spRolledH (c : CA) : Sp := fun vs H Q _ => ∃ (x : Addr) (b o z : Int) (ps : List (Int × Int)) (y : Sty) (t : List Int), vs = [.ref x, .int (mark y b (num ps) (o :: t)), .int ((o :: t).length : Nat), .int o, .int z] ∧ WayAt c H x b ps y ∧ y.low = false ∧ t.length < 2 ^ 40 ∧ o.natAbs < 2 ^ 1000 ∧ z.natAbs < 2 ^ 1000 ∧ y.shift.natAbs < 2 ^ 1000 ∧ Q (.int (mark y b (num ps) (t ++ [z]))) H

end Bc
namespace Bc
open PySem PySem.Spec PyProof.Rows L2

/-! ### lists of a range, pop, comprehensions by a relation -/
section
variable {σ : L2.St} {H : Hp} {Q : VK} {ta tb : TE} {tr : L2.St → Hp → (Int → Int → Hp → Prop) → Prop} {R : Int → Int → Hp → Prop} {i j : Int} {P : Prop}
theorem w_lstRg (q : tr σ H fun a b H1 => RgOk a b ∧ ∀ q, H1 q = none → atV Q (.ref q) (upd H1 q (.lst (rgV a b)))) : tLstRg tr σ H Q := q
theorem w_rg1 (q : ta σ H fun x H1 => ∃ n, x = .int n ∧ R 0 n H1) : tRg1 ta σ H R := q
theorem w_rg2 (q : ta σ H fun x H1 => tb σ H1 fun y H2 => ∃ i j, x = .int i ∧ y = .int j ∧ R i j H2) : tRg2 ta tb σ H R := q
theorem w_rg2i {P : Int → Int → Prop} (q : P i j) : ∃ a b, V.int i = .int a ∧ V.int j = .int b ∧ P a b := ⟨i, j, rfl, rfl, q⟩
theorem w_rgok (h : -(2 ^ 62) ≤ i ∧ i < 2 ^ 62 ∧ -(2 ^ 62) ≤ j ∧ j < 2 ^ 62 ∧ (j - i).toNat ≤ 2 ^ 24) (q : P) : RgOk i j ∧ P := ⟨h, q⟩
theorem w_popAt {l : Addr} {xs : List V} {k : Nat} {y : V} (h : H l = some (.lst xs)) (h0 : 0 ≤ i) (hk : i.toNat = k) (e : xs[k]? = some y) (h1 : i < 2 ^ 60) (q : Q y (upd H l (.lst (xs.eraseIdx k)))) : rPopAt (.ref l) [.int i] H Q := by
  refine ⟨l, xs, i, k, y, rfl, rfl, h, by omega, by omega, ?_, e, q⟩
  have hk2 : k < xs.length := (List.getElem?_eq_some_iff.mp e).1
  have h3 := atI_get (xs := xs) (v := y) h0 (by rw [hk]; exact e)
  obtain ⟨n, rfl⟩ := Int.eq_ofNat_of_zero_le h0
  have : n = k := by omega
  subst this
  unfold seqIndex?
  simp
  omega
end
section
variable {J : It} {G : Hp → Prop} {te : TE} {vs : List Nat} {σ : L2.St} {H : Hp} {D a : Addr} {c : Int} {Qd : Hp → Prop} {j : Nat}
/-- what is made of each item, by a relation that new things leave alone; the turns may draw -/
theorem lc_relR (xs : List V) (n : Int) (R : V → V → Hp → Prop) (mono : ∀ x y G G', Same G G' → R x y G → R x y G') (w : Walk J xs.length G (YAt xs)) (pu : Purse H a c) (hD : H D = none) (hG : ∀ H', Same (rm a H) (rm a H') → G H') (sz : xs.length ≤ 100000)
    (wp : ∀ v, wipe ((wipe σ vs).set j v) vs = wipe σ vs)
    (step : ∀ (i : Nat) (x : V) (H' : Hp), xs[i]? = some x → Same (rm a H) (rm a H') → Purse H' a (c + n * i) → (∃ acc, rm a H' D = some (.lst acc)) → ∀ Q' : VK, (∀ (y : V) (H'' : Hp), Same (rm a H') (rm a H'') → Purse H'' a (c + n * ((i + 1 : Nat) : Int)) → R x y (rm D (rm a H'')) → Q' y H'') → te ((wipe σ vs).set j (some x)) H' Q')
    (q : ∀ (H' : Hp) (ys : List V), Same (rm a H) (rm a H') → Purse H' a (c + n * xs.length) → rm a H' D = some (.lst ys) → Paired (fun x y => R x y (rm a H')) xs ys → Qd H') :
    ∃ W : Nat → Nat → Hp → Prop, (∃ m, W 0 m (upd H D (.lst []))) ∧ ∀ i m H, W i m H →
      (J.stop i H ∧ Qd H) ∨ (J.go i H ∧ ∃ Nx : Hp → Prop, (∀ H', Nx H' → ∃ m', m' < m ∧ W (i + 1) m' H') ∧ ∀ x H', J.yld i H x H' → gName j x (wipe σ vs) H' fun σ2 H2 => wipe σ2 vs = wipe σ vs ∧ tYes σ2 H2 fun b H3 =>
        if b = true then te σ2 H3 fun y H4 => ∃ acc, H4 D = some (.lst acc) ∧ acc.length < sizeLine ∧ Nx (upd H4 D (.lst (acc ++ [y]))) else Nx H3) := by
  have nD : D ≠ a := pu.fresh hD
  refine lc_it w (fun i H' => ∃ ys : List V, Same (rm a H) (rm D (rm a H')) ∧ Purse H' a (c + n * i) ∧ rm a H' D = some (.lst ys) ∧ Paired (fun x y => R x y (rm D (rm a H'))) (xs.take i) ys) ⟨[], ?_, (pu.same (Same.new hD)).le (by simp), rm_of nD upd_same, .nil⟩ (fun i H' _ h => by obtain ⟨_, k, _⟩ := h; exact hG H' (k.trans rm_le)) ?_ ?_
  · rw [rm_upd nD, rm_updS]
    exact rm_in (rm_none hD) (Same.refl _)
  · rintro i x H1 H' hi ⟨ys, h1, h2, h3, h4⟩ ⟨rfl, hx⟩
    refine ⟨wp _, w_yes ?_⟩
    rw [if_pos rfl]
    have el := h4.length
    rw [List.length_take] at el
    refine step i x H' hx (h1.trans rm_le) h2 ⟨_, h3⟩ _ fun y H2 s2 p2 r => ?_
    have e : xs[i] = x := by rw [List.getElem?_eq_getElem hi] at hx; exact Option.some.inj hx
    refine ⟨ys, rm_le _ _ (s2 _ _ h3), ?_, ys ++ [y], ?_, ?_, ?_, ?_⟩
    · have : (100000 : Nat) < sizeLine := by decide
      omega
    · rw [rm_upd nD, rm_updS]
      exact h1.trans s2.rm
    · obtain ⟨x1, y1, z1, e1, r1⟩ := p2
      exact ⟨x1, y1, z1, by rw [upd_ne nD.symm]; exact e1, r1⟩
    · exact rm_of nD upd_same
    · rw [rm_upd nD, rm_updS, List.take_succ_eq_append_getElem hi, e]
      exact Paired.snoc (paired_imp (fun _ _ z => mono _ _ _ _ s2.rm z) h4) r
  · rintro H' ⟨ys, h1, h2, h3, h4⟩
    rw [List.take_length] at h4
    exact q H' ys (h1.trans rm_le) h2 h3 (paired_imp (fun _ _ z => mono _ _ _ _ rm_le z) h4)
end
theorem Paired.snoc' {α β : Type} {R : α → β → Prop} {xs : List α} {ys : List β} {x : α} {y : β} (h : Paired R xs ys) (r : R x y) : Paired R (xs ++ [x]) (ys ++ [y]) := Paired.snoc h r

theorem w_methW {ca : CA} {H : Hp} {x : Addr} {bb : Int} {ps : List (Int × Int)} {y : Sty} {m : Str} {P : Addr → Prop} (h : WayAt ca H x bb ps y) (l : m ≠ ("marking" : Str) ∧ m ≠ ("modulus" : Str) ∧ m ≠ ("number" : Str) ∧ m ≠ ("base" : Str)) (q : P x) : ∃ a dx fs, V.ref x = .ref a ∧ H a = some (.ins ca.wy dx fs) ∧ fs.lookup m = none ∧ P a := by
  obtain ⟨dx, mm, k, hx, _⟩ := h
  exact w_methi hx (wy_no l.1 l.2.1 l.2.2.1 l.2.2.2) q

section
variable {c : TT} {tb : TS} {D : Ends} {σ : L2.St} {H : Hp}
theorem while_m (Pv : Nat → L2.St → Hp → Prop) (m : Nat) (h0 : Pv m σ H) (hs : ∀ m σ H, Pv m σ H → c σ H fun b H1 => if b = true then (∃ N : L2.St → Hp → Prop, (∀ σ' H', N σ' H' → ∃ m', m' < m ∧ Pv m' σ' H') ∧
      tb { D with nx := N, ct := N, bk := D.nx } σ H1) else D.nx σ H1) : tWhile c tb D σ H := ⟨Pv, ⟨m, h0⟩, hs⟩
theorem while_nm {Pv : Nat → L2.St → Hp → Prop} {m : Nat} (q : tb { D with nx := fun σ' H' => ∃ m', m' < m ∧ Pv m' σ' H', ct := fun σ' H' => ∃ m', m' < m ∧ Pv m' σ' H', bk := D.nx } σ H) :
    ∃ N : L2.St → Hp → Prop, (∀ σ' H', N σ' H' → ∃ m', m' < m ∧ Pv m' σ' H') ∧ tb { D with nx := N, ct := N, bk := D.nx } σ H := ⟨_, fun _ _ h => h, q⟩
end

section
variable {J : It} {G : Hp → Prop} {te : TE} {vs : List Nat} {σ : L2.St} {H : Hp} {D a : Addr} {c : Int} {Qd : Hp → Prop} {j : Nat}
theorem lc_drawsR (xs : List V) (n : Int) (R : Int → Prop) (w : Walk J xs.length G (YAt xs)) (pu : Purse H a c) (hD : H D = none) (hG : ∀ H', Same (rm a H) (rm a H') → G H') (sz : xs.length ≤ 100000)
    (wp : ∀ v, wipe ((wipe σ vs).set j v) vs = wipe σ vs)
    (step : ∀ (i : Nat) (x : V) (H' : Hp), xs[i]? = some x → Same (rm a H) (rm a H') → Purse H' a (c + n * i) → ∀ Q' : VK, (∀ (y : Int) (H'' : Hp), R y → Same (rm a H') (rm a H'') → Purse H'' a (c + n * ((i + 1 : Nat) : Int)) → Q' (.int y) H'') → te ((wipe σ vs).set j (some x)) H' Q')
    (q : ∀ (H' : Hp) (ys : List Int), ys.length = xs.length → (∀ y ∈ ys, R y) → rm a H' D = some (.lst (ys.map V.int)) → Same (rm a H) (rm a H') → Purse H' a (c + n * xs.length) → Qd H') :
    ∃ W : Nat → Nat → Hp → Prop, (∃ m, W 0 m (upd H D (.lst []))) ∧ ∀ i m H, W i m H →
      (J.stop i H ∧ Qd H) ∨ (J.go i H ∧ ∃ Nx : Hp → Prop, (∀ H', Nx H' → ∃ m', m' < m ∧ W (i + 1) m' H') ∧ ∀ x H', J.yld i H x H' → gName j x (wipe σ vs) H' fun σ2 H2 => wipe σ2 vs = wipe σ vs ∧ tYes σ2 H2 fun b H3 =>
        if b = true then te σ2 H3 fun y H4 => ∃ acc, H4 D = some (.lst acc) ∧ acc.length < sizeLine ∧ Nx (upd H4 D (.lst (acc ++ [y]))) else Nx H3) :=
  lc_draws xs a c n R w pu hD (fun H' k => hG H' k.rm) sz wp (fun i x H' hx k p Q' q' => step i x H' hx k.rm p Q' fun y H'' r s p' => q' y H'' r (Keep.ofR s) p')
    fun H' ys h1 h2 h3 k p => q H' ys h1 h2 (rm_of (pu.fresh hD) h3) k.rm p
end

theorem w_unl {K : PySem.W.Frag} {H : Hp} {σ : L2.St} {tg : TGs} {p : Addr} {xs : List V} {k : Nat} {Qs : L2.St → Hp → Prop} (h : SqL K H p xs) (l : xs.length = k) (q : tg xs σ H Qs) : gUnl K k tg (.ref p) σ H Qs := ⟨p, xs, rfl, h, l, q⟩

end Bc
namespace Bc
open PySem PySem.Spec PyProof.Rows L2
/-! ### pieces: lists of lists -/
def LL (H : Hp) (r : Addr) (cuts : List (List Int)) : Prop := ∃ as : List Addr, H r = some (.lst (as.map V.ref)) ∧ Paired (fun c p => H p = some (.lst (c.map V.int))) cuts as
def PM (y : Sty) (b n : Int) (H : Hp) (r : Addr) (us : List (List Int)) : Prop := ∃ qs : List Addr, H r = some (.lst (qs.map V.ref)) ∧ Paired (fun c q => H q = some (.lst [.int (mark y b n c), .int c.length])) us qs
theorem LL.same {H H' : Hp} {r : Addr} {cuts : List (List Int)} (h : LL H r cuts) (s : Same H H') : LL H' r cuts := by
  obtain ⟨as, h1, h2⟩ := h
  exact ⟨as, s _ _ h1, paired_imp (fun _ _ z => s _ _ z) h2⟩
theorem PM.same {y : Sty} {b n : Int} {H H' : Hp} {r : Addr} {us : List (List Int)} (h : PM y b n H r us) (s : Same H H') : PM y b n H' r us := by
  obtain ⟨as, h1, h2⟩ := h
  exact ⟨as, s _ _ h1, paired_imp (fun _ _ z => s _ _ z) h2⟩
section
variable {a p : Addr} {c : Int} {H : Hp} {Q : VK} {v : V} {xs : List V}
theorem w_appendR (pu : Purse H a c) (h : rm a H p = some (.lst xs)) (l : xs.length < sizeLine) (q : ∀ H', Same (rm p (rm a H)) (rm p (rm a H')) → Purse H' a c → rm a H' p = some (.lst (xs ++ [v])) → Q .non H') : rAppend (.ref p) [v] H Q := by
  have np : p ≠ a := fun e => by rw [e, rm_self] at h; cases h
  refine w_append (rm_le _ _ h) l (q _ ?_ ?_ ?_)
  · rw [rm_upd np, rm_updS]
    exact Same.refl _
  · obtain ⟨x1, y1, z1, e1, r1⟩ := pu
    exact ⟨x1, y1, z1, by rw [upd_ne np.symm]; exact e1, r1⟩
  · exact rm_of np upd_same
end
theorem ints_inj {a b : List Int} (h : a.map V.int = b.map V.int) : a = b := by
  induction a generalizing b with
  | nil => cases b with | nil => rfl | cons => cases h
  | cons x r ih => cases b with
    | nil => cases h
    | cons z t =>
      injection h with h1 h2
      injection h1 with h1
      rw [h1, ih h2]
theorem paired_take {α β : Type} {R : α → β → Prop} : ∀ {xs : List α} {ys : List β} (k : Nat), Paired R xs ys → Paired R (xs.take k) (ys.take k)
  | _, _, 0, _ => .nil
  | _, _, _ + 1, .nil => .nil
  | _, _, k + 1, .cons r t => .cons r (paired_take k t)
theorem paired_drop {α β : Type} {R : α → β → Prop} : ∀ {xs : List α} {ys : List β} (k : Nat), Paired R xs ys → Paired R (xs.drop k) (ys.drop k)
  | _, _, 0, h => h
  | _, _, _ + 1, .nil => .nil
  | _, _, k + 1, .cons _ t => paired_drop k t
theorem paired_app {α β : Type} {R : α → β → Prop} : ∀ {xs xs' : List α} {ys ys' : List β}, Paired R xs ys → Paired R xs' ys' → Paired R (xs ++ xs') (ys ++ ys')
  | _, _, _, _, .nil, h => h
  | _, _, _, _, .cons r t, h => .cons r (paired_app t h)
theorem paired_get2 {α β : Type} {R : α → β → Prop} : ∀ {xs : List α} {ys : List β} {i : Nat} {x : α}, Paired R xs ys → xs[i]? = some x → ∃ y, ys[i]? = some y ∧ R x y
  | _, _, _, _, .nil, h => by simp at h
  | _, _, 0, _, .cons r _, h => by
    have e := Option.some.inj (by simpa using h)
    subst e
    exact ⟨_, rfl, r⟩
  | _, _, i + 1, _, .cons _ t, h => by
    obtain ⟨x, h1, h2⟩ := paired_get2 (i := i) t (by simpa using h)
    exact ⟨x, by simpa using h1, h2⟩
theorem flat3 {us : List (List Int)} {k : Nat} {x z : List Int} (h1 : us[k]? = some x) (h2 : us[k + 1]? = some z) : (us.take k ++ [x ++ z] ++ us.drop (k + 2)).flatten = us.flatten := by
  obtain ⟨l1, e1⟩ := List.getElem?_eq_some_iff.mp h1
  obtain ⟨l2, e2⟩ := List.getElem?_eq_some_iff.mp h2
  have : us = us.take k ++ (x :: z :: us.drop (k + 2)) := by
    rw [← e1, ← e2, List.getElem_cons_drop l2, List.getElem_cons_drop l1, List.take_append_drop]
  conv => rhs; rw [this]
  simp [List.flatten_append]
theorem cut_to' {α : Type} (f : α → V) (ls : List α) (j : Nat) : cutV (ls.map f) none (some (j : Int)) = (ls.take j).map f := by
  unfold cutV
  rw [HT.sIx_none, HT.sIx_nat, List.drop_zero, Nat.sub_zero, take_min, List.map_take]
theorem cut_from' {α : Type} (f : α → V) (ls : List α) (j : Nat) : cutV (ls.map f) (some (j : Int)) none = (ls.drop j).map f := by
  unfold cutV
  rw [HT.sIx_none, HT.sIx_nat, drop_min, List.map_drop, List.take_of_length_le]
  rw [List.length_drop, List.length_map]
  by_cases h : j ≤ ls.length
  · rw [Nat.min_eq_left h]; exact Nat.le_refl _
  · omega
theorem atI_map {α : Type} {f : α → V} {ls : List α} {i : Int} {x : α} (h0 : 0 ≤ i) (h : ls[i.toNat]? = some x) : atI (ls.map f) i = some (f x) := atI_get h0 (by rw [List.getElem?_map, h]; rfl)
/-- the marks of pieces made by a comprehension -/
theorem marks_of {y : Sty} {b n : Int} {H0 G : Hp} : ∀ {cuts : List (List Int)} {as : List Addr} {ys : List V}, Paired (fun c p => H0 p = some (.lst (c.map V.int))) cuts as →
    Paired (fun x z => ∃ p cut q, x = V.ref p ∧ H0 p = some (.lst (cut.map V.int)) ∧ z = V.ref q ∧ G q = some (.lst [.int (mark y b n cut), .int (cut.length : Nat)])) (as.map V.ref) ys →
    ∃ qs : List Addr, ys = qs.map V.ref ∧ Paired (fun c q => G q = some (.lst [.int (mark y b n c), .int c.length])) cuts qs
  | _, _, _, .nil, h => by cases h; exact ⟨[], rfl, .nil⟩
  | _, _, _, .cons r t, h => by
    cases h with
    | cons r2 t2 =>
      obtain ⟨p, cut, q, e1, h1, rfl, h2⟩ := r2
      injection e1 with e1
      subst e1
      rw [r] at h1
      injection h1 with h1
      injection h1 with h1
      have := ints_inj h1
      subst this
      obtain ⟨qs, rfl, hq⟩ := marks_of t t2
      exact ⟨q :: qs, rfl, .cons h2 hq⟩
def spCut : Sp := fun vs H Q _ => ∃ (a l : Addr) (c : Int) (ls : List Int), vs = [.ref a, .ref l] ∧ c < 2 ^ 47 ∧ Purse H a c ∧ rm a H l = some (.lst (ls.map V.int)) ∧ ls.length ≤ 1000 ∧
  ∀ r H' cuts, Same (rm a H) (rm a H') → Purse H' a (c + 9) → LL (rm a H') r cuts → cuts.flatten = ls → 0 < cuts.length → cuts.length ≤ 8 → Q (.ref r) H'
def spOne (ca : CA) : Sp := fun vs H Q _ => ∃ (a x r : Addr) (b c : Int) (ps : List (Int × Int)) (y : Sty) (cuts : List (List Int)), vs = [.ref a, .ref x, .ref r] ∧ c < 2 ^ 47 ∧ Purse H a c ∧ WayAt ca (rm a H) x b ps y ∧ LL (rm a H) r cuts ∧ 0 < cuts.length ∧ cuts.length ≤ 8 ∧ cuts.flatten.length ≤ 1000 ∧
  ∀ p H', Same (rm a H) (rm a H') → Purse H' a (c + 8) → rm a H' p = some (.lst [.int (mark y b (num ps) cuts.flatten), .int cuts.flatten.length]) → Q (.ref p) H'
def spBack (ca : CA) : Sp := fun vs H Q _ => ∃ (a x l g : Addr) (b c : Int) (ps : List (Int × Int)) (y : Sty) (ls : List Int), vs = [.ref a, .ref x, .ref l, .ref g] ∧ c < 2 ^ 47 ∧ Purse H a c ∧ WayAt ca (rm a H) x b ps y ∧ rm a H l = some (.lst (ls.map V.int)) ∧ rm a H g = some (.lst [.bl y.low, .int y.shift, .bl y.lead]) ∧ ls.length ≤ 1000 ∧
  ∀ H', Same (rm a H) (rm a H') → Purse H' a (c + 1) → Q (.bl true) H'
def spRepl (ca : CA) : Sp := fun vs H Q _ => ∃ (a x l m : Addr) (b c : Int) (ps : List (Int × Int)) (y : Sty) (ls ms : List Int), vs = [.ref a, .ref x, .ref l, .ref m] ∧ c < 2 ^ 47 ∧ Purse H a c ∧ WayAt ca (rm a H) x b ps y ∧ rm a H l = some (.lst (ls.map V.int)) ∧ rm a H m = some (.lst (ms.map V.int)) ∧ ls.length ≤ 1000 ∧ ms.length = ls.length ∧
  (∀ z ∈ ls, z.natAbs < 2 ^ 1000) ∧ (∀ z ∈ ms, z.natAbs < 2 ^ 1000) ∧ ∀ H', Same (rm a H) (rm a H') → Purse H' a (c + ls.length) → Q (.int (mark y b (num ps) ms)) H'
/-- letters exchanged one by one, those of ord still to come -/
def Mix (ls ms cur : List Int) (ord : List Nat) : Prop := cur.length = ls.length ∧ ord.Nodup ∧ ∀ i, i < ls.length → cur[i]? = if i ∈ ord then ls[i]? else ms[i]?
theorem Mix.step {ls ms cur : List Int} {ord : List Nat} {k i : Nat} {z : Int} (h : Mix ls ms cur ord) (hk : ord[k]? = some i) (hz : ms[i]? = some z) : Mix ls ms (cur.set i z) (ord.eraseIdx k) := by
  obtain ⟨h1, h2, h3⟩ := h
  refine ⟨by rw [List.length_set]; exact h1, h2.eraseIdx k, fun j hj => ?_⟩
  obtain ⟨hk1, hk2⟩ := List.getElem?_eq_some_iff.mp hk
  by_cases e : i = j
  · subst e
    have hn : i ∉ ord.eraseIdx k := by
      intro hm
      rw [List.mem_eraseIdx_iff_getElem] at hm
      obtain ⟨m, hm1, hm2, hm3⟩ := hm
      have := (List.getElem_inj h2).mp (hm3.trans hk2.symm)
      omega
    rw [if_neg hn, List.getElem?_set_self (by omega), hz]
  · rw [List.getElem?_set_ne e, h3 j hj]
    have : j ∈ ord.eraseIdx k ↔ j ∈ ord := by
      constructor
      · exact fun z => List.mem_of_mem_eraseIdx z
      · intro z
        rw [List.mem_eraseIdx_iff_getElem]
        obtain ⟨m, hm, em⟩ := List.getElem_of_mem z
        exact ⟨m, hm, fun q => e (by rw [← em, ← hk2]; congr 1; exact q.symm), em⟩
    by_cases q : j ∈ ord
    · rw [if_pos q, if_pos (this.mpr q)]
    · rw [if_neg q, if_neg (fun w => q (this.mp w))]
theorem Mix.done {ls ms cur : List Int} (h : Mix ls ms cur []) (e : ms.length = ls.length) : cur = ms := by
  refine List.ext_getElem? fun i => ?_
  by_cases hi : i < ls.length
  · rw [h.2.2 i hi]; simp
  · rw [List.getElem?_eq_none (by have := h.1; omega), List.getElem?_eq_none (by omega)]

theorem w_popAtR {a p : Addr} {c i : Int} {H : Hp} {Q : VK} {xs : List V} {k : Nat} {y : V} (pu : Purse H a c) (h : rm a H p = some (.lst xs)) (h0 : 0 ≤ i) (hk : i.toNat = k) (e : xs[k]? = some y) (h1 : i < 2 ^ 60) (q : ∀ H', Same (rm p (rm a H)) (rm p (rm a H')) → Purse H' a c → rm a H' p = some (.lst (xs.eraseIdx k)) → Q y H') : rPopAt (.ref p) [.int i] H Q := by
  have np : p ≠ a := fun e => by rw [e, rm_self] at h; cases h
  refine w_popAt (rm_le _ _ h) h0 hk e h1 (q _ ?_ ?_ ?_)
  · rw [rm_upd np, rm_updS]
    exact Same.refl _
  · obtain ⟨x1, y1, z1, e1, r1⟩ := pu
    exact ⟨x1, y1, z1, by rw [upd_ne np.symm]; exact e1, r1⟩
  · exact rm_of np upd_same

theorem map_eraseIdx {α β : Type} (f : α → β) : ∀ (l : List α) (k : Nat), (l.map f).eraseIdx k = (l.eraseIdx k).map f
  | [], k => by simp
  | a :: r, 0 => rfl
  | a :: r, k + 1 => by simp [List.eraseIdx, map_eraseIdx f r k]

end Bc
namespace Bc
open PySem PySem.Spec PyProof.Rows L2
/-! ### errors: made, raised, caught -/
/-- __init__ of an error with one field -/
def spErr (C : Addr) (f : Str) : Sp := fun vs H Q _ => ∃ (a : Addr) (v : V), vs = [.ref a, v] ∧ H a = some (exo a C none) ∧ ∀ dx, H dx = none → dx ≠ a → Q .non (upd (upd H dx (exd dx [(f, v)])) a (exo a C (some dx)))
structure Err (P : Program) (w : World) (K : PySem.W.Frag) (mg : Str → Option Value) (base : Heap) (k : Nat) (x : Str) (C : Addr) (f : Str) : Prop where
  ex : ∃ (fI : Addr) (fd : FuncData) (ps : List Str), OexC K C ∧ PySem.W.findIn K (.ref C) "__init__" = some (some (.ref fI)) ∧ PySem.W.typeIn K (.ref fI) = some (.type "function") ∧ FnOk P w K mg base L2.CX0 k fI fd ps (spErr C f) ∧ Binds K fd ps [] ∧ mg x = some (.ref C)
/-- what is known of an error that is caught -/
structure ErrC (K : PySem.W.Frag) (mg : Str → Option Value) (x : Str) (C : Addr) (f : Str) : Prop where
  gC : mg x = some (.ref C)
  xf : XfC K C
  no : PySem.W.findIn K (.ref C) f = some none
  te : PySem.W.exmOne K (.ref C) (.ref C) = some true
section
variable {X : Cx} {k j : Nat} {x f : Str} {C : Addr} {sp : Sp} {dvs : List V} {p pos pos2 : Pos} {e : Expr} {es : List Expr} {ta t : TA} {W : WX}
theorem ps_rse (c : Err X.prog X.w X.K X.mg X.base k x C f) (hc : X.calm = true) (hr : Room j X.A) (hk : k + 1 ≤ j) (tk : Takes X W) (hg : Gl X x) (ha : PA X (e :: es) ta)
    (hdb : (x == ("__debug__" : Str)) = false := by decide) (he : starEach (e :: es) X.env = (false, eval e X.env) :: starEach es X.env := by rfl) (hpl : (backTo pos (starEach es X.env)).any (·.1) = false := by rfl) :
    PS X (.Raise (some (.Call (.Name x p) (e :: es) [] pos)) none pos2) (fun _ σ H => tMkO C (spErr C f) [] ta σ H fun cls d H' => W cls d σ H') := by
  obtain ⟨fI, fd, ps, T, iC, tI, F, b, hm⟩ := c.ex
  exact ps_raise hc tk (pmk_oex T iC tI F (hr.mono hk) b .nil (fun _ _ _ _ _ _ _ h => h.elim) hg hm ha hdb he hpl)
theorem w_mkO {σ : L2.St} {H : Hp} {Q : XK} {dvs : List V} (q : ta σ H fun vs H1 => vs.length ≤ 1000 ∧ ∀ a, H1 a = none → sp (.ref a :: (vs ++ dvs)) (upd H1 a (exo a C none))
  (fun v H2 => v = .non ∧ ∃ (d : Addr) (fs : List (Str × V)), H2 a = some (exo a C (some d)) ∧ H2 d = some (exd d fs) ∧ H1 d = none ∧ Q (.ref C) (some d) (upd (del H2 a) d (.xd fs))) (fun _ _ _ => False)) : tMkO C sp dvs ta σ H Q := q
/-- the error flies: its dict is new, what stood stands -/
theorem w_fly {H : Hp} {E : XK} {E' : XK} {v : V} (q : ∀ d H2, H d = none → Same H H2 → H2 d = some (.xd [(f, v)]) → E (.ref C) (some d) H2) : [v].length ≤ 1000 ∧ ∀ a, H a = none → spErr C f (.ref a :: ([v] ++ [])) (upd H a (exo a C none))
    (fun u H2 => u = .non ∧ ∃ (d : Addr) (fs : List (Str × V)), H2 a = some (exo a C (some d)) ∧ H2 d = some (exd d fs) ∧ H d = none ∧ E (.ref C) (some d) (upd (del H2 a) d (.xd fs))) E' :=
  ⟨by show 1 ≤ 1000; decide, fun a na => ⟨a, v, rfl, upd_same, fun dx nd ne => ⟨rfl, dx, _, upd_same, by rw [upd_ne ne, upd_same], by rw [upd_ne ne] at nd; exact nd, q dx _ (by rw [upd_ne ne] at nd; exact nd) (fun b o h => by
    have nb : b ≠ a := ne_of_none h na
    have nb2 : b ≠ dx := ne_of_none h (by rw [upd_ne ne] at nd; exact nd)
    rw [upd_ne nb2, del_ne nb, upd_ne nb, upd_ne nb2, upd_ne nb]
    exact h) upd_same⟩⟩⟩
/-- a def that may raise -/
structure CalX (P : Program) (w : World) (K : PySem.W.Frag) (mg : Str → Option Value) (base : Heap) (k : Nat) (x : Str) (sp : Sp) (dvs : List V) : Prop where
  ex : ∃ (f : Addr) (fd : FuncData) (ps : List Str) (ds : List Value), FnOk P w K mg base (L2.CX P w) k f fd ps sp ∧ mg x = some (.ref f) ∧ PySem.W.keepIn K (.ref f) = true ∧ Binds K fd ps ds ∧ Vals dvs ds
theorem pe_cX (c : CalX X.prog X.w X.K X.mg X.base k x sp dvs) (hr : Room j X.A) (hk : k ≤ j) (hg : Gl X x) (tk : Takes X W) (ha : PA X (e :: es) t)
    (hdb : (x == ("__debug__" : Str)) = false := by decide) (he : starEach (e :: es) X.env = (false, eval e X.env) :: starEach es X.env := by rfl) (hpl : (backTo pos (starEach es X.env)).any (·.1) = false := by rfl) :
    PE X (.Call (.Name x p) (e :: es) [] pos) (tCallSD sp dvs (WE W) t) := by
  obtain ⟨f, fd, ps, ds, F, hm, kp, b, d⟩ := c.ex
  exact pe_callSD F (hr.mono hk) hg hm kp b d (fun σ => passAt tk σ) ha hdb he hpl
/-- a call of it that raises nothing -/
theorem pe_cL (c : CalX X.prog X.w X.K X.mg X.base k x sp dvs) (hr : Room j X.A) (hk : k ≤ j) (hg : Gl X x) (ha : PA X (e :: es) t)
    (hdb : (x == ("__debug__" : Str)) = false := by decide) (he : starEach (e :: es) X.env = (false, eval e X.env) :: starEach es X.env := by rfl) (hpl : (backTo pos (starEach es X.env)).any (·.1) = false := by rfl) :
    PE X (.Call (.Name x p) (e :: es) [] pos) (tCall sp dvs L2.E0 t) := by
  obtain ⟨f, fd, ps, ds, F, hm, kp, b, d⟩ := c.ex
  exact pe_call F (hr.mono hk) hg hm kp b d passL ha hdb he hpl
theorem w_callX {σ : L2.St} {H : Hp} {Q : VK} (q : t σ H fun vs H1 => sp (vs ++ dvs) H1 Q fun cls d H2 => W cls d σ H2) : tCallSD sp dvs (WE W) t σ H Q := q
structure CalXK (P : Program) (w : World) (K : PySem.W.Frag) (mg : Str → Option Value) (base : Heap) (k : Nat) (x : Str) (ks : List Str) (sp : Sp) (gV : List V → List V → List V) : Prop where
  ex : ∃ (f : Addr) (fd : FuncData) (ps : List Str) (g : List Value → List Value → List Value), FnOk P w K mg base (L2.CX P w) k f fd ps sp ∧ mg x = some (.ref f) ∧ PySem.W.keepIn K (.ref f) = true ∧ KBn K fd ps 0 ks g gV
theorem pe_cLK {ks : List Str} {gV : List V → List V → List V} {kws : List Keyword} {tk : TA} (c : CalXK X.prog X.w X.K X.mg X.base k x ks sp gV) (hr : Room j X.A) (hk : k ≤ j) (hg : Gl X x) (hkw : PK X kws tk)
    (hall : (backToKw pos (keywordEach kws X.env)).all (·.1.isSome) = true := by rfl) (hks : (backToKw pos (keywordEach kws X.env)).filterMap (·.1) = ks := by rfl) (hdb : (x == ("__debug__" : Str)) = false := by decide)
    (hpl : ((backTo pos (starEach [] X.env)).any (·.1) || (backToKw pos (keywordEach kws X.env)).any (·.1.isNone)) = false := by rfl) :
    PE X (.Call (.Name x p) [] kws pos) (tCallN 0 ks.length sp gV L2.E0 tNil tk) := by
  obtain ⟨f, fd, ps, g, F, hm, kp, b⟩ := c.ex
  refine ⟨fun pins s σ H Q I h => ?_⟩
  refine wpAny_Call_Name_kw (ld_glob I hg hm ?_ hdb)
  refine PySem.W.callWith_KW0 (h₀ := X.base) I.ok.mod.kin kp hall ?_ hpl
  refine thn (hkw.run pos pins s σ H _ I h) fun ws s2 ⟨zs, H2, I2, rz, l1, l2, q2⟩ => ⟨I2.kIn, ?_⟩
  rw [hks]
  exact run_fnN (us := []) (vs := []) F (hr.mono hk) b passL I2 .nil rz rfl l2 q2
end
section
variable {P : Program} {w : World} {K : PySem.W.Frag} {mg : Str → Option Value} {base : Heap}
theorem Dn.calX {x : Str} {st : Stmt} {N ps : List Str} {k : Nat} {sp : Sp} (F : Dn K mg x st ps) (S : FnScope N ps (defScope st)) (len : ∀ vs H Q E, sp vs H Q E → vs.length = ps.length)
    (hbody : ∀ (f : Addr) (cdv : Value) (A : Around) (outer : List Env) (s : Shared) (H : Hp) (vs : List V) (Q : VK) (E : XK), Room k (A.deeper (envOfC x (defScope st) s.heap.objs.size f cdv)) → sp vs H Q E →
      ∃ t, PSs (cxOf (L2.CX P w) P w K mg base N x (defScope st) f cdv A outer s H E) (defBody st) t ∧ t { nx := fun _ H' => Q .non H', rt := Q } (start N vs) H) : CalX P w K mg base (k + 1) x sp [] := by
  obtain ⟨f, fd, F1, m, b⟩ := F.ex
  exact ⟨f, fd, ps, [], F1.okX S len (fun cdv A outer s H vs Q E hr h => hbody f cdv A outer s H vs Q E hr h), m, F1.kp, b, .nil⟩
/-- the same for a def whose call by keywords is wanted, too -/
theorem fnX_ok {x qual : Str} {st : Stmt} {dvs : List V} {kws : List (Str × V)} {f : Addr} {fd : FuncData} {N ps : List Str} {k : Nat} {sp : Sp}
    (F : FunD K x qual (defArgs st) (defBody st) (defScope st) dvs kws f fd) (S : FnScope N ps (defScope st)) (len : ∀ vs H Q E, sp vs H Q E → vs.length = ps.length)
    (hbody : ∀ (cdv : Value) (A : Around) (outer : List Env) (s : Shared) (H : Hp) (vs : List V) (Q : VK) (E : XK), Room k (A.deeper (envOfC qual (defScope st) s.heap.objs.size f cdv)) → sp vs H Q E →
      ∃ t, PSs (cxOf (L2.CX P w) P w K mg base N qual (defScope st) f cdv A outer s H E) (defBody st) t ∧ t { nx := fun _ H' => Q .non H', rt := Q } (start N vs) H) : FnOk P w K mg base (L2.CX P w) (k + 1) f fd ps sp :=
  F.ok S len fun cdv A outer s H vs Q E hr h => hbody cdv A outer s H vs Q E hr h
end
/-- a clause 'except C as n' that takes its own error -/
theorem w_as {K : PySem.W.Frag} {C : Addr} {i : Nat} {ts : Addr → Value → Option Addr → TS} {Wout : WX} {D : Ends} {d : Option Addr} {σ : L2.St} {H : Hp} (te : PySem.W.exmOne K (.ref C) (.ref C) = some true)
    (q : ∀ a, H a = none → ts a (.ref C) d { nx := fun σ' H' => D.nx (σ'.set i none) H', rt := D.rt, bk := fun σ' H' => D.bk (σ'.set i none) H', ct := fun σ' H' => D.ct (σ'.set i none) H' } (σ.set i (some (.ref a))) H) : wAs K (.ref C) i ts Wout D (.ref C) d σ H :=
  ⟨true, te, fun _ a na => q a na, fun z => by cases z⟩
theorem w_xf {a C : Addr} {cls : Value} {d : Option Addr} {f : Str} {te : TE} {σ : L2.St} {H : Hp} {Q : VK} (q : te σ H fun x H1 => x = .ref a ∧ cls = .ref C ∧ ∃ (dd : Addr) (fs : List (Str × V)) (v : V), d = some dd ∧ H1 dd = some (.xd fs) ∧ fs.lookup f = some v ∧ Q v H1) : tXf a cls d C f te σ H Q := q
theorem w_xfi {a C dd : Addr} {f : Str} {H : Hp} {v : V} {P : V → Prop} (h : H dd = some (.xd [(f, v)])) (q : P v) : V.ref a = .ref a ∧ Value.ref C = .ref C ∧ ∃ (d2 : Addr) (fs : List (Str × V)) (u : V), some dd = some d2 ∧ H d2 = some (.xd fs) ∧ fs.lookup f = some u ∧ P u := ⟨rfl, rfl, dd, _, v, rfl, h, lk0, q⟩
theorem exm_own {K : PySem.W.Frag} {S : Addr} (b : PySem.W.subIn K (.ref S) (.type "BaseException") = some true) (i : PySem.W.isClsIn K S = true) (t : PySem.W.typeIn K (.ref S) = some (.type "type")) (s : PySem.W.subIn K (.ref S) (.ref S) = some true) : PySem.W.exmOne K (.ref S) (.ref S) = some true := by
  have i' : (PySem.W.clsIn K S).isSome = true := i
  unfold PySem.W.exmOne PySem.W.kitCls
  simp only [b, i', t, s, BEq.rfl, Bool.and_self, if_true]

end Bc
namespace Bc
open PySem PySem.Spec PyProof.Rows L2
theorem gcd_mod (x n : Int) : Int.gcd (x % n) n = Int.gcd x n := by
  have h := Int.gcd_mul_left_add_left n (x % n) (x / n)
  rw [Int.mul_ediv_add_emod] at h
  exact h.symm

end Bc
namespace Bc
open PySem PySem.Spec PyProof.Rows L2
/-! ### inverses, texts rolled -/
def spInverse : Sp := fun vs H Q _ => ∃ u n : Int, vs = [.int u, .int n] ∧ 0 < n ∧ n.natAbs < 2 ^ 8000 ∧ Int.gcd u n = 1 ∧ ∀ r H', Same H H' → 0 ≤ r → r < n → u * r % n = 1 % n → Q (.int r) H'
def spDivided (c : CA) : Sp := fun vs H Q _ => ∃ (x : Addr) (t u b : Int) (ps : List (Int × Int)) (y : Sty), vs = [.ref x, .int t, .int u] ∧ WayAt c H x b ps y ∧ (num ps).natAbs < 2 ^ 8000 ∧ t.natAbs < 2 ^ 200000 ∧ Int.gcd u (num ps) = 1 ∧ ∀ r H', Same H H' → u * r % num ps = 1 % num ps → Q (.int (t * r % num ps)) H'
def spIsUnit (c : CA) : Sp := fun vs H Q _ => ∃ (x : Addr) (u b : Int) (ps : List (Int × Int)) (y : Sty), vs = [.ref x, .int u] ∧ WayAt c H x b ps y ∧ Q (.bl (decide (Int.gcd u (num ps) = 1))) H
/-- what the Euclidean steps keep -/
def InvOk (u n one other first second : Int) : Prop := 0 ≤ one ∧ 0 ≤ other ∧ other < one + 1 + n ∧ Int.gcd one other = Int.gcd n u ∧ (∃ k, first * u = one + n * k) ∧ (∃ k, second * u = other + n * k) ∧ ((0 ≤ second ∧ first ≤ 0 ∧ -first * other + second * one = n) ∨ (second ≤ 0 ∧ 0 ≤ first ∧ first * other + -second * one = n))
theorem InvOk.start {u n : Int} (hn : 0 < n) : InvOk u n n (u % n) 0 1 := by
  have h0 := Int.emod_nonneg u (show n ≠ 0 by omega)
  have h1 := Int.emod_lt_of_pos u hn
  refine ⟨by omega, h0, by omega, ?_, ⟨-1, by omega⟩, ⟨u / n, ?_⟩, .inl ⟨by decide, by decide, by omega⟩⟩
  · rw [Int.gcd_comm n (u % n), Int.gcd_comm n u]
    exact gcd_mod u n
  · rw [Int.one_mul]
    have := Int.mul_ediv_add_emod u n
    omega
theorem InvOk.step {u n one other first second : Int} (h : InvOk u n one other first second) (hn : 0 < n) (ho : 0 < other) : InvOk u n other (one - one / other * other) second (first - one / other * second) := by
  obtain ⟨h1, h2, h3, h4, ⟨k1, e1⟩, ⟨k2, e2⟩, h5⟩ := h
  have hr : one - one / other * other = one % other := by
    have := Int.mul_ediv_add_emod one other
    rw [Int.mul_comm] at this
    omega
  have hr0 := Int.emod_nonneg one (show other ≠ 0 by omega)
  have hr1 := Int.emod_lt_of_pos one ho
  have hq : 0 ≤ one / other := Int.ediv_nonneg h1 (by omega)
  refine ⟨h2, by omega, by omega, ?_, ⟨k2, e2⟩, ⟨k1 - one / other * k2, ?_⟩, ?_⟩
  · rw [hr, ← h4, Int.gcd_comm other, gcd_mod]
  · rw [Int.sub_mul, e1, Int.mul_assoc, e2]
    grind
  · generalize one / other = q at *
    rcases h5 with ⟨a1, a2, a3⟩ | ⟨a1, a2, a3⟩
    · refine .inr ⟨?_, a1, ?_⟩
      · have := Int.mul_nonneg hq a1
        omega
      · rw [← a3]; grind
    · refine .inl ⟨?_, a1, ?_⟩
      · have := Int.mul_nonneg hq (show 0 ≤ -second by omega)
        rw [Int.mul_neg] at this
        omega
      · rw [← a3]; grind
theorem InvOk.le {u n one other first second : Int} (h : InvOk u n one other first second) (hn : 0 < n) (ho : 0 < other) : first.natAbs ≤ n.natAbs ∧ (0 < one → second.natAbs ≤ n.natAbs) ∧ one / other ≤ one ∧ 0 ≤ one / other := by
  obtain ⟨h1, h2, h3, h4, _, _, h5⟩ := h
  have hdiv : one / other ≤ one := Int.ediv_le_self _ h1
  have hdiv0 : 0 ≤ one / other := Int.ediv_nonneg h1 (by omega)
  have key : ∀ a b c d : Int, 0 ≤ a → 0 ≤ b → 0 ≤ c → 0 ≤ d → a * b + c * d = n → (0 < b → a ≤ n) ∧ (0 < d → c ≤ n) := fun a b c d ha hb hc hd e => by
    have p1 := Int.mul_nonneg ha hb
    have p2 := Int.mul_nonneg hc hd
    constructor
    · intro z
      have := Int.mul_le_mul_of_nonneg_left (show 1 ≤ b from z) ha
      omega
    · intro z
      have := Int.mul_le_mul_of_nonneg_left (show 1 ≤ d from z) hc
      omega
  rcases h5 with ⟨a1, a2, a3⟩ | ⟨a1, a2, a3⟩
  · obtain ⟨x1, x2⟩ := key (-first) other second one (by omega) h2 a1 h1 a3
    have := x1 ho
    exact ⟨by omega, fun z => by have := x2 z; omega, hdiv, hdiv0⟩
  · obtain ⟨x1, x2⟩ := key first other (-second) one a2 h2 (by omega) h1 a3
    have := x1 ho
    exact ⟨by omega, fun z => by have := x2 z; omega, hdiv, hdiv0⟩
theorem InvOk.done {u n one first second : Int} (h : InvOk u n one 0 first second) (hn : 0 < n) (hg : Int.gcd u n = 1) : u * (first % n) % n = 1 % n := by
  obtain ⟨h1, _, _, h4, ⟨k1, e1⟩, _⟩ := h
  have ho : one = 1 := by
    rw [Int.gcd_comm n u, hg] at h4
    have : Int.gcd one 0 = one.natAbs := Int.gcd_zero_right one
    omega
  obtain ⟨k, e⟩ := self_mod n first
  rw [e, cg]
  refine ⟨k1 + u * k, ?_⟩
  rw [Int.mul_add, Int.mul_comm u first, e1, ho]
  grind
def rollHi (y : Sty) (b n m o z : Int) (L : Nat) : Int := ((m - ld y * (b ^ L % n) - (o + y.shift) * (b ^ (L - 1) % n)) * b + (z + y.shift) + ld y * (b ^ L % n)) % n
def rollLo (y : Sty) (b n m o z r : Int) (L : Nat) : Int := ((m - ld y * (b ^ L % n) - (o + y.shift) * 1) * r % n + (z + y.shift) * (b ^ (L - 1) % n) + ld y * (b ^ L % n)) % n
def spRolled (c : CA) (Cu : Addr) : Sp := fun vs H Q E => ∃ (x : Addr) (b m o z : Int) (L : Nat) (ps : List (Int × Int)) (y : Sty), vs = [.ref x, .int m, .int L, .int o, .int z] ∧ WayAt c H x b ps y ∧ (num ps).natAbs < 2 ^ 8000 ∧ (0 ≤ m ∧ m < num ps) ∧ 1 ≤ L ∧ L < 2 ^ 40 ∧ (o.natAbs < 2 ^ 1000 ∧ z.natAbs < 2 ^ 1000 ∧ y.shift.natAbs < 2 ^ 1000) ∧
  (y.low = false → Q (.int (rollHi y b (num ps) m o z L)) H) ∧ (y.low = true → L = 1 → Q (.int ((z + y.shift + ld y * (b ^ L % num ps)) % num ps)) H) ∧
  (y.low = true → L ≠ 1 → Int.gcd b (num ps) = 1 → ∀ r H', Same H H' → b * r % num ps = 1 % num ps → Q (.int (rollLo y b (num ps) m o z r L)) H') ∧
  (y.low = true → L ≠ 1 → Int.gcd b (num ps) ≠ 1 → ∀ d H', H d = none → Same H H' → H' d = some (.xd [("length", .int L)]) → E (.ref Cu) (some d) H')
theorem rollHi_eq {y : Sty} (h : y.low = false) (b n o z : Int) (t : List Int) : rollHi y b n (mark y b n (o :: t)) o z (t.length + 1) = mark y b n (t ++ [z]) := by
  unfold rollHi
  rw [Nat.add_sub_cancel]
  exact roll_high h b n o z t
theorem rollLo1 (y : Sty) (b n z : Int) : (z + y.shift + ld y * (b ^ 1 % n)) % n = mark y b n [z] := by
  rw [mark_Sm, Sm_one, cg, show b ^ 1 = b by rw [Int.pow_succ, Int.pow_zero, Int.one_mul]]
  obtain ⟨k1, e1⟩ := self_mod n b
  rw [e1]
  exact ⟨ld y * k1, by grind⟩
theorem rollLo_eq {y : Sty} (h : y.low = true) {b n r : Int} (hr : b * r % n = 1 % n) (o z : Int) (t : List Int) : rollLo y b n (mark y b n (o :: t)) o z r (t.length + 1) = mark y b n (t ++ [z]) := by
  unfold rollLo
  rw [Nat.add_sub_cancel, mark_Sm, mark_Sm, Sm_low h, show o :: t = [o] ++ t from rfl, Sm_low h, Sm_one, Sm_one, cg, show ([o] : List Int).length = 1 from rfl, show b ^ 1 = b by rw [Int.pow_succ, Int.pow_zero, Int.one_mul]]
  obtain ⟨k1, e1⟩ := self_mod n (b ^ (t.length + 1))
  obtain ⟨k2, e2⟩ := self_mod n (b ^ t.length)
  obtain ⟨k3, e3⟩ := self_mod n (ld y * b + o + y.shift + b * (Sm y b t - ld y))
  obtain ⟨k5, e5⟩ := cg.mp hr
  rw [e1, e2, e3]
  generalize hX : (ld y * b + o + y.shift + b * (Sm y b t - ld y) + n * k3 - ld y * (b ^ (t.length + 1) + n * k1) - (o + y.shift) * 1) * r = X
  obtain ⟨k4, e4⟩ := self_mod n X
  rw [e4, ← hX, Int.pow_succ]
  generalize b ^ t.length = q
  generalize Sm y b t = su
  refine ⟨(k3 - ld y * k1) * r + (su - ld y * q) * k5 + k4 + (z + y.shift) * k2 + ld y * k1, ?_⟩
  have e6 : (su - ld y * q) * (b * r) = (su - ld y * q) * (1 + n * k5) := by rw [e5]
  grind
def OpenR (y : Sty) (b n : Int) (t : List Int) : Prop := y.low = true ∧ t ≠ [] ∧ Int.gcd b n ≠ 1
def spLRoll (c : CA) : Sp := fun vs H Q _ => ∃ (x : Addr) (b o z : Int) (t : List Int) (ps : List (Int × Int)) (y : Sty), vs = [.ref x, .int (mark y b (num ps) (o :: t)), .int ((t.length + 1 : Nat) : Int), .int o, .int z] ∧ WayAt c H x b ps y ∧ (num ps).natAbs < 2 ^ 8000 ∧ t.length < 2 ^ 30 ∧ (o.natAbs < 2 ^ 1000 ∧ z.natAbs < 2 ^ 1000 ∧ y.shift.natAbs < 2 ^ 1000) ∧
  (¬ OpenR y b (num ps) t → ∀ H', Same H H' → Q (.int (mark y b (num ps) (t ++ [z]))) H') ∧ (OpenR y b (num ps) t → ∀ p H', H p = none → Same H H' → H' p = some (.lst [.str "open", .int ((t.length + 1 : Nat) : Int)]) → Q (.ref p) H')
def spRR (c : CA) : Sp := fun vs H Q _ => ∃ (a x g le : Addr) (rt cc : Int) (ps : List (Int × Int)) (y : Sty) (ls : List Int), vs = [.ref a, .ref x, .ref g, .int rt, .ref le] ∧ cc < 2 ^ 47 ∧ Purse H a cc ∧ WayAt c (rm a H) x (rt % num ps) ps y ∧ rm a H g = some (.lst [.bl y.low, .int y.shift, .bl y.lead]) ∧ rm a H le = some (.lst (ls.map V.int)) ∧ 1 ≤ ls.length ∧ ls.length ≤ 60 ∧ (∀ z ∈ ls, z.natAbs < 10 ^ 31) ∧ y.shift.natAbs < 10 ^ 31 ∧ rt.natAbs < 2 ^ 4000 ∧ (num ps).natAbs < 2 ^ 8000 ∧
  ∀ H', Same (rm a H) (rm a H') → Purse H' a (cc + 200) → Q (.bl true) H'
def perm5 (vs zs : List V) : List V := match zs with
  | [o, n, l, m, w] => vs ++ [w, m, l, o, n]
  | _ => vs ++ zs
def spDiv : Sp := fun vs H Q _ => ∃ x z : Int, vs = [.int x, .int z] ∧ 0 ≤ x ∧ 0 ≤ z ∧ Q (.int (Int.gcd x z)) H
theorem shaped_so {s : Str} (hs : PyData.strOk s = true) (i : Int) : SeqAt.shaped (.list [.str s, .int i]) = true := by
  unfold SeqAt.shaped
  simp [PyData.canLay0, PyData.canLayAll0, PyData.depth, PyData.depthAll, hs]
theorem eqv_so {s : Str} (hs : PyData.strOk s = true) (i : Int) : PyData.eqv (.list [.str s, .int i]) (.list [.str s, .int i]) = true := SeqAt.eqv_refl _ (by simp [PyData.canLay0, PyData.canLayAll0, hs])
theorem ok_open : PyData.strOk "open" = true := by decide +kernel
def perm5V (us ws : List Value) : List Value := match ws with
  | [o, n, l, m, w] => us ++ [w, m, l, o, n]
  | _ => us ++ ws
theorem perm5_vals : ∀ {vs zs : List V} {us ws : List Value}, Vals vs us → Vals zs ws → Vals (perm5 vs zs) (perm5V us ws)
  | _, _, _, _, r, .nil => r.append .nil
  | _, _, _, _, r, .cons a .nil => r.append (.cons a .nil)
  | _, _, _, _, r, .cons a (.cons b .nil) => r.append (.cons a (.cons b .nil))
  | _, _, _, _, r, .cons a (.cons b (.cons c .nil)) => r.append (.cons a (.cons b (.cons c .nil)))
  | _, _, _, _, r, .cons a (.cons b (.cons c (.cons d .nil))) => r.append (.cons a (.cons b (.cons c (.cons d .nil))))
  | _, _, _, _, r, .cons a (.cons b (.cons c (.cons d (.cons e .nil)))) => r.append (.cons e (.cons d (.cons c (.cons a (.cons b .nil)))))
  | _, _, _, _, r, .cons a (.cons b (.cons c (.cons d (.cons e (.cons f t))))) => r.append (.cons a (.cons b (.cons c (.cons d (.cons e (.cons f t))))))

end Bc
namespace Bc
open PySem PySem.Spec PyProof.Rows L2
/-! ### parts of texts, told or open -/
def spRightX (c : CA) (Cu : Addr) : Sp := fun vs H Q E => ∃ (x : Addr) (b W U : Int) (i j : Nat) (ps : List (Int × Int)) (y : Sty), vs = [.ref x, .int W, .int U, .int i, .int j] ∧ WayAt c H x b ps y ∧ (num ps).natAbs < 2 ^ 8000 ∧ (0 ≤ W ∧ W < num ps) ∧ (0 ≤ U ∧ U < num ps) ∧ i < 2 ^ 40 ∧ j < 2 ^ 40 ∧
  (j = 0 → ∀ H', Same H H' → Q (.int (mark y b (num ps) [])) H') ∧ (j ≠ 0 → y.low = false → Q (.int ((W - b ^ j % num ps * (U - ld y)) % num ps)) H) ∧
  (j ≠ 0 → y.low = true → Int.gcd (b ^ i % num ps) (num ps) = 1 → ∀ r H', Same H H' → b ^ i % num ps * r % num ps = 1 % num ps → Q (.int ((W - U + ld y * (b ^ i % num ps)) * r % num ps)) H') ∧
  (j ≠ 0 → y.low = true → Int.gcd (b ^ i % num ps) (num ps) ≠ 1 → ∀ d H', H d = none → Same H H' → H' d = some (.xd [("length", .int i)]) → E (.ref Cu) (some d) H')
def spLeftX (c : CA) (Cu : Addr) : Sp := fun vs H Q E => ∃ (x : Addr) (b W V' : Int) (i j : Nat) (ps : List (Int × Int)) (y : Sty), vs = [.ref x, .int W, .int V', .int i, .int j] ∧ WayAt c H x b ps y ∧ (num ps).natAbs < 2 ^ 8000 ∧ (0 ≤ W ∧ W < num ps) ∧ (0 ≤ V' ∧ V' < num ps) ∧ i < 2 ^ 40 ∧ j < 2 ^ 40 ∧
  (i = 0 → ∀ H', Same H H' → Q (.int (mark y b (num ps) [])) H') ∧ (i ≠ 0 → y.low = true → Q (.int ((W - b ^ i % num ps * (V' - ld y)) % num ps)) H) ∧
  (i ≠ 0 → y.low = false → Int.gcd (b ^ j % num ps) (num ps) = 1 → ∀ r H', Same H H' → b ^ j % num ps * r % num ps = 1 % num ps → Q (.int ((W - V' + ld y * (b ^ j % num ps)) * r % num ps)) H') ∧
  (i ≠ 0 → y.low = false → Int.gcd (b ^ j % num ps) (num ps) ≠ 1 → ∀ d H', H d = none → Same H H' → H' d = some (.xd [("length", .int j)]) → E (.ref Cu) (some d) H')
theorem right_low {y : Sty} (h : y.low = true) {b n r : Int} (u v : List Int) (hr : b ^ u.length % n * r % n = 1 % n) : (mark y b n (u ++ v) - mark y b n u + ld y * (b ^ u.length % n)) * r % n = mark y b n v := by
  rw [mark_Sm, mark_Sm, mark_Sm, Sm_low h, cg]
  obtain ⟨k1, e1⟩ := self_mod n (b ^ u.length)
  obtain ⟨k2, e2⟩ := self_mod n (Sm y b u)
  obtain ⟨k3, e3⟩ := self_mod n (Sm y b u + b ^ u.length * (Sm y b v - ld y))
  obtain ⟨k5, e5⟩ := cg.mp hr
  rw [e1] at e5
  rw [e1, e2, e3]
  generalize b ^ u.length = q at e5 ⊢
  generalize Sm y b u = su
  generalize Sm y b v = sv
  refine ⟨(k3 - k2 + ld y * k1 - k1 * sv) * r + sv * k5, ?_⟩
  have e6 : sv * ((q + n * k1) * r) = sv * (1 + n * k5) := by rw [e5]
  grind
theorem left_high {y : Sty} (h : y.low = false) {b n r : Int} (u v : List Int) (hr : b ^ v.length % n * r % n = 1 % n) : (mark y b n (u ++ v) - mark y b n v + ld y * (b ^ v.length % n)) * r % n = mark y b n u := by
  rw [mark_Sm, mark_Sm, mark_Sm, Sm_high h, cg]
  obtain ⟨k1, e1⟩ := self_mod n (b ^ v.length)
  obtain ⟨k2, e2⟩ := self_mod n (Sm y b v)
  obtain ⟨k3, e3⟩ := self_mod n ((Sm y b u - ld y) * b ^ v.length + Sm y b v)
  obtain ⟨k5, e5⟩ := cg.mp hr
  rw [e1] at e5
  rw [e1, e2, e3]
  generalize b ^ v.length = q at e5 ⊢
  generalize Sm y b u = su
  generalize Sm y b v = sv
  refine ⟨(k3 - k2 + ld y * k1 - k1 * su) * r + su * k5, ?_⟩
  have e6 : su * ((q + n * k1) * r) = su * (1 + n * k5) := by rw [e5]
  grind
/-- which part is open -/
def OpenP (y : Sty) (b n : Int) (k : Nat) (i j : Nat) : Prop := if k = 0 then y.low = true ∧ j ≠ 0 ∧ Int.gcd (b ^ i % n) n ≠ 1 else y.low = false ∧ i ≠ 0 ∧ Int.gcd (b ^ j % n) n ≠ 1
def spTold (c : CA) : Sp := fun vs H Q _ => ∃ (k : Nat) (x lm lz : Addr) (b : Int) (u v : List Int) (ps : List (Int × Int)) (y : Sty), vs = [.int k, .ref x, .ref lm, .ref lz] ∧ k < 2 ∧ WayAt c H x b ps y ∧ (num ps).natAbs < 2 ^ 8000 ∧ u.length < 2 ^ 40 ∧ v.length < 2 ^ 40 ∧
  H lm = some (.lst [.int (mark y b (num ps) (u ++ v)), .int (mark y b (num ps) u), .int (mark y b (num ps) v)]) ∧ H lz = some (.lst [.int u.length, .int v.length]) ∧
  (¬ OpenP y b (num ps) k u.length v.length → ∀ H', Same H H' → Q (.int (if k = 0 then mark y b (num ps) v else mark y b (num ps) u)) H') ∧
  (OpenP y b (num ps) k u.length v.length → ∀ p H', H p = none → Same H H' → H' p = some (.lst [.str "open", .int ((if k = 0 then u.length else v.length : Nat) : Int)]) → Q (.ref p) H')
def spIsOpen : Sp := fun vs H Q _ => ∃ (r n : Int) (k : Nat), vs = [.int r, .int k, .int n] ∧ 0 < n ∧ n.natAbs < 2 ^ 8000 ∧ r.natAbs < 2 ^ 8000 ∧ k < 2 ^ 40 ∧ Q (.bl (!decide (Int.gcd (r ^ k % n) n = 1))) H
theorem pow_mod_succ (r n : Int) (i : Nat) : r ^ i % n * r % n = r ^ (i + 1) % n := by
  rw [Int.pow_succ, Int.mul_emod, Int.emod_emod_of_dvd _ (Int.dvd_refl n), ← Int.mul_emod]
theorem pow_mod_base (r n : Int) : ∀ i : Nat, (r % n) ^ i % n = r ^ i % n
  | 0 => by rw [Int.pow_zero, Int.pow_zero]
  | i + 1 => by
    rw [Int.pow_succ, Int.pow_succ, Int.mul_emod, pow_mod_base r n i, Int.emod_emod_of_dvd _ (Int.dvd_refl n), ← Int.mul_emod]
/-- what is told of a part: its mark, or that it is open -/
def DE (op : Prop) (m len : Int) (e : V) (G : Hp) : Prop := (¬ op ∧ e = .int m) ∨ (op ∧ ∃ p, e = .ref p ∧ G p = some (.lst [.str "open", .int len]))
theorem DE.same {op : Prop} {m len : Int} {e : V} {G G' : Hp} (h : DE op m len e G) (s : Same G G') : DE op m len e G' := by
  rcases h with h | ⟨h, p, e1, e2⟩
  · exact .inl h
  · exact .inr ⟨h, p, e1, s _ _ e2⟩
theorem DE.both {K : PySem.W.Frag} {op : Prop} {m len : Int} {e e' : V} {G G' H : Hp} (h : DE op m len e G) (h' : DE op m len e' G') (s : Same G H) (s' : Same G' H) : ∃ d, Dp K H e d ∧ Dp K H e' d ∧ PyData.canLay0 d = true ∧ PyData.depth d ≤ 1 := by
  rcases h with ⟨n, rfl⟩ | ⟨o, p, rfl, hp⟩
  · rcases h' with ⟨_, rfl⟩ | ⟨o, _⟩
    · exact ⟨.int m, .int _, .int _, rfl, Nat.zero_le _⟩
    · exact absurd o n
  · rcases h' with ⟨n, _⟩ | ⟨_, p', rfl, hp'⟩
    · exact absurd o n
    · exact ⟨.list [.str "open", .int len], .lst (sq (s _ _ hp)) (.cons (.str _) (.cons (.int _) .nil)), .lst (sq (s' _ _ hp')) (.cons (.str _) (.cons (.int _) .nil)), by simp [PyData.canLay0, PyData.canLayAll0, ok_open], by simp [PyData.depth, PyData.depthAll]⟩
theorem w_eqDE {K : PySem.W.Frag} {H : Hp} {a b : Addr} {x0 x1 z0 z1 : V} {d0 d1 : PyData} {Q : VK} (ha : H a = some (.lst [x0, x1])) (hb : H b = some (.lst [z0, z1])) (h0 : Dp K H x0 d0) (h1 : Dp K H x1 d1) (g0 : Dp K H z0 d0) (g1 : Dp K H z1 d1) (c0 : PyData.canLay0 d0 = true) (c1 : PyData.canLay0 d1 = true) (e0 : PyData.depth d0 ≤ 1) (e1 : PyData.depth d1 ≤ 1) (q : Q (.bl true) H) : rEqD K (.ref a) (.ref b) H Q := by
  have lay : PyData.canLay0 (.list [d0, d1]) = true := by simp [PyData.canLay0, PyData.canLayAll0, c0, c1]
  have sh : SeqAt.shaped (.list [d0, d1]) = true := by
    unfold SeqAt.shaped
    rw [lay]
    have b : PyData.depth (.list [d0, d1]) ≤ 3 := by
      simp only [PyData.depth, PyData.depthAll, Nat.max_def]
      split <;> split <;> omega
    rw [Bool.true_and]
    exact decide_eq_true (by omega)
  refine ⟨.list [d0, d1], .list [d0, d1], .lst (sq ha) (.cons h0 (.cons h1 .nil)), .lst (sq hb) (.cons g0 (.cons g1 .nil)), sh, sh, ?_⟩
  rw [SeqAt.eqv_refl _ lay]
  exact q
section
variable {a p : Addr} {c i : Int} {H : Hp} {v : V} {xs : List V} {j : Nat} {Qs : Hp → Prop}
theorem w_setLR (pu : Purse H a c) (h : rm a H p = some (.lst xs)) (e : ixN xs.length i = some j) (q : ∀ H', Same (rm p (rm a H)) (rm p (rm a H')) → Purse H' a c → rm a H' p = some (.lst (xs.set j v)) → Qs H') : rSetL (.ref p) (.int i) v H Qs := by
  have np : p ≠ a := fun e => by rw [e, rm_self] at h; cases h
  refine w_setL (rm_le _ _ h) e (q _ ?_ ?_ ?_)
  · rw [rm_upd np, rm_updS]
    exact Same.refl _
  · obtain ⟨x1, y1, z1, e1, r1⟩ := pu
    exact ⟨x1, y1, z1, by rw [upd_ne np.symm]; exact e1, r1⟩
  · exact rm_of np upd_same
end
theorem map_int_inj {l m : List Int} (h : l.map V.int = m.map V.int) : l = m := by
  induction l generalizing m with
  | nil => cases m with
    | nil => rfl
    | cons _ _ => cases h
  | cons a t ih => cases m with
    | nil => cases h
    | cons b s =>
      rw [List.map_cons, List.map_cons] at h
      injection h with h1 h2
      injection h1 with h1
      rw [h1, ih h2]
theorem three_marks {G : Hp} {le pu pv : Addr} {x u v : List Int} {f : List Int → Int} {ys : List V} (h1 : G le = some (.lst (x.map V.int))) (h2 : G pu = some (.lst (u.map V.int))) (h3 : G pv = some (.lst (v.map V.int)))
    (h : Paired (fun (a z : V) => ∃ (q : Addr) (m : List Int), a = V.ref q ∧ G q = some (.lst (m.map V.int)) ∧ z = V.int (f m)) [V.ref le, V.ref pu, V.ref pv] ys) : ys = [.int (f x), .int (f u), .int (f v)] := by
  cases h with | cons e0 h => ?_
  cases h with | cons e1 h => ?_
  cases h with | cons e2 h => ?_
  cases h
  obtain ⟨q, m, a1, a2, rfl⟩ := e0
  injection a1 with a1
  rw [← a1, h1] at a2
  injection a2 with a2
  injection a2 with a2
  obtain ⟨q', m', b1, b2, rfl⟩ := e1
  injection b1 with b1
  rw [← b1, h2] at b2
  injection b2 with b2
  injection b2 with b2
  obtain ⟨q'', m'', c1, c2, rfl⟩ := e2
  injection c1 with c1
  rw [← c1, h3] at c2
  injection c2 with c2
  injection c2 with c2
  rw [map_int_inj a2, map_int_inj b2, map_int_inj c2]
theorem two_told {R : Nat → V → Prop} {ys : List V} (h : Paired (fun (x z : V) => ∃ k : Nat, x = V.int (0 + (k : Int)) ∧ R k z) ((List.range 2).map fun i : Nat => V.int (0 + (i : Int))) ys) : ∃ z0 z1, ys = [z0, z1] ∧ R 0 z0 ∧ R 1 z1 := by
  rw [show (List.range 2).map (fun i : Nat => V.int (0 + (i : Int))) = [V.int (0 + ((0 : Nat) : Int)), V.int (0 + ((1 : Nat) : Int))] from rfl] at h
  cases h with | cons e0 h => ?_
  cases h with | cons e1 h => ?_
  cases h
  obtain ⟨k0, a0, b0⟩ := e0
  obtain ⟨k1, a1, b1⟩ := e1
  injection a0 with a0
  injection a1 with a1
  have h0 : k0 = 0 := by omega
  have h1 : k1 = 1 := by omega
  subst h0
  subst h1
  exact ⟨_, _, rfl, b0, b1⟩

end Bc
namespace Bc
open PySem PySem.Spec PyProof.Rows L2
/-! ### a try with several clauses, with a name and without -/
/-- a clause: its class, the slot of its name if it has one, its suite's reading -/
structure Cl where
  c : Value
  i : Option Nat
  ts : Addr → Value → Option Addr → TS
def clEnds (i : Option Nat) (D : Ends) : Ends := match i with
  | none => D
  | some i => { nx := fun σ' H' => D.nx (σ'.set i none) H', rt := D.rt, bk := fun σ' H' => D.bk (σ'.set i none) H', ct := fun σ' H' => D.ct (σ'.set i none) H' }
def clSlot (i : Option Nat) (a : Addr) (σ : L2.St) : L2.St := match i with
  | none => σ
  | some i => σ.set i (some (.ref a))
/-- what the clauses wish of an error of the body -/
def wCls (K : PySem.W.Frag) (Wout : WX) (D : Ends) : List Cl → WX
  | [] => Wout
  | k :: r => fun cls d σ H => ∃ b, PySem.W.exmOne K cls k.c = some b ∧ (b = true → ∀ a, H a = none → k.ts a cls d (clEnds k.i D) (clSlot k.i a σ) H) ∧ (b = false → wCls K Wout D r cls d σ H)
inductive ClsOk (X : Cx) : List ExceptHandler → List Cl → Prop
  | nil : ClsOk X [] []
  | as {x n : Str} {c : Value} {i : Nat} {ts : Addr → Value → Option Addr → TS} {b₀ : Stmt} {suite : List Stmt} {np pos' : Pos} {hds : List ExceptHandler} {l : List Cl} (hN : X.N.Nodup) (hi : X.N[i]? = some n) (hln : X.env.kindOf n = some .local) (hc : Names X x c)
      (hsu : ∀ (a : Addr) (oe : Obj) (cls : Value) (d : Option Addr) (pn : List (Addr × Obj)), Zc cls d oe → (∃ vs, oe.data = .fields vs) → PSs (X.suite a ((a, oe) :: pn)) (b₀ :: suite) (ts a cls d)) (r : ClsOk X hds l) :
      ClsOk X (.ExceptHandler (some (.Name x np)) (some n) (b₀ :: suite) pos' :: hds) (⟨c, some i, ts⟩ :: l)
  | no {x : Str} {c : Value} {ts : Addr → Value → Option Addr → TS} {b₀ : Stmt} {suite : List Stmt} {np pos' : Pos} {hds : List ExceptHandler} {l : List Cl} (hc : Names X x c)
      (hsu : ∀ (a : Addr) (oe : Obj) (cls : Value) (d : Option Addr) (pn : List (Addr × Obj)), Zc cls d oe → (∃ vs, oe.data = .fields vs) → PSs (X.suite a ((a, oe) :: pn)) (b₀ :: suite) (ts a cls d)) (r : ClsOk X hds l) :
      ClsOk X (.ExceptHandler (some (.Name x np)) none (b₀ :: suite) pos' :: hds) (⟨c, none, ts⟩ :: l)
section
variable {X : Cx} {body : List Stmt} {h₀ : ExceptHandler} {hds : List ExceptHandler} {l : List Cl} {pos : Pos} {tb : WX → TS} {Wout : WX}
theorem ps_try_cls (hs : X.stack = X.env :: X.outer) (hf : X.env.frame = some X.env.locals) (tk : Takes X Wout)
    (hb : ∀ (W : WX) (pn : List (Addr × Obj)) (xe : Value → Shared → Prop), Takes (X.tr pn xe) W → PassesOwn (model X.prog X.w) X.A X.env xe → PSs (X.tr pn xe) body (tb W))
    (hh : ClsOk X (h₀ :: hds) l) : PS X (.Try body (h₀ :: hds) [] [] pos) (fun D σ H => tb (wCls X.K Wout D l) D σ H) := by
  refine ⟨fun pins s σ H D I h => ?_⟩
  have ok := I.ok
  have hfr : X.A.frames = some (X.env :: X.outer) := by rw [ok.frames, hs]
  refine wpAny_Try_except ?_
  refine wpAny_mono ((hb (wCls X.K Wout D l) (X.pn ++ pins) (fun e s₁ => wpAny (model X.prog X.w) X.A (noteFrame e X.env) (fun _ s₂ => wpAny (model X.prog X.w) X.A (setFlight e none) (fun _ s₃ =>
    wpAny (model X.prog X.w) X.A (handleBy e X.env (h₀ :: hds)) (SP X pins D) X.xe s₃) X.xe s₂) X.xe s₁) (fun u s' xx => ?_) PassesOwn.looking).run [] s σ H D (I.toTry _) h) (fun f s1 hsp => ?_) (fun e s1 he => he)
  · obtain ⟨a, B, sI, pins', σ', H', cls, d, rfl, J', nb, up, sky, na, os, ag, w⟩ := xx
    have J : Inv X pins σ' H' sI := J'.ofTry ok
    have sky' : Sky B (X.env :: X.outer) a (Zc cls d) X.env.locals s'.heap := by rw [← hs]; exact sky
    show wpAny (model X.prog X.w) X.A (noteFrame (.ref a) X.env) _ _ _
    refine Sky.land Zc.steady hfr hf sky' fun h3 fl3 up3 => ?_
    have J3 : Inv X pins σ' H' { s' with heap := h3 } := J.landed nb fl3.1 (up.trans up3) os ag
    obtain ⟨oe3, vs3, he3, hz3, hd3⟩ := fl3.there
    have nfr : a ∉ frs (X.env :: X.outer) := fun hm => by
      obtain ⟨_, o', e', hnf⟩ := fl3.2.2.1.mem hm
      rw [he3] at e'
      cases e'
      exact hnf _ hd3
    have nL : a ≠ X.env.locals := fun z => nfr (List.mem_filterMap.mpr ⟨X.env, List.mem_cons_self, by rw [hf, z]⟩)
    have nF : a ∉ X.fs := fun hm => by
      obtain ⟨e, he, q⟩ := List.mem_filterMap.mp hm
      exact nfr (List.mem_filterMap.mpr ⟨e, List.mem_cons_of_mem _ he, q⟩)
    have S3 := J3.suite he3 hd3 na nL nF
    have LT : PySem.W.Looks (model X.prog X.w) h3 (typeOf (.ref a)) cls := fun A Q E s k q => wpAny_typeOf_ref (k _ _ he3) (by rw [hz3.1]; exact q)
    have test : ∀ {x : Str} {c : Value} {np : Pos} {Q : Value → Shared → Prop} {E : Value → Shared → Prop}, Names X x c → Q c { s' with heap := h3 } → wpAny (model X.prog X.w) (X.A.mark (some (.ref a))) (eval (.Name x np) X.env) Q E { s' with heap := h3 } := fun {x c np Q E} hc q => by
      obtain ⟨hg, hdbg, hm | ⟨hm, hv, hnn⟩⟩ := hc
      · exact ld_glob (X := X.suite a ((a, oe3) :: (X.pn ++ pins))) S3 hg hm q hdbg
      · exact ld_blt (X := X.suite a ((a, oe3) :: (X.pn ++ pins))) S3 hg hm hv q hnn hdbg
    have go : ∀ {hds' : List ExceptHandler} {l' : List Cl}, ClsOk X hds' l' → wCls X.K Wout D l' cls d σ' H' →
        wpAny (model X.prog X.w) X.A (handleBy (.ref a) X.env hds') (SP X pins D) X.xe { s' with heap := h3 } := by
      intro hds' l' hk
      induction hk with
      | nil =>
        intro w
        refine wpAny_handleBy_nil ?_
        obtain ⟨k1, k2, k3, oe, vs, T, oT, ts', he, hz, hd, h1, hr⟩ := id fl3
        unfold PySem.passOn
        refine wpAny_bind (wpAny_field he hd h1 ?_)
        rw [if_neg (show ¬ ((Value.ref T == Value.none) = true) from by simp)]
        have fin : wpAny (model X.prog X.w) X.A (setFlight (.ref a) X.env.frame) (fun _ s4 => wpAny (model X.prog X.w) X.A (throw (.ref a) : Sem Flow) (SP X pins D) X.xe s4) X.xe { s' with heap := h3 } := by
          rw [hf]
          refine HandSPX.setFlight_upZ fl3 fun h4 hh4 up4 => wpAny_throw (tk _ _ ?_)
          exact ⟨a, B, sI, pins, σ', H', cls, d, rfl, J, nb, (up.trans up3).trans up4, .inr (.inr (by rw [hs]; exact hh4)), na, os, ag, w⟩
        first
          | exact wpAny_bind (wpAny_pure (wpAny_bind fin))
          | exact wpAny_bind fin
      | @as x n c i ts b₀ suite np pos' hds2 l2 hN hi hln hc hsu r ih =>
        intro w
        obtain ⟨b, hb1, hyes, hno⟩ := w
        refine wpAny_handleBy_cons (codeAny_handlers_test ?_) (by intro q; cases q)
        refine test hc ((PySem.W.exm_one (M := model X.prog X.w) (J3.kIn) LT hb1).here ?_)
        cases b with
        | true =>
          refine codeAny_handlers_suite_as ?_
          refine HandSPX.lands_againZ fl3 fun h4 fl4 up4 => ?_
          have J4 : Inv X pins σ' H' { s' with heap := h4 } := J.landed nb fl4.1 ((up.trans up3).trans up4) os ag
          obtain ⟨oe4, vs4, he4, hz4, hd4⟩ := fl4.there
          have S4 := J4.suite he4 hd4 na nL nF
          refine store_ok (X := X.suite a ((a, oe4) :: (X.pn ++ pins))) (v := .ref a) S4 hN hi (.inl hln) rfl (fun s5 S5 => ?_) (.inr hln)
          refine wpAny_mono ((hsu a oe4 cls d (X.pn ++ pins) hz4 ⟨_, hd4⟩).run [] s5 _ H' _ S5 (hyes rfl a na)) (fun f s6 hsp => ?_) (fun _ _ z => False.elim z)
          have end_ : ∀ {σ6 : L2.St} {H6 : Hp} {Q : Shared → Prop}, Inv (X.suite a ((a, oe4) :: (X.pn ++ pins))) [] σ6 H6 s6 → (∀ s7, Inv X pins (σ6.set i none) H6 s7 → Q s7) →
              wpAny (model X.prog X.w) X.A (do bindName X.env n .none; unbindBehindTheSuite X.env n pos') (fun _ s7 => Q s7) X.xe s6 := fun {σ6 H6 Q} S6 hq => gone_ok (S6.unsuite ok) hN hi hln hq
          cases f with
          | next =>
            obtain ⟨σ6, H6, S6, q6⟩ := hsp
            exact end_ S6 fun s7 J7 => ⟨_, _, J7, q6⟩
          | brk =>
            obtain ⟨σ6, H6, S6, q6⟩ := hsp
            exact end_ S6 fun s7 J7 => ⟨_, _, J7, q6⟩
          | cont =>
            obtain ⟨σ6, H6, S6, q6⟩ := hsp
            exact end_ S6 fun s7 J7 => ⟨_, _, J7, q6⟩
          | ret u =>
            obtain ⟨v6, σ6, H6, S6, r6, q6⟩ := hsp
            exact end_ S6 fun s7 J7 => ⟨_, _, _, J7, r6, q6⟩
        | false =>
          show wpAny _ X.A (handleBy (.ref a) X.env hds2) _ _ _
          exact ih (hno rfl)
      | @no x c ts b₀ suite np pos' hds2 l2 hc hsu r ih =>
        intro w
        obtain ⟨b, hb1, hyes, hno⟩ := w
        refine wpAny_handleBy_cons (codeAny_handlers_test ?_) (by intro q; cases q)
        refine test hc ((PySem.W.exm_one (M := model X.prog X.w) (J3.kIn) LT hb1).here ?_)
        cases b with
        | true =>
          refine codeAny_handlers_suite ?_
          refine HandSPX.lands_againZ fl3 fun h4 fl4 up4 => ?_
          have J4 : Inv X pins σ' H' { s' with heap := h4 } := J.landed nb fl4.1 ((up.trans up3).trans up4) os ag
          obtain ⟨oe4, vs4, he4, hz4, hd4⟩ := fl4.there
          have S4 := J4.suite he4 hd4 na nL nF
          refine wpAny_mono ((hsu a oe4 cls d (X.pn ++ pins) hz4 ⟨_, hd4⟩).run [] _ _ H' _ S4 (hyes rfl a na)) (fun f s6 hsp => ?_) (fun _ _ z => False.elim z)
          cases f with
          | next =>
            obtain ⟨σ6, H6, S6, q6⟩ := hsp
            exact ⟨_, _, S6.unsuite ok, q6⟩
          | brk =>
            obtain ⟨σ6, H6, S6, q6⟩ := hsp
            exact ⟨_, _, S6.unsuite ok, q6⟩
          | cont =>
            obtain ⟨σ6, H6, S6, q6⟩ := hsp
            exact ⟨_, _, S6.unsuite ok, q6⟩
          | ret u =>
            obtain ⟨v6, σ6, H6, S6, r6, q6⟩ := hsp
            exact ⟨_, _, _, S6.unsuite ok, r6, q6⟩
        | false =>
          show wpAny _ X.A (handleBy (.ref a) X.env hds2) _ _ _
          exact ih (hno rfl)
    exact go hh w
  · cases f with
    | next =>
      obtain ⟨σ', H', J', q⟩ := hsp
      exact wpAny_execs_nil ⟨σ', H', J'.ofTry ok, q⟩
    | brk =>
      obtain ⟨σ', H', J', q⟩ := hsp
      exact ⟨σ', H', J'.ofTry ok, q⟩
    | cont =>
      obtain ⟨σ', H', J', q⟩ := hsp
      exact ⟨σ', H', J'.ofTry ok, q⟩
    | ret u =>
      obtain ⟨v, σ', H', J', r, q⟩ := hsp
      exact ⟨v, σ', H', J'.ofTry ok, r, q⟩
end
section
variable {K : PySem.W.Frag} {W : WX} {D : Ends} {c cls : Value} {i : Nat} {ts : Addr → Value → Option Addr → TS} {r : List Cl} {d : Option Addr} {σ : L2.St} {H : Hp}
theorem w_clsA (te : PySem.W.exmOne K cls c = some true) (q : ∀ a, H a = none → ts a cls d { nx := fun σ' H' => D.nx (σ'.set i none) H', rt := D.rt, bk := fun σ' H' => D.bk (σ'.set i none) H', ct := fun σ' H' => D.ct (σ'.set i none) H' } (σ.set i (some (.ref a))) H) :
    wCls K W D (⟨c, some i, ts⟩ :: r) cls d σ H := ⟨true, te, fun _ => q, fun z => by cases z⟩
theorem w_clsN (te : PySem.W.exmOne K cls c = some true) (q : ∀ a, H a = none → ts a cls d D σ H) : wCls K W D (⟨c, none, ts⟩ :: r) cls d σ H := ⟨true, te, fun _ => q, fun z => by cases z⟩
theorem w_cls0 {k : Cl} (te : PySem.W.exmOne K cls k.c = some false) (q : wCls K W D r cls d σ H) : wCls K W D (k :: r) cls d σ H := ⟨false, te, (fun z => by cases z), fun _ => q⟩
end

end Bc
namespace Bc
open PySem PySem.Spec PyProof.Rows L2
/-! ### == of lists with the same things in them -/
def plainV : V → Bool
  | .byt _ => false
  | .flt _ => false
  | _ => true
def Alk (K : PySem.W.Frag) (H : Hp) : Nat → V → V → Prop
  | 0, x, y => x = y ∧ plainV x = true
  | n + 1, x, y => (x = y ∧ plainV x = true) ∨ ∃ p q xs ys, x = .ref p ∧ y = .ref q ∧ SqL K H p xs ∧ SqL K H q ys ∧ Paired (Alk K H n) xs ys
theorem eq_self {x : V} {v u : Value} {A : Around} {s : Shared} (h : plainV x = true) (r : RelV x v) (r' : RelV x u) : PySem.SeqAt.EqAt A s v u true := by
  cases x with
  | non => cases r; cases r'; exact PySem.SeqAt.EqAt.same _
  | bl b => cases r; cases r'; exact PySem.SeqAt.EqAt.same _
  | int i =>
    obtain ⟨t, rfl⟩ := r
    obtain ⟨t', rfl⟩ := r'
    have := PySem.SeqAt.EqAt.int_int (A := A) (s := s) i t i t'
    rwa [beq_self_eq_true] at this
  | str z =>
    obtain ⟨t, rfl⟩ := r
    obtain ⟨t', rfl⟩ := r'
    have := PySem.SeqAt.EqAt.str_str (A := A) (s := s) z t z t'
    rwa [beq_self_eq_true] at this
  | byt b => cases h
  | flt b => cases h
  | ref a => cases r; cases r'; exact PySem.SeqAt.EqAt.same _
  | ty n => cases r; cases r'; exact PySem.SeqAt.EqAt.same _
section
variable {X : Cx} {pins : List (Addr × Obj)} {σ : L2.St} {H : Hp} {s : Shared}
theorem paired_at {α β : Type} {F : α → β → Prop} : ∀ {l : List α} {m : List β}, Paired F l m → ∀ j (h1 : j < l.length) (h2 : j < m.length), F l[j] m[j]
  | _, _, .cons h _, 0, _, _ => h
  | _, _, .cons _ r, j + 1, h1, h2 => paired_at r j (Nat.lt_of_succ_lt_succ h1) (Nat.lt_of_succ_lt_succ h2)
theorem rc_lists {F : V → V → Prop} {A : Around} {p q : Addr} {xs ys : List V} (I : Inv X pins σ H s) (hx : SqL X.K H p xs) (hy : SqL X.K H q ys) (hp : Paired F xs ys) (hu : A.units < cLine)
    (hF : ∀ x y v u, F x y → RelV x v → RelV y u → PySem.SeqAt.EqAt A.in1 s v u true) : PySem.SeqAt.RcAt A s (.ref p) (.ref q) true := by
  obtain ⟨is, r1, ⟨o1, n1, e1, c1, _, d1⟩, _⟩ := I.list hx
  obtain ⟨js, r2, ⟨o2, n2, e2, c2, _, d2⟩, _⟩ := I.list hy
  have l0 := hp.length
  have l1 := r1.length
  have l2 := r2.length
  have h := PySem.SeqAt.RcAt.lists (A := A) (e := fun _ => true) ⟨o1, e1, c1, n1, d1⟩ ⟨o2, e2, c2, n2, d2⟩ (by simp only [List.size_toArray]; omega) hu (fun j h1 h2 => by
    simp only [List.size_toArray] at h1 h2
    simp only [List.getElem_toArray]
    exact hF _ _ _ _ (paired_at hp j (by omega) (by omega)) (paired_at r1 j (by omega) h1) (paired_at r2 j (by omega) h2))
  rwa [show ((List.range is.toArray.size).all fun _ => true) = true from List.all_eq_true.mpr fun _ _ => rfl] at h
theorem Alk.eq (I : Inv X pins σ H s) : ∀ (n : Nat) (A : Around) (x y : V) (v u : Value), Alk X.K H n x y → RelV x v → RelV y u → A.units + n < cLine → PySem.SeqAt.EqAt A s v u true
  | 0, _, _, _, _, _, ⟨e, h⟩, r, r', _ => by subst e; exact eq_self h r r'
  | n + 1, A, _, _, _, _, .inl ⟨e, h⟩, r, r', _ => by subst e; exact eq_self h r r'
  | n + 1, A, _, _, _, _, .inr ⟨p, q, xs, ys, ex, ey, hx, hy, hp⟩, r, r', hu => by
    subst ex
    subst ey
    cases r
    cases r'
    by_cases hpq : p = q
    · subst hpq
      exact PySem.SeqAt.EqAt.same _
    · exact PySem.SeqAt.EqAt.of_refs hpq (rc_lists I hx hy hp (by omega) fun x y v u h r r' => Alk.eq I n A.in1 x y v u h r r' (by show A.units + 1 + n < cLine; omega))
def rEqA (K : PySem.W.Frag) : R2 := fun x y H Q => ∃ n p q xs ys, x = .ref p ∧ y = .ref q ∧ n ≤ 50 ∧ SqL K H p xs ∧ SqL K H q ys ∧ Paired (Alk K H n) xs ys ∧ Q (.bl true) H
theorem op_eqA (hu : X.A.units + 64 < cLine) : OpR X (compareOp .Eq) (rEqA X.K) := by
  intro pins s σ H x y v u Q I rx ry h
  obtain ⟨n, p, q, xs, ys, rfl, rfl, hn, hx, hy, hp, k⟩ := h
  cases rx
  cases ry
  exact rc_lists I hx hy hp (by omega) (fun x y v u h r r' => Alk.eq I n X.A.in1 x y v u h r r' (by show X.A.units + 1 + n < cLine; omega)) X.prog X.w _ _ ⟨.bl true, H, I, rfl, k⟩
end

end Bc
namespace Bc
open PySem PySem.Spec PyProof.Rows L2
/-! ### plain shifts, refused things -/
def spReqOneX (K : PySem.W.Frag) (c : CA) (Ci : Addr) : Sp := fun vs H Q E => ∃ (v : V) (t : Value) (b : Bool), vs = [v] ∧ TyX K H v t ∧ PySem.W.kitOne K t (.ref c.wy) = some b ∧ (b = true → Q .non H) ∧
  (b = false → ∀ d H', H d = none → Same H H' → H' d = some (.xd [("thing", v)]) → E (.ref Ci) (some d) H')
def spPlainX (K : PySem.W.Frag) (c : CA) (Ci : Addr) : Sp := fun vs H Q E => ∃ (v : V) (t : Value) (b : Bool), vs = [v] ∧ TyX K H v t ∧ PySem.W.kitOne K t (.ref c.wy) = some b ∧
  (b = true → ∃ (x : Addr) (r : Int) (ps : List (Int × Int)) (y : Sty), v = .ref x ∧ WayAt c H x r ps y ∧ Q (.int (plainS y r (num ps))) H) ∧
  (b = false → ∀ d H', H d = none → Same H H' → H' d = some (.xd [("thing", v)]) → E (.ref Ci) (some d) H')
/-- what is no way -/
structure NoW (K : PySem.W.Frag) (c : CA) : Prop where
  non : PySem.W.kitOne K (.type "NoneType") (.ref c.wy) = some false
  int : PySem.W.kitOne K (.type "int") (.ref c.wy) = some false
  bl : PySem.W.kitOne K (.type "bool") (.ref c.wy) = some false
  str : PySem.W.kitOne K (.type "str") (.ref c.wy) = some false
  lst : PySem.W.kitOne K (.type "list") (.ref c.wy) = some false
  dct : PySem.W.kitOne K (.type "dict") (.ref c.wy) = some false
  md : PySem.W.kitOne K (.ref c.md) (.ref c.wy) = some false
theorem w_dnew {σ : L2.St} {H : Hp} {Q : VK} (q : ∀ p, H p = none → atV Q (.ref p) (upd H p (.dK []))) : tDNewK σ H Q := q
theorem w_isB {a b : Bool} {H : Hp} {Q : VK} (q : Q (.bl (decide (a = b))) H) : rIsB (.bl a) (.bl b) H Q := ⟨a, b, rfl, rfl, q⟩
/-! ### drawn ways, things that are no ways -/
def spSome : Sp := fun vs H Q _ => ∃ (a : Addr) (c : Int), vs = [.ref a] ∧ c < 2 ^ 48 ∧ Purse H a c ∧
  ∀ (l : Addr) (H' : Hp) (ps : List (Int × Int)), Same (rm a H) (rm a H') → Purse H' a (c + 1) → PrL (rm a H') l ps → Asc 0 ps → Small ps → (num ps).natAbs < 2 ^ 200 → Q (.ref l) H'
def spDrawn (ca : CA) : Sp := fun vs H Q _ => ∃ (a : Addr) (c : Int), vs = [.ref a] ∧ c < 2 ^ 47 ∧ Purse H a c ∧
  ∀ (t x g : Addr) (H' : Hp) (b : Int) (ps : List (Int × Int)) (y : Sty), Same (rm a H) (rm a H') → Purse H' a (c + 100) → rm a H' t = some (.tup [.ref x, .ref g]) → WayAt ca (rm a H') x b ps y → rm a H' g = some (.lst [.bl y.low, .int y.shift, .bl y.lead]) → (num ps).natAbs < 2 ^ 200 → y.shift.natAbs < 10 ^ 31 → Q (.ref t) H'
def spNoWay (K : PySem.W.Frag) (c : CA) : Sp := fun vs H Q _ => ∃ (v : V) (t : Value), vs = [v] ∧ TyX K H v t ∧ PySem.W.kitOne K t (.ref c.wy) = some false ∧ ∀ l H', H l = none → Same H H' → H' l = some (.lst [v]) → Q (.ref l) H'
theorem use_plainx {K : PySem.W.Frag} {mg : Str → Option Value} {c : CA} {Ci : Addr} {H : Hp} {Q : VK} {E : XK} {x : Addr} {b : Int} {ps : List (Int × Int)} {y : Sty} (X : Kx K mg c) (h : WayAt c H x b ps y) (q : Q (.int (plainS y b (num ps))) H) : spPlainX K c Ci [.ref x] H Q E := by
  obtain ⟨dx, m, k, hx, r⟩ := id h
  exact ⟨.ref x, _, true, rfl, X.wy.ty hx, kit_own, fun _ => ⟨x, b, ps, y, rfl, h, q⟩, fun z => by cases z⟩
theorem kit_no {K : PySem.W.Frag} {t : Value} {C : Addr} (ne : (t == .ref C) = false) (i : PySem.W.isClsIn K C = true) (ty : PySem.W.typeIn K (.ref C) = some (.type "type")) (s : PySem.W.subIn K t (.ref C) = some false) : PySem.W.kitOne K t (.ref C) = some false := by
  have i' : (PySem.W.clsIn K C).isSome = true := i
  unfold PySem.W.kitOne PySem.W.kitCls
  simp only [ne, i', ty, s, BEq.rfl, Bool.and_self, if_true, Bool.false_eq_true, if_false]
theorem ref_no {K : PySem.W.Frag} {B C : Addr} (s : PySem.W.subIn K (.ref B) (.ref C) = some false) (s2 : PySem.W.subIn K (.ref C) (.ref C) = some true) : (Value.ref B == Value.ref C) = false := by
  cases h : (Value.ref B == Value.ref C) with
  | false => rfl
  | true =>
    have e : Value.ref B = Value.ref C := by simpa using h
    rw [e, s2] at s
    cases s
theorem exm_no {K : PySem.W.Frag} {B C : Addr} (b : PySem.W.subIn K (.ref C) (.type "BaseException") = some true) (i : PySem.W.isClsIn K C = true) (t : PySem.W.typeIn K (.ref C) = some (.type "type")) (s : PySem.W.subIn K (.ref B) (.ref C) = some false) : PySem.W.exmOne K (.ref B) (.ref C) = some false := by
  have i' : (PySem.W.clsIn K C).isSome = true := i
  unfold PySem.W.exmOne PySem.W.kitCls
  simp only [b, i', t, s, BEq.rfl, Bool.and_self, if_true]

end Bc
namespace Bc
open PySem PySem.Spec PyProof.Rows L2
/-! ### defs that write things as strings: promised where no repr is under way -/
structure FnG (P : Program) (w : World) (K : PySem.W.Frag) (mg : Str → Option Value) (base : Heap) (k : Nat) (f : Addr) (fd : FuncData) (ps : List Str) (sp : Sp) : Prop where
  ln : ∀ vs H Q E, sp vs H Q E → vs.length = ps.length
  go : ∀ A : Around, A.guards = some [] → Room k A → ∀ (o : List Env) (s : Shared) (H : Hp) (as : Args) (us : List Value) (vs : List V) (Q : VK) (E : XK), Env0 P w K mg base A o s H → BindsTo s fd as (ps.zip us) → Vals vs us → sp vs H Q E →
    codeAny (model P w) A (.call (.ref f) as) (CR L2.CX0 o P w H s Q E) s
section
variable {P : Program} {w : World} {K : PySem.W.Frag} {mg mb : Str → Option Value} {base : Heap} {k : Nat} {f : Addr} {fd : FuncData} {x qual : Str} {st : Stmt} {N ps : List Str} {sp : Sp}
theorem okG (F : L2.Fun K x qual st f fd) (S : FnScope N ps (defScope st)) (ln : ∀ vs H Q E, sp vs H Q E → vs.length = ps.length)
    (hb : ∀ (cv : Value) (A : Around) (o : List Env) (s : Shared) (H : Hp) (vs : List V) (Q : VK) (E : XK), Room k (A.deeper (envOfC qual (defScope st) s.heap.objs.size f cv)) → (A.deeper (envOfC qual (defScope st) s.heap.objs.size f cv)).guards = some [] → sp vs H Q E →
      ∃ t, PSs (cxOf CX0 P w K mg base N qual (defScope st) f cv A o s H E).nox (defBody st) t ∧ t { nx := fun _ G => Q .non G, rt := Q } (start N vs) H) : FnG P w K mg base (k + 1) f fd ps sp := by
  obtain ⟨_, _, _, _, _, _, cv, _, _, rfl, look, code⟩ := F.ex
  refine ⟨ln, fun A hA room o s H as us vs Q E e0 bd rv q => ?_⟩
  have there : ∀ b ob, base.get? b = some ob → s.heap.get? b = some ob := fun b ob e => (e0.bs b ob e).1
  have kin : K.In s.heap := e0.mod.kin.keeps there
  obtain ⟨t, ht, hq⟩ := hb cv A o s H vs Q E (room.deeper _) hA q
  refine codeAny_call_function room.depth (kin _ _ look) rfl S.co S.gen rfl (PySem.W.codeRec_of kin code) (bd _ _ _ _ (wpAny_newFunctionEnv_cells S.kind ?_ fun en he s1 ic => ?_))
  · rintro ⟨n, v⟩ hy
    exact (S.par n (List.of_mem_zip hy).1).imp id fun z => ⟨z, PySem.W.cellsFrom_some _ _ _ (.inl z)⟩
  · subst he
    refine ⟨(e0.mod.nolimit.keeps there).keeps ic.toInCall.keep, codeAny_func (wpAny_mono (ht.nox.run [] s1 (start N vs) H _ (inv_start S room.hd e0 (ln _ _ _ _ q) rv ic) hq) ?_ fun _ _ z => z)⟩
    rintro (_ | _ | _ | u) s' hs
    · obtain ⟨σ', H', J, q'⟩ := hs
      exact ⟨V.non, H', J.os, J.bare, J.base, J.hok, rfl, q'⟩
    · exact hs.elim fun _ ⟨_, _, z⟩ => z.elim
    · exact hs.elim fun _ ⟨_, _, z⟩ => z.elim
    · obtain ⟨v, σ', H', J, rv', q'⟩ := hs
      exact ⟨v, H', J.os, J.bare, J.base, J.hok, rv', q'⟩
/-- a def that is called by its name -/
structure CalG (P : Program) (w : World) (K : PySem.W.Frag) (mg : Str → Option Value) (base : Heap) (k : Nat) (x : Str) (sp : Sp) : Prop where
  ex : ∃ (f : Addr) (fd : FuncData) (ps : List Str), FnG P w K mg base k f fd ps sp ∧ mg x = some (.ref f) ∧ PySem.W.keepIn K (.ref f) = true ∧ Binds K fd ps []
theorem Dn.calG (F : Dn K mg x st ps) (S : FnScope N ps (defScope st)) (ln : ∀ vs H Q E, sp vs H Q E → vs.length = ps.length)
    (hb : ∀ (f : Addr) (cv : Value) (A : Around) (o : List Env) (s : Shared) (H : Hp) (vs : List V) (Q : VK) (E : XK), Room k (A.deeper (envOfC x (defScope st) s.heap.objs.size f cv)) → (A.deeper (envOfC x (defScope st) s.heap.objs.size f cv)).guards = some [] → sp vs H Q E →
      ∃ t, PSs (cxOf CX0 P w K mg base N x (defScope st) f cv A o s H E).nox (defBody st) t ∧ t { nx := fun _ G => Q .non G, rt := Q } (start N vs) H) : CalG P w K mg base (k + 1) x sp := by
  obtain ⟨f, fd, F1, m, b⟩ := F.ex
  exact ⟨f, fd, ps, okG F1 S ln (fun cv A o s H vs Q E hr hA h => hb f cv A o s H vs Q E hr hA h), m, F1.kp, b⟩
end
section
variable {X : Cx} {k j : Nat} {x : Str} {sp : Sp} {e : Expr} {es : List Expr} {t : TA} {p pos : Pos}
theorem pe_cG (c : CalG X.prog X.w X.K X.mg X.base k x sp) (hr : Room j X.A) (hk : k ≤ j) (hA : X.A.guards = some []) (hg : Gl X x) (ha : PA X (e :: es) t) (hdb : (x == ("__debug__" : Str)) = false := by decide)
    (he : starEach (e :: es) X.env = (false, eval e X.env) :: starEach es X.env := by rfl) (hpl : (backTo pos (starEach es X.env)).any (·.1) = false := by rfl) : PE X (.Call (.Name x p) (e :: es) [] pos) (tCall sp [] L2.E0 t) := by
  obtain ⟨f, fd, ps, F, hm, kp, hb⟩ := c.ex
  refine ⟨fun pins s σ H Q I h => wpAny_Call_Name_kw (ld_glob I hg hm (PySem.W.callWith_K (h₀ := X.base) I.ok.mod.kin kp (thn (ha.run pos pins s σ H _ I h) ?_) he hpl) hdb)⟩
  rintro us s1 ⟨vs, H1, I1, r, q⟩
  have r2 : Vals (vs ++ []) (us ++ []) := r.append .nil
  refine ⟨I1.kIn, wpAny_call (codeAny_mono (F.go X.A hA (hr.mono hk) X.stack s1 H1 ⟨us, []⟩ (us ++ []) (vs ++ []) Q L2.E0 I1.env0 (hb s1 us I1.kIn (r2.length.symm.trans (F.ln _ _ _ _ q))) r2 q) ?_)⟩
  rintro (er | fl) s' hq
  · exact hq.elim
  · cases fl with
    | ret u => exact I1.after hq
    | next => exact hq.elim
    | brk => exact hq.elim
    | cont => exact hq.elim
/-- str of a bool -/
def rStrB : List V → Hp → VK → Prop := fun xs H Q => ∃ b, xs = [.bl b] ∧ Q (.str (if b = true then "True" else "False")) H
theorem cStrB : CallR X (.type "str") rStrB := by
  intro pins s σ H xs us Q I r h
  obtain ⟨b, rfl, q⟩ := h
  obtain ⟨u, rfl, r1⟩ := vals1 r
  cases r1
  exact PySem.P.str_of_bool ⟨.str _, H, I.tok _, ⟨_, by cases b <;> rfl⟩, q⟩
/-- str of a list or tuple of plain data -/
def rStrD (K : PySem.W.Frag) : List V → Hp → VK → Prop := fun xs H Q => ∃ (a : Addr) (d : PyData), xs = [.ref a] ∧ Dp K H (.ref a) d ∧ d.showable = true ∧ d.depth ≤ 50 ∧ d.hasDict = false ∧ d.shown.length ≤ sizeLine ∧ Q (.str d.shown) H
theorem cStrD (hA : X.A.guards = some []) (hu : X.A.units + 64 < cLine) : CallR X (.type "str") (rStrD X.K) := by
  intro pins s σ H xs us Q I r h
  obtain ⟨a, d, rfl, hd, hs, hp, hn, hz, q⟩ := h
  obtain ⟨u, rfl, r1⟩ := vals1 r
  cases r1
  obtain ⟨as, rd⟩ := Dp.reads I d _ _ hd rfl
  exact PySem.str_of_reads rd hs (PyData.noDict_hsm hn) hA (by omega) (fun _ _ z => z) (fun h' u tk kp => ⟨.str _, H, I.kept kp, ⟨_, rfl⟩, q⟩) hz
end
/-! the law itself -/
section
variable {P : Program} {w : World} {K : PySem.W.Frag} {mg mb : Str → Option Value} {k : Nat} {fa a : Addr} {fd : FuncData} {x : Str} {sp : Sp} {s₁ : Shared} {vs : List Value} {ns : List Int}
theorem lawG (KX : K.In s₁.heap) (hns : s₁.heap.Ns mainGlobals mg) (hb : s₁.heap.Ns builtinsNs mb) (hbb : ∀ y : Str, y ≠ "__name__" → mb y = bootBuiltins y) (hlim : s₁.heap.NoLimit) (hg : s₁.gens = #[])
    (ha : s₁.heap.get? a = some { cls := .type "list", data := .seq vs.toArray }) (hi : IntsAre vs ns) (hl : ns.length ≤ sizeLine) (hr : Room k callerA) (F : ∀ bs : Heap, K.In bs → bs.Ns mainGlobals mg → FnG P w K mg bs k fa fd [x] sp)
    (hbind : ∀ (s : Shared) (u : Value), BindsTo s fd ⟨[u], []⟩ [(x, u)]) (hsp : ∀ H : Hp, Only H → SqL K H a (ns.map V.int) → sp [.ref a] H (fun v _ => v = .bl true) fun _ _ _ => False) :
    codeAny (model P w) callerA (.call (.ref fa) ⟨[.ref a], []⟩) (fun r s' => r = .ok (.ret (.bool true)) ∧ OldK s₁.heap s'.heap ∧ s'.os = s₁.os ∧ AllBare s'.gens) s₁ := by
  -- H tracks the script alone, or nothing
  suffices hH : ∃ H : Hp, Only H ∧ SqL K H a (ns.map V.int) ∧ HOk P w H s₁.heap ∧ (∀ b, H b ≠ none → b = a) ∧ (H a ≠ none → K.lookup a = none) by
    obtain ⟨H, h1, h2, h3, h4, h5⟩ := hH
    have free : ∀ {b : Addr}, b ≠ a → H b = none := fun {b} n => Classical.byContradiction fun z => n (h4 b z)
    have keep : ∀ {b : Addr} {m : Str → Option Value}, s₁.heap.Ns b m → (hidT s₁.heap H).Ns b m := by
      rintro b m ⟨o, es, ep, e, d, r⟩
      refine ⟨o, es, ep, hidT_get e (free fun z => ?_), d, r⟩
      subst z
      rw [ha] at e
      cases e
      cases d
    have kin : K.In (hidT s₁.heap H) := fun b o e => hidT_get (KX b o e) (Classical.byContradiction fun z => by
      have z2 := h4 b z
      subst z2
      rw [h5 z] at e
      cases e)
    obtain ⟨mc, l1, l2⟩ := hlim
    refine codeAny_mono ((F _ kin (keep hns)).go callerA rfl hr [] s₁ H ⟨[.ref a], []⟩ [.ref a] [.ref a] _ _ ⟨rfl, ⟨kin, keep hns, ⟨mb, keep hb, hbb⟩, ⟨mc, keep l1, l2⟩⟩, fun _ _ e => of_hidT e, Nat.le_of_eq (hidT_size _ _), trivial, (fun _ z => by cases z), h3, .of_eq hg⟩
      (hbind s₁ (.ref a)) (.cons rfl .nil) (hsp H h1 h2)) ?_
    rintro (er | fl) s' h
    · exact h.elim
    · cases fl with
      | ret u =>
        obtain ⟨v, H', os, bare, un, ok', rv, q⟩ := h
        have q : v = .bl true := q
        subst q
        cases rv
        refine ⟨rfl, OldK.of_keep fun b o e => ?_, os, bare⟩
        rcases h1 b with z | ⟨ob, ys, z⟩
        · exact un.keep b o e z (by simp [frs]) (by simp)
        · have t1 := (h3 b _ z).1
          have t2 := (ok' b _ (un.frzs b ob _ z)).1
          rw [e] at t1
          cases t1
          exact t2
      | next => exact h.elim
      | brk => exact h.elim
      | cont => exact h.elim
  have rv := vals_ints hi
  have same : vs.toArray.size ≤ sizeLine := by
    rw [List.size_toArray, hi.length]
    exact hl
  by_cases hk : K.lookup a = none
  · refine ⟨fun b => if b = a then some (.frz { cls := .type "list", data := .seq vs.toArray } (.lst (ns.map V.int))) else none, fun b => ?_, .inl (.inr ⟨_, if_pos rfl⟩), fun b u z => ?_, fun b z => Classical.byContradiction fun n => z (if_neg n), fun _ => hk⟩
    · by_cases n : b = a
      · exact .inr ⟨_, _, if_pos n⟩
      · exact .inl (if_neg n)
    · by_cases n : b = a
      · subst n
        replace z := (if_pos rfl).symm.trans z
        cases z
        exact ⟨ha, by rw [List.length_map]; exact hl, vs, _, rv, ha⟩
      · replace z := (if_neg n).symm.trans z
        cases z
  · obtain ⟨o, ho⟩ := Option.ne_none_iff_exists'.mp hk
    have e := KX a o ho
    rw [ha] at e
    cases e
    exact ⟨fun _ => none, fun _ => .inl rfl, .inr ⟨_, vs.toArray, _, ho, rfl, rfl, rfl, same, by simpa using rv⟩, (fun b u z => by cases z), fun b z => absurd rfl z, fun z => absurd rfl z⟩
end
theorem walkG {l : PySem.W.OpenLaw} {n k : Nat} {q : Program} {loose : List Str} {XP : (Str → Option Value) → Heap → Prop} {YP : World → Heap → Prop} {d : DefRec} {K : Params → PySem.W.Frag} {sp : World → Sp} {x : Str} (hn : l.most = some n) (hz : n ≤ sizeLine) (hdf : d.params.defaults = []) (hr : Room k callerA)
    (hY : ∀ (w : World) (h : Heap), YP w h → (K w.params).In h) (F : ∀ (w : World) (mg : Str → Option Value) (fa : Addr) (h : Heap), (K w.params).In h → h.Ns mainGlobals mg → mg d.name = some (.ref fa) →
      ∃ fd : FuncData, (∀ (s : Shared) (u : Value), BindsTo s fd ⟨[u], []⟩ [(x, u)]) ∧ ∀ bs : Heap, (K w.params).In bs → bs.Ns mainGlobals mg → FnG l.prog w (K w.params) mg bs k fa fd [x] (sp w))
    (hsp : ∀ (w : World) (H : Hp) (a : Addr) (ns : List Int), ns.length ≤ n → Only H → SqL (K w.params) H a (ns.map V.int) → sp w [.ref a] H (fun v _ => v = .bl true) fun _ _ _ => False) : PySem.W.WalkO q loose XP YP l.row.toRowW d [] (fun f vs => PySem.call f vs) := by
  refine Att.attach_call hn hdf fun w s₀ s₁ mg mb fa o pm cd doc a vs ns G Y _ _ _ hmg hobj hints hlen hg => ?_
  obtain ⟨fd, hb, hF⟩ := F w mg fa _ (hY w _ Y) G.T.g hmg
  exact lawG (hY w _ Y) G.T.g G.T.b G.T.builtins G.T.nolimit hg hobj hints (Nat.le_trans hlen hz) hr hF hb fun H h1 h2 => hsp w H a ns hlen h1 h2

end Bc
namespace Bc
open PySem PySem.Spec PyProof.Rows L2
/-! ### errors without a field, made with no argument -/
structure Err0 (K : PySem.W.Frag) (mg : Str → Option Value) (x : Str) (C : Addr) : Prop where
  gC : mg x = some (.ref C)
  ex : PySem.W.excIn K C [.type "ValueError", .type "Exception", .type "BaseException", .type "object"] "ValueError.__new__" = true
  kp : PySem.W.keepIn K (.ref C) = true
  sb : PySem.W.subIn K (.ref C) (.type "BaseException") = some true
  ty : PySem.W.typeIn K (.ref C) = some (.type "type")
  te : PySem.W.exmOne K (.ref C) (.ref C) = some true
section
variable {X : Cx} {x : Str} {C : Addr} {W : WX} {p pos pos2 : Pos}
theorem pmk_none (c : Err0 X.K X.mg x C) (hg : Gl X x) (hdb : (x == ("__debug__" : Str)) = false := by decide) : PMk X (.Call (.Name x p) [] [] pos) (fun _ H Q => Q (.ref C) none H) := by
  intro pins s σ H Q I h
  refine wpAny_Call_Name_kw (ld_glob I hg c.gC (PySem.W.callWith_K0 I.kIn c.kp ?_) hdb)
  obtain ⟨_, _, _, _, _, _, _, _, _, _, _, _, _, _, _, _, _, hC, hN, hni, T⟩ := exc_obj I.kIn c.ex
  exact wpAny_call_exc_subT PySem.F.excBase_ValueError T hC hN hni (fun h' e hm => mk_of I hm (raises_own c.sb c.ty) h (I.hok.gone hm.new)) (Nat.zero_le _)
theorem ps_rse0 (c : Err0 X.K X.mg x C) (hc : X.calm = true) (tk : Takes X W) (hg : Gl X x) (hdb : (x == ("__debug__" : Str)) = false := by decide) :
    PS X (.Raise (some (.Call (.Name x p) [] [] pos)) none pos2) (fun _ σ H => W (.ref C) none σ H) := ps_raise hc tk (pmk_none c hg hdb)
end

end Bc
namespace Bc
open PySem PySem.Spec PyProof.Rows L2
/-! ### != of lists with the same things in them, str of a bool -/
section
variable {X : Cx} {pins : List (Addr × Obj)} {σ : L2.St} {H : Hp} {s : Shared}
theorem rcn_lists {F : V → V → Prop} {A : Around} {p q : Addr} {xs ys : List V} (I : Inv X pins σ H s) (hx : SqL X.K H p xs) (hy : SqL X.K H q ys) (hp : Paired F xs ys) (hu : A.units < cLine)
    (hF : ∀ x y v u, F x y → RelV x v → RelV y u → PySem.SeqAt.EqAt A.in1 s v u true) : PySem.SeqAt.RcNeAt A s (.ref p) (.ref q) false := by
  obtain ⟨is, r1, ⟨o1, n1, e1, c1, _, d1⟩, _⟩ := I.list hx
  obtain ⟨js, r2, ⟨o2, n2, e2, c2, _, d2⟩, _⟩ := I.list hy
  have l0 := hp.length
  have l1 := r1.length
  have l2 := r2.length
  have h := PySem.SeqAt.RcNeAt.lists (A := A) (e := fun _ => true) ⟨o1, e1, c1, n1, d1⟩ ⟨o2, e2, c2, n2, d2⟩ (by simp only [List.size_toArray]; omega) hu (fun j h1 h2 => by
    simp only [List.size_toArray] at h1 h2
    simp only [List.getElem_toArray]
    exact hF _ _ _ _ (paired_at hp j (by omega) (by omega)) (paired_at r1 j (by omega) h1) (paired_at r2 j (by omega) h2))
  rwa [show ((List.range is.toArray.size).all fun _ => true) = true from List.all_eq_true.mpr fun _ _ => rfl] at h
def rNeA (K : PySem.W.Frag) : R2 := fun x y H Q => ∃ n p q xs ys, x = .ref p ∧ y = .ref q ∧ n ≤ 50 ∧ SqL K H p xs ∧ SqL K H q ys ∧ Paired (Alk K H n) xs ys ∧ Q (.bl false) H
theorem op_neA (hu : X.A.units + 64 < cLine) : OpR X (compareOp .NotEq) (rNeA X.K) := by
  intro pins s σ H x y v u Q I rx ry h
  obtain ⟨n, p, q, xs, ys, rfl, rfl, hn, hx, hy, hp, k⟩ := h
  cases rx
  cases ry
  exact rcn_lists I hx hy hp (by omega) (fun x y v u h r r' => Alk.eq I n X.A.in1 x y v u h r r' (by show X.A.units + 1 + n < cLine; omega)) X.prog X.w _ _ ⟨.bl false, H, I, rfl, k⟩
end
theorem w_strB {b : Bool} {H : Hp} {Q : VK} (q : Q (.str (if b = true then "True" else "False")) H) : rStrB [.bl b] H Q := ⟨b, rfl, q⟩
theorem ite_join {c : Bool} {A B : VK → Prop} {Q : VK} (R : V → Hp → Prop) (hQ : ∀ v H, R v H → Q v H) (hA : ∀ Q' : VK, (∀ v H, R v H → Q' v H) → A Q') (hB : ∀ Q' : VK, (∀ v H, R v H → Q' v H) → B Q') : if c = true then A Q else B Q := by
  cases c with
  | true => exact iteT (hA Q hQ)
  | false => exact iteF (hB Q hQ)
theorem ite_joinN {c : Bool} {T U : Ends → L2.St → Hp → Prop} {D : Ends} {σ : L2.St} {H : Hp} (R : L2.St → Hp → Prop) (rest : ∀ σ' H', R σ' H' → D.nx σ' H') (hT : ∀ N : L2.St → Hp → Prop, (∀ σ' H', R σ' H' → N σ' H') → T { D with nx := N } σ H)
    (hU : ∀ N : L2.St → Hp → Prop, (∀ σ' H', R σ' H' → N σ' H') → U { D with nx := N } σ H) : if c = true then T D σ H else U D σ H := by
  cases c with
  | true => exact iteT (hT D.nx rest)
  | false => exact iteF (hU D.nx rest)
theorem ite_joinC {c : Bool} {A B : VK → Prop} {Q : VK} (R : V → Hp → Prop) (hQ : ∀ v H, R v H → Q v H) (hA : c = true → ∀ Q' : VK, (∀ v H, R v H → Q' v H) → A Q') (hB : c = false → ∀ Q' : VK, (∀ v H, R v H → Q' v H) → B Q') : if c = true then A Q else B Q := by
  cases c with
  | true => exact iteT (hA rfl Q hQ)
  | false => exact iteF (hB rfl Q hQ)
theorem and_join {c : Bool} {A : VK → Prop} {Q : VK} {H : Hp} (R : V → Hp → Prop) (hQ : ∀ v H, R v H → Q v H) (hA : c = true → ∀ Q' : VK, (∀ v H, R v H → Q' v H) → A Q') (hB : c = false → R (.bl false) H) : if c = true then A Q else Q (.bl false) H := by
  cases c with
  | true => exact iteT (hA rfl Q hQ)
  | false => exact iteF (hQ _ _ (hB rfl))
theorem ite_joinNC {c : Bool} {T U : Ends → L2.St → Hp → Prop} {D : Ends} {σ : L2.St} {H : Hp} (R : L2.St → Hp → Prop) (rest : ∀ σ' H', R σ' H' → D.nx σ' H') (hT : c = true → ∀ N : L2.St → Hp → Prop, (∀ σ' H', R σ' H' → N σ' H') → T { D with nx := N } σ H)
    (hU : c = false → ∀ N : L2.St → Hp → Prop, (∀ σ' H', R σ' H' → N σ' H') → U { D with nx := N } σ H) : if c = true then T D σ H else U D σ H := by
  cases c with
  | true => exact iteT (hT rfl D.nx rest)
  | false => exact iteF (hU rfl D.nx rest)
theorem test_join {c : Bool} {A : (Bool → Hp → Prop) → Prop} {QT : Bool → Hp → Prop} {H : Hp} (R : Hp → Prop) (rest : ∀ H', R H' → QT false H') (hA : c = true → ∀ Q' : Bool → Hp → Prop, (∀ H', R H' → Q' false H') → A Q') (hB : c = false → R H) : if c = true then A QT else QT false H := by
  cases c with
  | true => exact iteT (hA rfl QT rest)
  | false => exact iteF (rest _ (hB rfl))
theorem w_rep {l : Addr} {k : Int} {xs : List V} {H : Hp} {Q : VK} (h : H l = some (.lst xs)) (h1 : -(2 ^ 63) ≤ k ∧ k < 2 ^ 63 ∧ xs.length * k.toNat ≤ sizeLine) (q : ∀ p, H p = none → atV Q (.ref p) (upd H p (.lst (List.replicate k.toNat xs).flatten))) : rRep (.ref l) (.int k) H Q := ⟨l, k, xs, rfl, rfl, h, h1.1, h1.2.1, h1.2.2, q⟩
theorem paired_left {α β : Type} {R : α → β → Prop} : ∀ {xs ys : List α} {ts : List β}, Paired R (xs ++ ys) ts → Paired R xs (ts.take xs.length)
  | [], _, _, _ => .nil
  | _ :: _, _, _, .cons h t => .cons h (paired_left t)
section
variable {c : TT} {tb : TS} {D : Ends} {σ : L2.St} {H : Hp}
/-- a while whose ends meet -/
theorem while_goR (Pv : L2.St → Hp → Prop) (μ : L2.St → Hp → Nat) (R : L2.St → Hp → Prop) (h0 : Pv σ H) (hs : ∀ σ H, Pv σ H → ∀ N0 : L2.St → Hp → Prop, (∀ σ' H', R σ' H' → N0 σ' H') → c σ H fun b H1 => if b = true then (∃ N : L2.St → Hp → Prop, (∀ σ' H', N σ' H' → ∃ m', m' < μ σ H ∧ (m' = μ σ' H' ∧ Pv σ' H')) ∧
      tb { D with nx := N, ct := N, bk := D.nx } σ H1) else N0 σ H1) (rest : ∀ σ' H', R σ' H' → D.nx σ' H') : tWhile c tb D σ H := while_go Pv μ h0 fun σ H h => hs σ H h D.nx rest
end

end Bc
namespace Bc
open PySem PySem.Spec PyProof.Rows L2
/-! ### ways that part: refused things, texts that show it -/
def ErrTo (E : XK) (C : Addr) (f : Str) (v : V) (H : Hp) : Prop := ∀ d H', H d = none → Same H H' → H' d = some (.xd [(f, v)]) → E (.ref C) (some d) H'
def spLikeX (c : CA) (Cu : Addr) : Sp := fun vs H Q E => ∃ (x x' : Addr) (b b' : Int) (ps ps' : List (Int × Int)) (y y' : Sty), vs = [.ref x, .ref x'] ∧ WayAt c H x b ps y ∧ WayAt c H x' b' ps' y' ∧ (y.low = y'.low → Q .non H) ∧ (y.low ≠ y'.low → E (.ref Cu) none H)
def spPartsX (K : PySem.W.Frag) (c : CA) (Ci Cu : Addr) : Sp := fun vs H Q E => ∃ v u : V, vs = [v, u] ∧
  ((∃ t, TyX K H v t ∧ PySem.W.kitOne K t (.ref c.wy) = some false ∧ ErrTo E Ci "thing" v H) ∨
   (∃ (x : Addr) (b : Int) (ps : List (Int × Int)) (y : Sty) (t : Value), v = .ref x ∧ WayAt c H x b ps y ∧ TyX K H u t ∧ PySem.W.kitOne K t (.ref c.wy) = some false ∧ ErrTo E Ci "thing" u H) ∨
   (∃ (x x' : Addr) (b b' : Int) (ps ps' : List (Int × Int)) (y y' : Sty), v = .ref x ∧ u = .ref x' ∧ WayAt c H x b ps y ∧ WayAt c H x' b' ps' y' ∧ (y.low ≠ y'.low → E (.ref Cu) none H) ∧ (y.low = y'.low → Q (.bl (rParts b (num ps) (plainS y b (num ps)) b' (num ps') (plainS y' b' (num ps')))) H)))
def spPartsLX (K : PySem.W.Frag) (c : CA) (Ci : Addr) : Sp := fun vs H Q E => ∃ v u : V, vs = [v, u] ∧
  ((∃ t, TyX K H v t ∧ PySem.W.kitOne K t (.ref c.wy) = some false ∧ ErrTo E Ci "thing" v H) ∨
   (∃ (x : Addr) (b : Int) (ps : List (Int × Int)) (y : Sty) (t : Value), v = .ref x ∧ WayAt c H x b ps y ∧ TyX K H u t ∧ PySem.W.kitOne K t (.ref c.wy) = some false ∧ ErrTo E Ci "thing" u H) ∨
   (∃ (x x' : Addr) (b b' : Int) (ps ps' : List (Int × Int)) (y y' : Sty), v = .ref x ∧ u = .ref x' ∧ WayAt c H x b ps y ∧ WayAt c H x' b' ps' y' ∧ Q (.bl (rPartsL y.low y'.low b (num ps) b' (num ps'))) H))
def spCaught (K : PySem.W.Frag) (c : CA) : Sp := fun vs H Q _ => ∃ (k : Int) (v u : V), vs = [.int k, v, u] ∧ (k = 0 ∨ k = 1) ∧
  ((∃ t, TyX K H v t ∧ PySem.W.kitOne K t (.ref c.wy) = some false ∧ ∀ l H', H l = none → Same H H' → H' l = some (.lst [.str "way", v]) → Q (.ref l) H') ∨
   (∃ (x : Addr) (b : Int) (ps : List (Int × Int)) (y : Sty) (t : Value), v = .ref x ∧ WayAt c H x b ps y ∧ TyX K H u t ∧ PySem.W.kitOne K t (.ref c.wy) = some false ∧ ∀ l H', H l = none → Same H H' → H' l = some (.lst [.str "way", u]) → Q (.ref l) H') ∨
   (∃ (x x' : Addr) (b b' : Int) (ps ps' : List (Int × Int)) (y y' : Sty), k = 0 ∧ v = .ref x ∧ u = .ref x' ∧ WayAt c H x b ps y ∧ WayAt c H x' b' ps' y' ∧ y.low ≠ y'.low ∧ ∀ l H', H l = none → Same H H' → H' l = some (.lst [.str "unlike"]) → Q (.ref l) H'))
def spNear7 (ca : CA) : Sp := fun vs H Q _ => ∃ (a x g : Addr) (b c : Int) (ps : List (Int × Int)) (y : Sty), vs = [.ref a, .ref x, .ref g] ∧ c < 2 ^ 47 ∧ Purse H a c ∧ WayAt ca (rm a H) x b ps y ∧ rm a H g = some (.lst [.bl y.low, .int y.shift, .bl y.lead]) ∧
  ∀ (x' : Addr) (b' : Int) (ps' : List (Int × Int)) (y' : Sty) (H' : Hp), Same (rm a H) (rm a H') → Purse H' a (c + 300) → WayAt ca (rm a H') x' b' ps' y' → Q (.ref x') H'
/-- a list of pairs of lists of letters -/
def Two (H : Hp) (q : List Int × List Int) (t : Addr) : Prop := ∃ p1 p2 : Addr, H t = some (.tup [.ref p1, .ref p2]) ∧ H p1 = some (.lst (q.1.map V.int)) ∧ H p2 = some (.lst (q.2.map V.int)) ∧ q.1.length ≤ 1000 ∧ q.2.length ≤ 1000
def TwL (H : Hp) (l : Addr) (qs : List (List Int × List Int)) : Prop := ∃ ts : List Addr, H l = some (.lst (ts.map V.ref)) ∧ Paired (Two H) qs ts
theorem Two.same {H H' : Hp} {q : List Int × List Int} {t : Addr} (h : Two H q t) (s : Same H H') : Two H' q t := by
  obtain ⟨p1, p2, h1, h2, h3, r⟩ := h
  exact ⟨p1, p2, s _ _ h1, s _ _ h2, s _ _ h3, r⟩
theorem TwL.same {H H' : Hp} {l : Addr} {qs : List (List Int × List Int)} (h : TwL H l qs) (s : Same H H') : TwL H' l qs := by
  obtain ⟨ts, h1, h2⟩ := h
  exact ⟨ts, s _ _ h1, paired_imp (fun _ _ z => z.same s) h2⟩
def hit (y y' : Sty) (b n b' n' : Int) (q : List Int × List Int) : Bool := rAgree y b n q.1 q.2 && !rAgree y' b' n' q.1 q.2
def spShown (c : CA) : Sp := fun vs H Q _ => ∃ (x x' l : Addr) (b b' : Int) (ps ps' : List (Int × Int)) (y y' : Sty) (qs : List (List Int × List Int)), vs = [.ref x, .ref x', .ref l] ∧ WayAt c H x b ps y ∧ WayAt c H x' b' ps' y' ∧ TwL H l qs ∧
  ∀ H', Same H H' → Q (.bl (qs.any (hit y y' b (num ps) b' (num ps')))) H'
def five (b n : Int) : List (List Int × List Int) := [([n], [0]), ([n, 0], [0, 0]), ([0, n], [0, 0]), ([1, 0], [0, b]), ([0, 1], [b, 0])]
def two (n s : Int) : List (List Int × List Int) := [([], [0 - s]), ([], [n - s])]
def spPairsOf (K : PySem.W.Frag) (c : CA) : Sp := fun vs H Q _ => ∃ (x : Addr) (b : Int) (ps : List (Int × Int)) (y : Sty), vs = [.ref x] ∧ WayAt c H x b ps y ∧
  ∀ l H', Same H H' → TwL H' l (five b (num ps) ++ two (num ps) (plainS y b (num ps))) → Q (.ref l) H'
def spDrawnR (ca : CA) : Sp := fun vs H Q _ => ∃ (a x x' : Addr) (b b' c : Int) (ps ps' : List (Int × Int)) (y y' : Sty), vs = [.ref a, .ref x, .ref x'] ∧ c < 2 ^ 47 ∧ Purse H a c ∧ WayAt ca (rm a H) x b ps y ∧ WayAt ca (rm a H) x' b' ps' y' ∧ rPartsL y.low y'.low b (num ps) b' (num ps') = true ∧
  ∀ H', Same (rm a H) (rm a H') → Purse H' a (c + 100) → Q (.bl true) H'
/-! #### the law's texts -/
theorem hv_cong {n b b' : Int} (h : (b - b') % n = 0) (cs : List Int) : n ∣ hv cs b ↔ n ∣ hv cs b' := by
  have e : b % n = b' % n := Int.emod_eq_emod_iff_emod_sub_eq_zero.mpr h
  rw [Int.dvd_iff_emod_eq_zero, Int.dvd_iff_emod_eq_zero, ← hv_mod b, ← hv_mod b', e]
theorem partsL_sound {y y' : Sty} {b n b' n' : Int} {ls ms : List Int} (h : rPartsL y.low y'.low b n b' n' = true) (hl : ls.length = ms.length) (ha : mark y b n ls = mark y b n ms) : mark y' b' n' ls = mark y' b' n' ms := by
  rw [agree_iff hl] at ha ⊢
  unfold rPartsL at h
  rw [Bool.and_eq_true, decide_eq_true_eq] at h
  have hd : n' ∣ hv (if y.low = true then (sub2 ls ms).reverse else sub2 ls ms) b := Int.dvd_trans (Int.dvd_of_emod_eq_zero h.1) ha
  have h2 := h.2
  generalize sub2 ls ms = ds at hd ⊢
  by_cases e : y.low = y'.low
  · rw [if_pos e, decide_eq_true_eq] at h2
    rw [← e]
    exact (hv_cong h2 _).mp hd
  · rw [if_neg e, decide_eq_true_eq] at h2
    obtain ⟨u, hu⟩ := Int.dvd_of_emod_eq_zero h2
    cases hy : y.low with
    | true =>
      have hy' : y'.low = false := by cases h' : y'.low with | false => rfl | true => exact absurd (hy.trans h'.symm) e
      rw [hy, if_pos rfl] at hd
      rw [hy', if_neg (by decide)]
      exact (turn_dvd (b := b') (c := b) (n := n') (u := u) (by rw [Int.mul_comm]; omega) ds).mp hd
    | false =>
      have hy' : y'.low = true := by cases h' : y'.low with | true => rfl | false => exact absurd (hy.trans h'.symm) e
      rw [hy, if_neg (by decide)] at hd
      rw [hy', if_pos rfl]
      exact (turn_dvd (b := b) (c := b') (n := n') (u := u) (by omega) ds).mpr hd
theorem hit_of {y y' : Sty} {b n b' n' : Int} {ls ms : List Int} (hl : ls.length = ms.length) (h1 : n ∣ hv (if y.low then (sub2 ls ms).reverse else sub2 ls ms) b) (h2 : ¬ n' ∣ hv (if y'.low then (sub2 ls ms).reverse else sub2 ls ms) b') : hit y y' b n b' n' (ls, ms) = true := by
  unfold hit rAgree
  rw [Bool.and_eq_true]
  refine ⟨decide_eq_true ((agree_iff hl).mpr h1), ?_⟩
  rw [decide_eq_false fun z => h2 ((agree_iff hl).mp z)]
  rfl
theorem hv1 (x b : Int) : hv [x] b = x := by simp [hv]
theorem hv2 (x z b : Int) : hv [x, z] b = x * b + z := by simp [hv]
theorem five_any {y y' : Sty} {b n b' n' : Int} : (five b n).any (hit y y' b n b' n') = !rPartsL y.low y'.low b n b' n' := by
  cases hp : rPartsL y.low y'.low b n b' n' with
  | true =>
    have no : ∀ q ∈ five b n, hit y y' b n b' n' q = false := fun q hq => by
      have hl : q.1.length = q.2.length := by
        unfold five at hq
        simp only [List.mem_cons, List.not_mem_nil, or_false] at hq
        rcases hq with rfl | rfl | rfl | rfl | rfl <;> rfl
      unfold hit rAgree
      by_cases ha : mark y b n q.1 = mark y b n q.2
      · rw [decide_eq_true ha, decide_eq_true (partsL_sound hp hl ha)]
        rfl
      · rw [decide_eq_false ha]
        rfl
    show _ = false
    rw [List.any_eq_false]
    exact fun q hq => by rw [no q hq]; decide
  | false =>
    show _ = true
    rw [List.any_eq_true]
    unfold rPartsL at hp
    by_cases h1 : n % n' = 0
    · rw [decide_eq_true h1, Bool.true_and] at hp
      have e10 : sub2 [1, 0] [0, b] = [1, -b] := by unfold sub2; simp
      have e01 : sub2 [0, 1] [b, 0] = [-b, 1] := by unfold sub2; simp
      by_cases e : y.low = y'.low
      · rw [if_pos e] at hp
        have h2 : ¬ n' ∣ b' - b := fun z => of_decide_eq_false hp (Int.emod_eq_zero_of_dvd (by have := Int.dvd_neg.mpr z; rwa [Int.neg_sub] at this))
        cases hy : y.low with
        | true =>
          refine ⟨([0, 1], [b, 0]), by unfold five; simp, hit_of rfl ?_ ?_⟩
          · rw [hy, if_pos rfl, e01]
            show n ∣ hv [1, -b] b
            rw [hv2]
            exact ⟨0, by omega⟩
          · rw [← e, hy, if_pos rfl, e01]
            show ¬ n' ∣ hv [1, -b] b'
            rw [hv2]
            exact fun z => h2 (by rwa [show b' - b = 1 * b' + -b by omega])
        | false =>
          refine ⟨([1, 0], [0, b]), by unfold five; simp, hit_of rfl ?_ ?_⟩
          · rw [hy, if_neg (by decide), e10, hv2]
            exact ⟨0, by omega⟩
          · rw [← e, hy, if_neg (by decide), e10, hv2]
            exact fun z => h2 (by rwa [show b' - b = 1 * b' + -b by omega])
      · rw [if_neg e] at hp
        have h2 : ¬ n' ∣ -b * b' + 1 := fun z => of_decide_eq_false hp (Int.emod_eq_zero_of_dvd (by
          have := Int.dvd_neg.mpr z
          rwa [show -(-b * b' + 1) = b * b' - 1 by rw [Int.neg_mul]; omega] at this))
        cases hy : y.low with
        | true =>
          have hy' : y'.low = false := by cases h' : y'.low with | false => rfl | true => exact absurd (hy.trans h'.symm) e
          refine ⟨([0, 1], [b, 0]), by unfold five; simp, hit_of rfl ?_ ?_⟩
          · rw [hy, if_pos rfl, e01]
            show n ∣ hv [1, -b] b
            rw [hv2]
            exact ⟨0, by omega⟩
          · rw [hy', if_neg (by decide), e01, hv2]
            exact h2
        | false =>
          have hy' : y'.low = true := by cases h' : y'.low with | true => rfl | false => exact absurd (hy.trans h'.symm) e
          refine ⟨([1, 0], [0, b]), by unfold five; simp, hit_of rfl ?_ ?_⟩
          · rw [hy, if_neg (by decide), e10, hv2]
            exact ⟨0, by omega⟩
          · rw [hy', if_pos rfl, e10]
            show ¬ n' ∣ hv [-b, 1] b'
            rw [hv2]
            exact h2
    · refine ⟨([n], [0]), by unfold five; simp, hit_of rfl ?_ ?_⟩
      · have e1 : sub2 [n] [0] = [n] := by unfold sub2; simp
        rw [e1, show (if y.low = true then ([n] : List Int).reverse else [n]) = [n] by split <;> rfl, hv1]
        exact Int.dvd_refl n
      · have e1 : sub2 [n] [0] = [n] := by unfold sub2; simp
        rw [e1, show (if y'.low = true then ([n] : List Int).reverse else [n]) = [n] by split <;> rfl, hv1]
        exact fun z => h1 (Int.emod_eq_zero_of_dvd z)
theorem agree_one (y : Sty) (b n l : Int) : rAgree y b n [] [l] = decide ((plainS y b n + l) % n = 0) := by
  unfold rAgree
  refine decide_eq_decide.mpr ?_
  rw [mark_hv, mark_hv, Int.emod_eq_emod_iff_emod_sub_eq_zero]
  have e1 : hv (if y.low = true then ([l] : List Int).reverse else [l]) b = l := by rw [show (if y.low = true then ([l] : List Int).reverse else [l]) = [l] by split <;> rfl, hv1]
  have e0 : hv (if y.low = true then ([] : List Int).reverse else []) b = 0 := by rw [show (if y.low = true then ([] : List Int).reverse else []) = [] by split <;> rfl]; rfl
  have g1 : geo b ([l] : List Int).length = 1 := by show geo b (0 + 1) = 1; rw [geo_succ]; simp [geo, hv]
  have g0 : geo b ([] : List Int).length = 0 := by simp [geo, hv]
  rw [e1, e0, g1, g0]
  unfold plainS
  rw [Int.emod_add_emod, ← Int.dvd_iff_emod_eq_zero, ← Int.dvd_iff_emod_eq_zero]
  show n ∣ (if y.lead = true then 1 else 0) * b ^ 0 + 0 + y.shift * 0 - ((if y.lead = true then 1 else 0) * b ^ 1 + l + y.shift * 1) ↔ _
  rw [← Int.dvd_neg]
  have e : -((if y.lead = true then 1 else 0) * b ^ 0 + 0 + y.shift * 0 - ((if y.lead = true then 1 else 0) * b ^ 1 + l + y.shift * 1)) = y.shift + (if y.lead = true then b - 1 else 0) + l := by
    rw [Int.pow_zero, Int.pow_succ, Int.pow_zero]
    cases y.lead <;> simp <;> omega
  rw [e]
theorem seven_any {y y' : Sty} {b n b' n' : Int} (e : y.low = y'.low) : (five b n ++ two n (plainS y b n)).any (hit y y' b n b' n') = !rParts b n (plainS y b n) b' n' (plainS y' b' n') := by
  rw [List.any_append, five_any]
  unfold rPartsL rParts
  rw [if_pos e]
  by_cases h1 : n % n' = 0
  · by_cases h2 : (b - b') % n' = 0
    · rw [decide_eq_true h1, decide_eq_true h2]
      have hs : ∀ l : Int, (plainS y b n + l) % n = 0 → hit y y' b n b' n' ([], [l]) = !decide ((plainS y' b' n' + l) % n' = 0) := fun l hl => by
        unfold hit
        rw [agree_one, agree_one, decide_eq_true hl, Bool.true_and]
      unfold two
      rw [List.any_cons, List.any_cons, List.any_nil, hs _ (by rw [show plainS y b n + (0 - plainS y b n) = 0 by omega, Int.zero_emod]), hs _ (by rw [show plainS y b n + (n - plainS y b n) = n by omega, Int.emod_self])]
      generalize plainS y b n = s
      generalize plainS y' b' n' = s'
      have q1 : (s' + (0 - s)) % n' = 0 ↔ (s - s') % n' = 0 := by
        rw [← Int.dvd_iff_emod_eq_zero, ← Int.dvd_iff_emod_eq_zero, ← Int.dvd_neg, show -(s' + (0 - s)) = s - s' by omega]
      have q2 : (s' + (n - s)) % n' = 0 ↔ (s - s') % n' = 0 := by
        rw [← q1, ← Int.dvd_iff_emod_eq_zero, ← Int.dvd_iff_emod_eq_zero, show s' + (n - s) = s' + (0 - s) + n by omega]
        exact Int.dvd_add_left (Int.dvd_of_emod_eq_zero h1)
      rw [show decide ((s' + (0 - s)) % n' = 0) = decide ((s - s') % n' = 0) from decide_eq_decide.mpr q1, show decide ((s' + (n - s)) % n' = 0) = decide ((s - s') % n' = 0) from decide_eq_decide.mpr q2]
      cases decide ((s - s') % n' = 0) <;> rfl
    · rw [decide_eq_true h1, decide_eq_false h2]
      simp
  · rw [decide_eq_false h1]
    simp
theorem ints_ne {vs : List Int} (h : vs.length ≤ 2) (x y z : Int) : HO.lst (vs.map V.int) ≠ .lst [.int x, .int y, .int z] := fun e => by
  have e2 : vs.map V.int = [.int x, .int y, .int z] := by injection e
  have := congrArg List.length e2
  rw [List.length_map] at this
  simp at this
  omega
theorem two_rm {a : Addr} {c : Int} {H : Hp} (pu : Purse H a c) : ∀ {qs : List (List Int × List Int)} {ts : List Addr}, Paired (Two H) qs ts → (∀ q ∈ qs, q.1.length ≤ 2 ∧ q.2.length ≤ 2) → Paired (Two (rm a H)) qs ts
  | _, _, .nil, _ => .nil
  | q :: _, _, .cons ⟨p1, p2, h1, h2, h3, h4⟩ t, hs => .cons ⟨p1, p2, rm_of (pu.ne h1 fun _ _ _ w => by cases w) h1, rm_of (pu.ne h2 (ints_ne (hs q (List.mem_cons_self ..)).1)) h2, rm_of (pu.ne h3 (ints_ne (hs q (List.mem_cons_self ..)).2)) h3, h4⟩ (two_rm pu t fun z hz => hs z (List.mem_cons_of_mem _ hz))
theorem TwL.rmS {a : Addr} {c : Int} {H : Hp} {l : Addr} {qs : List (List Int × List Int)} (h : TwL H l qs) (pu : Purse H a c) (hs : ∀ q ∈ qs, q.1.length ≤ 2 ∧ q.2.length ≤ 2) : TwL (rm a H) l qs := by
  obtain ⟨ts, h1, h2⟩ := h
  exact ⟨ts, rm_of (pu.ne h1 refs_ne) h1, two_rm pu h2 hs⟩
theorem seven_len {b n s : Int} : ∀ q ∈ five b n ++ two n s, q.1.length ≤ 2 ∧ q.2.length ≤ 2 := fun q hq => by
  unfold five two at hq
  simp only [List.cons_append, List.nil_append, List.mem_cons, List.not_mem_nil, or_false] at hq
  rcases hq with rfl | rfl | rfl | rfl | rfl | rfl | rfl <;> exact ⟨by simp, by simp⟩

end Bc
namespace Bc
open PySem PySem.Spec PyProof.Rows L2
/-! ### displays whose address is known not to be that of sys.modules; str of data with {} in it -/
def tLstB (t : TA) : TE := fun σ H Q => t σ H fun xs H1 => xs.length ≤ sizeLine ∧ ∀ p, H1 p = none → p ≠ sysModules → atV Q (.ref p) (upd H1 p (.lst xs))
section
variable {X : Cx} {es : List Expr} {t : TA} {pos : Pos}
theorem pe_lstB (h : PA X es t) : PE X (.List es pos) (tLstB t) := by
  refine ⟨fun pins s σ H Q I hq => wpAny_List_spliced (thn (h.run pos pins s σ H _ I hq) ?_)⟩
  rintro us s1 ⟨xs, H1, I1, r, z, q⟩
  refine ⟨by rw [← r.length]; exact z, .ref s1.heap.objs.size, upd H1 s1.heap.objs.size (.lst xs), ?_, rfl, q _ (I1.hok.fresh (Nat.le_refl _)) (Nat.ne_of_gt I1.big)⟩
  exact I1.laid (t' := s1.toks) (fun _ _ e => Heap.get?_push_of_some _ e) (Nat.le_refl _) ⟨z, us, 0, r, Heap.get?_push_size _ rfl⟩
end
theorem w_lstB {t : TA} {σ : L2.St} {H : Hp} {Q : VK} (q : t σ H fun xs H1 => xs.length ≤ sizeLine ∧ ∀ p, H1 p = none → p ≠ sysModules → atV Q (.ref p) (upd H1 p (.lst xs))) : tLstB t σ H Q := q
theorem alB {H : Hp} {Q : VK} {o : HO} (q : ∀ p H', H p = none → p ≠ sysModules → Same H H' → H' p = some o → atV Q (.ref p) H') : ∀ p, H p = none → p ≠ sysModules → atV Q (.ref p) (upd H p o) := fun p n ne => q p _ n ne (Same.new n) upd_same
theorem alRB {H : Hp} {Q : VK} {o : HO} {a : Addr} {c : Int} (pu : Purse H a c) (q : ∀ p H', p ≠ sysModules → Same (rm a H) (rm a H') → Purse H' a c → rm a H' p = some o → rm a H p = none → atV Q (.ref p) H') : ∀ p, H p = none → p ≠ sysModules → atV Q (.ref p) (upd H p o) := fun p n ne =>
  q p _ ne (Same.new n).rm (pu.same (Same.new n)) (rm_of (pu.fresh n) upd_same) (rm_none n)
mutual
inductive Dq (H : Hp) : V → PyData → Prop
  | non : Dq H .non .none
  | bl (b : Bool) : Dq H (.bl b) (.bool b)
  | int (i : Int) : Dq H (.int i) (.int i)
  | str (z : Str) : Dq H (.str z) (.str z)
  | lst {a : Addr} {xs : List V} {ds : List PyData} : a ≠ sysModules → H a = some (.lst xs) → DqAll H xs ds → Dq H (.ref a) (.list ds)
  | tup {a : Addr} {xs : List V} {ds : List PyData} : H a = some (.tup xs) → DqAll H xs ds → Dq H (.ref a) (.tuple ds)
  | dk {a : Addr} : H a = some (.dK []) → Dq H (.ref a) (.dict [])
inductive DqAll (H : Hp) : List V → List PyData → Prop
  | nil : DqAll H [] []
  | cons {v : V} {vs : List V} {d : PyData} {ds : List PyData} : Dq H v d → DqAll H vs ds → DqAll H (v :: vs) (d :: ds)
end
mutual
theorem Dq.same {H H' : Hp} (s : Same H H') : ∀ {v : V} {d : PyData}, Dq H v d → Dq H' v d
  | _, _, .non => .non
  | _, _, .bl b => .bl b
  | _, _, .int i => .int i
  | _, _, .str z => .str z
  | _, _, .lst n h t => .lst n (s _ _ h) (DqAll.same s t)
  | _, _, .tup h t => .tup (s _ _ h) (DqAll.same s t)
  | _, _, .dk h => .dk (s _ _ h)
theorem DqAll.same {H H' : Hp} (s : Same H H') : ∀ {vs : List V} {ds : List PyData}, DqAll H vs ds → DqAll H' vs ds
  | _, _, .nil => .nil
  | _, _, .cons h t => .cons (Dq.same s h) (DqAll.same s t)
end
section
variable {X : Cx} {pins : List (Addr × Obj)} {σ : L2.St} {H : Hp} {s : Shared}
mutual
theorem Dq.reads (I : Inv X pins σ H s) : ∀ {v : V} {d : PyData} {u : Value}, Dq H v d → RelV v u → ∃ as, Reads s.heap u d as ∧ sysModules ∉ as
  | _, _, _, .non, r => by cases r; exact ⟨_, .none, by simp⟩
  | _, _, _, .bl b, r => by cases r; exact ⟨_, .bool b, by simp⟩
  | _, _, _, .int i, r => by obtain ⟨t, rfl⟩ := r; exact ⟨_, .int i t, by simp⟩
  | _, _, _, .str z, r => by obtain ⟨t, rfl⟩ := r; exact ⟨_, .str z t, by simp⟩
  | _, _, _, .lst (a := a) n h t, r => by
    cases r
    obtain ⟨its, rv, ⟨o, k, ho, hc, _, hd⟩, _⟩ := I.list (sq h)
    obtain ⟨as, hr, no⟩ := DqAll.reads I t rv
    exact ⟨a :: as, .list ho hc hd hr, fun z => (List.mem_cons.mp z).elim (fun e => n e.symm) no⟩
  | _, _, _, .tup h t, r => by
    cases r
    obtain ⟨its, rv, ⟨o, ho, hc, k, hd⟩, _⟩ := I.tuple (sqt h)
    obtain ⟨as, hr, no⟩ := DqAll.reads I t rv
    exact ⟨as, .tuple ho hc hd hr, no⟩
  | _, _, _, .dk (a := a) h, r => by
    cases r
    obtain ⟨_, ne, vs, kv, o, es, ep, ho, hx, hd, _, he, _⟩ := dk_of I.hok h
    cases kv
    have e0 : es.toList = [] := by
      generalize es.toList = l at he
      cases he
      rfl
    refine ⟨[a], Reads.dict (kvs := []) (as := []) (bs := []) ho hx.1 hd (by rw [e0]; exact .nil) (by rw [e0]; exact .nil), fun z => ?_⟩
    have e : sysModules = a := by simpa using z
    rw [e] at ne
    simp at ne
theorem DqAll.reads (I : Inv X pins σ H s) : ∀ {vs : List V} {ds : List PyData} {us : List Value}, DqAll H vs ds → Vals vs us → ∃ as, ReadsAll s.heap us ds as ∧ sysModules ∉ as
  | _, _, _, .nil, .nil => ⟨_, .nil, by simp⟩
  | _, _, _, .cons h t, .cons r rs => by
    obtain ⟨as, q1, n1⟩ := Dq.reads I h r
    obtain ⟨bs, q2, n2⟩ := DqAll.reads I t rs
    exact ⟨as ++ bs, .cons q1 q2, fun z => (List.mem_append.mp z).elim n1 n2⟩
end
end
def rStrQ : List V → Hp → VK → Prop := fun xs H Q => ∃ (a : Addr) (d : PyData), xs = [.ref a] ∧ Dq H (.ref a) d ∧ d.showable = true ∧ d.depth ≤ 50 ∧ d.shown.length ≤ sizeLine ∧ Q (.str d.shown) H
theorem cStrQ {X : Cx} (hA : X.A.guards = some []) (hu : X.A.units + 64 < cLine) : CallR X (.type "str") rStrQ := by
  intro pins s σ H xs us Q I r h
  obtain ⟨a, d, rfl, hd, hs, hp, hz, q⟩ := h
  obtain ⟨u, rfl, r1⟩ := vals1 r
  cases r1
  obtain ⟨as, rd, no⟩ := Dq.reads I hd rfl
  exact PySem.str_of_reads rd hs (fun _ => no) hA (by omega) (fun _ _ z => z) (fun h' u tk kp => ⟨.str _, H, I.kept kp, ⟨_, rfl⟩, q⟩) hz
/-! ### things that are no texts -/
theorem tyx_same {K : PySem.W.Frag} {H H' : Hp} {v : V} {t : Value} (h : TyX K H v t) (s : Same H H') : TyX K H' v t := by
  cases h with
  | base b =>
    refine .base ?_
    cases b with
    | non => exact .non
    | bl x => exact .bl x
    | int i => exact .int i
    | str x => exact .str x
    | flt x => exact .flt x
    | lst e => exact .lst (s _ _ e)
    | frz e => exact .frz (s _ _ e)
    | tup e => exact .tup (s _ _ e)
    | dK e => exact .dK (s _ _ e)
    | dT e => exact .dT (s _ _ e)
    | ins e cl ha hn htk hm => exact .ins (s _ _ e) cl ha hn htk hm
  | byt b => exact .byt b
  | set e => exact .set (s _ _ e)
  | kList e c => exact .kList e c
  | kTuple e c => exact .kTuple e c
  | kDict e c => exact .kDict e c
  | fTuple e => exact .fTuple (s _ _ e)
  | fDict e => exact .fDict (s _ _ e)
/-- is_integer's answer -/
def IntB (K : PySem.W.Frag) (H : Hp) (v : V) (b : Bool) : Prop := ∃ (t : Value) (b1 b2 : Bool), TyX K H v t ∧ PySem.W.kitOne K t (.type "int") = some b1 ∧ PySem.W.kitOne K t (.type "bool") = some b2 ∧ b = (b1 && !b2)
theorem IntB.same {K : PySem.W.Frag} {H H' : Hp} {v : V} {b : Bool} (h : IntB K H v b) (s : Same H H') : IntB K H' v b := by
  obtain ⟨t, b1, b2, h1, h2⟩ := h
  exact ⟨t, b1, b2, tyx_same h1 s, h2⟩
def sgn (c : Nat) : Bool := decide (32 ≤ c) && decide (c ≤ 126)
/-- is_text's answer -/
inductive TextB (K : PySem.W.Frag) (H : Hp) : V → Bool → Prop where
  | oth {v : V} {t : Value} (ty : TyX K H v t) (h1 : PySem.W.kitOne K t (.type "str") = some false) (h2 : PySem.W.kitAny K t [.type "list", .type "tuple"] = some false) : TextB K H v false
  | str (z : Str) (l : z.length ≤ 100000) : TextB K H (.str z) (z.cps.toList.all sgn)
  | lst (a : Addr) (xs : List V) (bs : List Bool) (h : H a = some (.lst xs)) (l : xs.length ≤ 100000) (p : Paired (IntB K H) xs bs) : TextB K H (.ref a) (bs.all id)
  | tup (a : Addr) (xs : List V) (bs : List Bool) (h : H a = some (.tup xs)) (l : xs.length ≤ 100000) (p : Paired (IntB K H) xs bs) : TextB K H (.ref a) (bs.all id)
theorem TextB.same {K : PySem.W.Frag} {H H' : Hp} {v : V} {b : Bool} (h : TextB K H v b) (s : Same H H') : TextB K H' v b := by
  cases h with
  | oth ty h1 h2 => exact .oth (tyx_same ty s) h1 h2
  | str z l => exact .str z l
  | lst a xs bs h l p => exact .lst a xs bs (s _ _ h) l (paired_imp (fun _ _ z => z.same s) p)
  | tup a xs bs h l p => exact .tup a xs bs (s _ _ h) l (paired_imp (fun _ _ z => z.same s) p)
theorem ints_b {K : PySem.W.Frag} {H : Hp} : ∀ ls : List Int, Paired (IntB K H) (ls.map V.int) (ls.map fun _ => true)
  | [] => .nil
  | l :: r => .cons ⟨_, true, false, ty_int l, kit_ty (by decide +kernel), kit_ty (by decide +kernel), rfl⟩ (ints_b r)
theorem TextAt.b {K : PySem.W.Frag} {H : Hp} {v : V} {ls : List Int} (t : TextAt H v ls) : TextB K H v true := by
  cases t with
  | str z h l =>
    have e : z.cps.toList.all sgn = true := List.all_eq_true.mpr fun c hc => by
      have := h c hc
      unfold sgn
      rw [decide_eq_true this.1, decide_eq_true this.2]
      rfl
    rw [← e]
    exact .str z l
  | lst a _ h l =>
    rw [← all_true ls]
    exact .lst a _ _ h (by rw [List.length_map]; exact l) (ints_b ls)
  | tup a _ h l =>
    rw [← all_true ls]
    exact .tup a _ _ h (by rw [List.length_map]; exact l) (ints_b ls)
def spIsTextX (K : PySem.W.Frag) : Sp := fun vs H Q _ => ∃ (v : V) (b : Bool), vs = [v] ∧ TextB K H v b ∧ ∀ H', Same H H' → Q (.bl b) H'
def spReqTextX (K : PySem.W.Frag) (Ct : Addr) : Sp := fun vs H Q E => ∃ v : V, vs = [v] ∧ ((∃ ls, TextAt H v ls ∧ ∀ H' t, Same H H' → H' t = some (.tup (ls.map V.int)) → Q (.ref t) H') ∨ (TextB K H v false ∧ ErrTo E Ct "thing" v H))
def spMkOfX (K : PySem.W.Frag) (c : CA) (Ck : Addr) : Sp := fun vs H Q E => ∃ v : V, vs = [v] ∧
  ((∃ y : Sty, ((v = .non ∧ y = ⟨false, 0, false⟩) ∨ ∃ k, v = .ref k ∧ MkAt c H k y.low y.shift y.lead) ∧ ∀ H' k, Same H H' → MkAt c H' k y.low y.shift y.lead → Q (.ref k) H') ∨
   (v ≠ .non ∧ ∃ t, TyX K H v t ∧ PySem.W.kitOne K t (.ref c.kg) = some false ∧ ErrTo E Ck "name" .non H))
theorem sign_lo2 (c : Nat) : (!decide ((Str.mk #[c]).cps.toList < (Str.ofString " ").cps.toList)) = decide (32 ≤ c) := by
  by_cases h : 32 ≤ c
  · rw [sign_lo h, decide_eq_true h]
    rfl
  · rw [show decide ((Str.mk #[c]).cps.toList < (Str.ofString " ").cps.toList) = true from decide_eq_true (lt1.mpr (show c < 32 by omega)), decide_eq_false h]
    rfl
theorem sign_hi2 (c : Nat) : (!decide ((Str.ofString "~").cps.toList < (Str.mk #[c]).cps.toList)) = decide (c ≤ 126) := by
  by_cases h : c ≤ 126
  · rw [sign_hi h, decide_eq_true h]
    rfl
  · rw [show decide ((Str.ofString "~").cps.toList < (Str.mk #[c]).cps.toList) = true from decide_eq_true (lt1.mpr (show 126 < c by omega)), decide_eq_false h]
    rfl

end Bc
namespace Bc
open PySem PySem.Spec PyProof.Rows L2
/-! ### differences of texts -/
theorem same_app' {t : Addr} {H H' : Hp} {o : HO} (n : H t = none) (s : Same H H') : Same H (upd H' t o) := fun b o hb => by
  rw [upd_ne (ne_of_none hb n)]
  exact s b o hb
def psub : List Int → List Int → List Int
  | [], ys => ys.map fun y => 0 - y
  | x :: xs, ys => (x - ys.headD 0) :: psub xs ys.tail
def trim (xs : List Int) : List Int := (xs.reverse.dropWhile fun x => x == 0).reverse
theorem trim_nil : trim [] = [] := rfl
theorem trim_zero (xs : List Int) : trim (xs ++ [0]) = trim xs := by
  unfold trim
  rw [List.reverse_append]
  rfl
theorem trim_snoc (xs : List Int) {x : Int} (h : x ≠ 0) : trim (xs ++ [x]) = xs ++ [x] := by
  unfold trim
  rw [List.reverse_append]
  show (List.dropWhile (fun x => x == 0) (x :: xs.reverse)).reverse = _
  rw [List.dropWhile_cons, if_neg (by simpa using h), List.reverse_cons, List.reverse_reverse]
theorem psub_len : ∀ xs ys : List Int, (psub xs ys).length = max xs.length ys.length
  | [], ys => by
    show (ys.map _).length = _
    rw [List.length_map, List.length_nil]
    omega
  | x :: xs, ys => by
    show (psub xs ys.tail).length + 1 = _
    rw [psub_len xs ys.tail, List.length_tail, List.length_cons]
    omega
theorem zip_nil_r : ∀ xs : List Int, List.zipWith (fun x y => x - y) xs (List.replicate xs.length 0) = psub xs []
  | [] => rfl
  | x :: xs => by
    show _ = (x - 0) :: psub xs []
    rw [List.length_cons, List.replicate_succ, List.zipWith_cons_cons, zip_nil_r xs]
theorem zip_nil_l : ∀ ys : List Int, List.zipWith (fun x y => x - y) (List.replicate ys.length 0) ys = psub [] ys
  | [] => rfl
  | y :: ys => by
    show _ = (0 - y) :: psub [] ys
    rw [List.length_cons, List.replicate_succ, List.zipWith_cons_cons, zip_nil_l ys]
/-- padded with 0, the differences term by term -/
theorem zip_psub : ∀ (xs ys : List Int) (m n : Nat), xs.length + m = max xs.length ys.length → ys.length + n = max xs.length ys.length → List.zipWith (fun x y => x - y) (xs ++ List.replicate m 0) (ys ++ List.replicate n 0) = psub xs ys
  | [], [], m, n, h1, h2 => by
    have e1 : m = 0 := by simpa using h1
    have e2 : n = 0 := by simpa using h2
    subst e1
    subst e2
    rfl
  | x :: xs, [], m, n, h1, h2 => by
    have e1 : m = 0 := by simp at h1; exact h1
    have e2 : n = (x :: xs).length := by simp at h2; simp; omega
    subst e1
    subst e2
    rw [List.replicate_zero, List.append_nil, List.nil_append]
    exact zip_nil_r (x :: xs)
  | [], y :: ys, m, n, h1, h2 => by
    have e2 : n = 0 := by simp at h2; exact h2
    have e1 : m = (y :: ys).length := by simp at h1; simp; omega
    subst e1
    subst e2
    rw [List.replicate_zero, List.append_nil, List.nil_append]
    exact zip_nil_l (y :: ys)
  | x :: xs, y :: ys, m, n, h1, h2 => by
    show _ = (x - y) :: psub xs ys
    rw [List.cons_append, List.cons_append, List.zipWith_cons_cons, zip_psub xs ys m n (by simp only [List.length_cons] at h1; omega) (by simp only [List.length_cons] at h2; omega)]
def dif (y : Sty) (ls ms : List Int) : List Int := trim (psub (hf y ls).reverse (hf y ms).reverse)
theorem psub_neg : ∀ xs ys : List Int, psub ys xs = (psub xs ys).map fun z => 0 - z
  | [], [] => rfl
  | x :: xs, [] => by
    show (0 - x) :: psub [] xs = (0 - (x - 0)) :: (psub xs []).map _
    rw [psub_neg xs [], show (0 : Int) - (x - 0) = 0 - x by omega]
  | [], y :: ys => by
    show (y - 0) :: psub ys [] = (0 - (0 - y)) :: (psub [] ys).map _
    rw [psub_neg [] ys, show (0 : Int) - (0 - y) = y - 0 by omega]
  | x :: xs, y :: ys => by
    show (y - x) :: psub ys xs = (0 - (x - y)) :: (psub xs ys).map _
    rw [psub_neg xs ys, show (0 : Int) - (x - y) = y - x by omega]
theorem drop_neg : ∀ xs : List Int, (xs.map fun z => 0 - z).dropWhile (fun x => x == 0) = (xs.dropWhile fun x => x == 0).map fun z => 0 - z
  | [] => rfl
  | x :: xs => by
    by_cases h : x = 0
    · subst h
      exact drop_neg xs
    · rw [List.map_cons, List.dropWhile_cons, List.dropWhile_cons, if_neg (by simp; omega), if_neg (by simp; omega)]
      rfl
theorem dif_swap (y : Sty) (ls ms : List Int) : dif y ms ls = (dif y ls ms).map fun z => 0 - z := by
  unfold dif trim
  rw [psub_neg, ← List.map_reverse, drop_neg, List.map_reverse]
/-- the value of coefficients, that of 1 first -/
def ev (xs : List Int) (b : Int) : Int := hv xs.reverse b
theorem ev_cons (x : Int) (xs : List Int) (b : Int) : ev (x :: xs) b = ev xs b * b + x := by
  unfold ev
  rw [List.reverse_cons, hv_app, hv1]
  show hv xs.reverse b * b ^ 1 + x = _
  rw [Int.pow_succ, Int.pow_zero, Int.one_mul]
theorem ev_nil (b : Int) : ev [] b = 0 := rfl
theorem ev_psub (b : Int) : ∀ xs ys : List Int, ev (psub xs ys) b = ev xs b - ev ys b
  | [], [] => by simp [psub, ev_nil]
  | x :: xs, [] => by
    show ev ((x - 0) :: psub xs []) b = _
    rw [ev_cons, ev_psub b xs [], ev_cons, ev_nil]
    grind
  | [], y :: ys => by
    show ev ((0 - y) :: psub [] ys) b = _
    rw [ev_cons, ev_psub b [] ys, ev_cons, ev_nil]
    grind
  | x :: xs, y :: ys => by
    show ev ((x - y) :: psub xs ys) b = _
    rw [ev_cons, ev_psub b xs ys, ev_cons, ev_cons]
    grind
theorem hv_zeros (b : Int) : ∀ xs : List Int, hv (xs.dropWhile fun x => x == 0) b = hv xs b
  | [] => rfl
  | x :: xs => by
    by_cases h : x = 0
    · subst h
      rw [hv_cons, Int.zero_mul, Int.zero_add, ← hv_zeros b xs]
      rfl
    · rw [List.dropWhile_cons, if_neg (by simpa using h)]
theorem ev_trim (xs : List Int) (b : Int) : ev (trim xs) b = ev xs b := by
  unfold ev trim
  rw [List.reverse_reverse, hv_zeros]
theorem ev_dif (y : Sty) (b : Int) (ls ms : List Int) : ev (dif y ls ms) b = hv (hf y ls) b - hv (hf y ms) b := by
  unfold dif
  rw [ev_trim, ev_psub]
  unfold ev
  rw [List.reverse_reverse, List.reverse_reverse]
theorem agree_dif (y : Sty) (r n : Int) (ls ms : List Int) : rAgree y (r % n) n ls ms = decide (ev (dif y ls ms) r % n = 0) := by
  unfold rAgree
  refine decide_eq_decide.mpr ?_
  rw [← mark_sum, ← mark_sum, ev_dif, Int.emod_eq_emod_iff_emod_sub_eq_zero]
def spTrimmed : Sp := fun vs H Q _ => ∃ (p : Addr) (cs : List Int), vs = [.ref p] ∧ H p = some (.lst (cs.map V.int)) ∧ cs.length ≤ 100000 ∧ ∀ l H', Same H H' → H' l = some (.lst ((trim cs).map V.int)) → Q (.ref l) H'
def spDiffOf (c : CA) : Sp := fun vs H Q _ => ∃ (t u k : Addr) (ls ms : List Int) (y : Sty), vs = [.ref t, .ref u, .ref k] ∧ H t = some (.tup (ls.map V.int)) ∧ H u = some (.tup (ms.map V.int)) ∧ MkAt c H k y.low y.shift y.lead ∧ ls.length ≤ 10000 ∧ ms.length ≤ 10000 ∧
  ∀ l H', Same H H' → H' l = some (.lst ((dif y ls ms).map V.int)) → Q (.ref l) H'
def spDiffX (K : PySem.W.Frag) (c : CA) (Ct Ck : Addr) : Sp := fun vs H Q E => ∃ v u m : V, vs = [v, u, m] ∧
  ((TextB K H v false ∧ ErrTo E Ct "thing" v H) ∨
   (∃ ls, TextAt H v ls ∧ TextB K H u false ∧ ErrTo E Ct "thing" u H) ∨
   (∃ ls ms t, TextAt H v ls ∧ TextAt H u ms ∧ m ≠ .non ∧ TyX K H m t ∧ PySem.W.kitOne K t (.ref c.kg) = some false ∧ ErrTo E Ck "name" .non H) ∨
   (∃ ls ms y, TextAt H v ls ∧ TextAt H u ms ∧ ls.length ≤ 10000 ∧ ms.length ≤ 10000 ∧ ((m = .non ∧ y = ⟨false, 0, false⟩) ∨ ∃ k, m = .ref k ∧ MkAt c H k y.low y.shift y.lead) ∧ ∀ t H', Same H H' → H' t = some (.tup ((dif y ls ms).map V.int)) → Q (.ref t) H'))
def spCaught2 (K : PySem.W.Frag) (c : CA) : Sp := fun vs H Q _ => ∃ v u m : V, vs = [v, u, m] ∧
  ((TextB K H v false ∧ ∀ l H', l ≠ sysModules → H l = none → Same H H' → H' l = some (.lst [.str "text", v]) → Q (.ref l) H') ∨
   (∃ ls, TextAt H v ls ∧ TextB K H u false ∧ ∀ l H', l ≠ sysModules → H l = none → Same H H' → H' l = some (.lst [.str "text", u]) → Q (.ref l) H') ∨
   (∃ ls ms t, TextAt H v ls ∧ TextAt H u ms ∧ m ≠ .non ∧ TyX K H m t ∧ PySem.W.kitOne K t (.ref c.kg) = some false ∧ ∀ l H', l ≠ sysModules → H l = none → Same H H' → H' l = some (.lst [.str "marking", .non]) → Q (.ref l) H'))
def spSums : Sp := fun vs H Q _ => ∃ (l g : Addr) (ls : List Int) (y : Sty), vs = [.ref l, .ref g] ∧ H l = some (.lst (ls.map V.int)) ∧ H g = some (.lst [.bl y.low, .int y.shift, .bl y.lead]) ∧ ls.length ≤ 1000 ∧ ∀ p H', Same H H' → H' p = some (.lst ((hf y ls).reverse.map V.int)) → Q (.ref p) H'
def spRow : Sp := fun vs H Q _ => ∃ (l m g : Addr) (ls ms : List Int) (y : Sty), vs = [.ref l, .ref m, .ref g] ∧ H l = some (.lst (ls.map V.int)) ∧ H m = some (.lst (ms.map V.int)) ∧ H g = some (.lst [.bl y.low, .int y.shift, .bl y.lead]) ∧ ls.length ≤ 1000 ∧ ms.length ≤ 1000 ∧
  ∀ p H', H p = none → Same H H' → H' p = some (.lst ((psub (hf y ls).reverse (hf y ms).reverse).map V.int)) → Q (.ref p) H'
def spValue : Sp := fun vs H Q _ => ∃ (l : Addr) (cs : List Int) (b : Int), vs = [.ref l, .int b] ∧ H l = some (.lst (cs.map V.int)) ∧ cs.length ≤ 1000 ∧ -(2 ^ 64) < b ∧ b < 2 ^ 64 ∧ ∀ H', Same H H' → Q (.int (ev cs b)) H'
def spDoors : Sp := fun vs H Q _ => ∃ (a : Addr) (v : V) (ls : List Int) (c : Int), vs = [.ref a, v] ∧ c < 2 ^ 47 ∧ Purse H a c ∧ TextAt (rm a H) v ls ∧ ∀ H', Same (rm a H) (rm a H') → Purse H' a (c + 10) → Q (.bl true) H'
structure NoM (K : PySem.W.Frag) (c : CA) : Prop where
  int : PySem.W.kitOne K (.type "int") (.ref c.kg) = some false
  bl : PySem.W.kitOne K (.type "bool") (.ref c.kg) = some false
  str : PySem.W.kitOne K (.type "str") (.ref c.kg) = some false
  tup : PySem.W.kitOne K (.type "tuple") (.ref c.kg) = some false
  dct : PySem.W.kitOne K (.type "dict") (.ref c.kg) = some false
section
variable {K : PySem.W.Frag} {te : TE} {vs : List Nat} {σ : L2.St} {H : Hp} {D a b : Addr} {Qd : Hp → Prop} {j1 j2 : Nat} {ta : TA} {R : It → Hp → Prop}
theorem w_iZip (q : ta σ H fun vs H1 => ∃ a b xs ys, vs = [.ref a, .ref b] ∧ SqL K H1 a xs ∧ SqL K H1 b ys ∧ R (Itz K a b) H1) : iZip K ta σ H R := q
theorem w_zipi {xs ys : List V} {P : Addr → Addr → Prop} (h1 : SqL K H a xs) (h2 : SqL K H b ys) (q : P a b) : ∃ c d xs ys, [V.ref a, V.ref b] = [.ref c, .ref d] ∧ SqL K H c xs ∧ SqL K H d ys ∧ P c d := ⟨a, b, xs, ys, rfl, h1, h2, q⟩
theorem lc_zip (xs ys : List Int) (f : Int → Int → Int) (hl : xs.length = ys.length) (hD : H D = none) (hG : ∀ H', Same H H' → SqL K H' a (xs.map V.int) ∧ SqL K H' b (ys.map V.int)) (sz : xs.length ≤ 100000)
    (wp : ∀ v u, wipe (((wipe σ vs).set j1 v).set j2 u) vs = wipe σ vs)
    (step : ∀ (x y : Int) (H' : Hp) (Q' : VK), Q' (.int (f x y)) H' → te (((wipe σ vs).set j1 (some (.int x))).set j2 (some (.int y))) H' Q')
    (q : ∀ H', Same H H' → H' D = some (.lst ((List.zipWith f xs ys).map V.int)) → Qd H') :
    ∃ W : Nat → Nat → Hp → Prop, (∃ m, W 0 m (upd H D (.lst []))) ∧ ∀ i m H, W i m H →
      ((Itz K a b).stop i H ∧ Qd H) ∨ ((Itz K a b).go i H ∧ ∃ Nx : Hp → Prop, (∀ H', Nx H' → ∃ m', m' < m ∧ W (i + 1) m' H') ∧ ∀ x H', (Itz K a b).yld i H x H' → gTup K 2 (gCons (gName j1) (gCons (gName j2) gNil)) x (wipe σ vs) H' fun σ2 H2 => wipe σ2 vs = wipe σ vs ∧ tYes σ2 H2 fun b H3 =>
        if b = true then te σ2 H3 fun y H4 => ∃ acc, H4 D = some (.lst acc) ∧ acc.length < sizeLine ∧ Nx (upd H4 D (.lst (acc ++ [y]))) else Nx H3) := by
  refine lc_it (walk_zip (xs := xs.map V.int) (ys := ys.map V.int) (n := xs.length) (by rw [List.length_map, List.length_map]; omega)) (fun i H' => H' D = some (.lst ((List.zipWith f (xs.take i) (ys.take i)).map V.int)) ∧ Same H H') ⟨upd_same, Same.new hD⟩ (fun i H' _ h => hG H' h.2) ?_ ?_
  · rintro i x H1 H2 hi ⟨h1, h2⟩ ⟨T, x1, y1, rfl, nT, rfl, e1, e2⟩
    obtain ⟨x, hx, rfl⟩ := get_map e1
    obtain ⟨y, hy, rfl⟩ := get_map e2
    have nDT : D ≠ T := fun e => by rw [e, nT] at h1; cases h1
    refine w_gtup (sqt upd_same) rfl (w_gcons (w_name (w_gcons (w_name (w_gnil ⟨wp _ _, w_yes ?_⟩)))))
    refine iteT (step x y _ _ ?_)
    have hi2 : i < ys.length := by omega
    have ex : xs[i] = x := by rw [List.getElem?_eq_getElem hi] at hx; exact Option.some.inj hx
    have ey : ys[i] = y := by rw [List.getElem?_eq_getElem hi2] at hy; exact Option.some.inj hy
    refine ⟨_, (by rw [upd_ne nDT]; exact h1), ?_, ?_, ?_⟩
    · rw [List.length_map, List.length_zipWith, List.length_take, List.length_take]
      have : (100000 : Nat) < sizeLine := by decide
      omega
    · rw [upd_same, List.take_succ_eq_append_getElem hi, List.take_succ_eq_append_getElem hi2, ex, ey, List.zipWith_append (by rw [List.length_take, List.length_take]; omega), List.map_append]
      rfl
    · exact same_app' hD (h2.trans (Same.new nT))
  · rintro H' ⟨h1, h2⟩
    rw [List.take_length, show ys.take xs.length = ys by rw [hl, List.take_length]] at h1
    exact q H' h2 h1
end
theorem rep0 (n : Nat) : (List.replicate n [V.int 0]).flatten = (List.replicate n (0 : Int)).map V.int := by
  induction n with
  | zero => rfl
  | succ n ih => rw [List.replicate_succ, List.flatten_cons, ih, List.replicate_succ, List.map_cons]; rfl
theorem hf_len (y : Sty) (ls : List Int) : (hf y ls).length = ls.length + 1 := by
  unfold hf
  rw [List.length_cons]
  split <;> simp
theorem hf_rev (y : Sty) (ls : List Int) : (hf y ls).reverse = (if y.low = true then ls.map (· + y.shift) else (ls.map (· + y.shift)).reverse) ++ [if y.lead = true then 1 else 0] := by
  unfold hf
  rw [List.reverse_cons]
  split <;> simp
theorem pad_zip (xs ys : List Int) (m n : Nat) (h : (xs ++ List.replicate m 0).length = (ys ++ List.replicate n 0).length) (h1 : m = 0 ∨ (xs ++ List.replicate m 0).length ≤ ys.length) (h2 : n = 0 ∨ (ys ++ List.replicate n 0).length ≤ xs.length) : List.zipWith (fun x y => x - y) (xs ++ List.replicate m 0) (ys ++ List.replicate n 0) = psub xs ys := by
  simp only [List.length_append, List.length_replicate] at h h1 h2
  refine zip_psub xs ys m n ?_ ?_ <;> omega
theorem snoc0 (xs : List Int) (n : Nat) : (xs ++ List.replicate n (0 : Int)).map V.int ++ [V.int 0] = (xs ++ List.replicate (n + 1) (0 : Int)).map V.int := by
  rw [List.replicate_succ', ← List.append_assoc, List.map_append (l₁ := xs ++ List.replicate n 0)]
  rfl
theorem at_lastz (ds : List Int) (z : Int) : atI ((ds ++ [z]).map V.int) (-1) = some (.int z) := by
  unfold atI ixN
  rw [if_neg (by decide), List.length_map, List.length_append, List.length_cons, List.length_nil, if_pos (by omega), show (-1 + ((ds.length + (0 + 1) : Nat) : Int)).toNat = ds.length by omega]
  show ((ds ++ [z]).map V.int)[ds.length]? = _
  rw [List.getElem?_map, List.getElem?_append_right (Nat.le_refl _), Nat.sub_self]
  rfl
theorem cut_lastz (ds : List Int) (z : Int) : cutV ((ds ++ [z]).map V.int) none (some (-1)) = ds.map V.int := by
  unfold cutV
  rw [HT.sIx_none, List.drop_zero, Nat.sub_zero, List.length_map, List.length_append]
  have e : HT.sIx (ds.length + [z].length) (ds.length + [z].length) (some (-1)) = ds.length := by
    show (if (-1 : Int) < 0 then (-1 + ((ds.length + [z].length : Nat) : Int)).toNat else min (-1 : Int).toNat (ds.length + [z].length)) = ds.length
    rw [if_pos (by decide), List.length_cons, List.length_nil]
    omega
  rw [e, List.map_append, List.take_left' (by rw [List.length_map])]
theorem given_eq {a b : Bool} {i : Int} (h : PyData.eqv (.list [.bool a, .int i, .bool b]) (.list [.bool false, .int 0, .bool false]) = true) : a = false ∧ i = 0 ∧ b = false := by
  cases a <;> cases b <;> simp [PyData.eqv, PyData.eqvAll] at h ⊢
  exact h
def perm3P {α : Type} (us _ws ws : List α) : List α := us ++ (match ws with | [o, t, m] => [t, o, m] | z => z)
abbrev perm3 (vs zs : List V) : List V := perm3P vs [V.non] zs
theorem perm3_vals {vs ds zs : List V} {us its ws : List Value} (r1 : Vals vs us) (_r : Vals ds its) (r2 : Vals zs ws) : Vals (perm3P vs ds zs) (perm3P us its ws) := by
  unfold perm3P
  refine r1.append ?_
  cases r2 with
  | nil => exact .nil
  | cons a t =>
    cases t with
    | nil => exact .cons a .nil
    | cons b t =>
      cases t with
      | nil => exact .cons a (.cons b .nil)
      | cons c t =>
        cases t with
        | nil => exact .cons b (.cons a (.cons c .nil))
        | cons d t => exact .cons a (.cons b (.cons c (.cons d t)))
theorem cut_ex2 (ls : List Int) (lo hi : Option Int) : ∃ ms : List Int, cutV (ls.map V.int) lo hi = ms.map V.int ∧ ms.length ≤ ls.length := by
  unfold cutV
  refine ⟨(ls.drop _).take _, by rw [List.map_take, List.map_drop], ?_⟩
  rw [List.length_take, List.length_drop]
  omega

end Bc
namespace Bc
open PySem PySem.Spec PyProof.Rows L2
/-! ### sums of falling products -/
def nestT : Int → List Int → Int → Int → Int
  | _, [], _, t => t
  | k, c :: cs, x, t => c + (x - k) * nestT (k + 1) cs x t
def nest (k : Int) (cs : List Int) (x : Int) : Int := nestT k cs x 0
theorem nestT_snoc (x r t : Int) : ∀ (k : Int) (cs : List Int), nestT k (cs ++ [r]) x t = nestT k cs x (r + (x - (k + cs.length)) * t)
  | k, [] => by
    show r + (x - k) * t = r + (x - (k + ((0 : Nat) : Int))) * t
    rw [Int.natCast_zero, Int.add_zero]
  | k, c :: cs => by
    show c + (x - k) * nestT (k + 1) (cs ++ [r]) x t = c + (x - k) * nestT (k + 1) cs x _
    rw [nestT_snoc x r t (k + 1) cs, List.length_cons, show k + 1 + (cs.length : Int) = k + ((cs.length + 1 : Nat) : Int) by omega]
theorem nest_zero (k x : Int) (cs : List Int) : nest k (cs ++ [0]) x = nest k cs x := by
  unfold nest
  rw [nestT_snoc, Int.mul_zero, Int.add_zero]
theorem nest_trim (k x : Int) : ∀ (m : Nat) (cs : List Int), cs.length = m → nest k (trim cs) x = nest k cs x
  | 0, cs, h => by
    have e : cs = [] := List.length_eq_zero_iff.mp h
    subst e
    rfl
  | m + 1, cs, h => by
    rcases List.eq_nil_or_concat cs with e | ⟨ds, z, e⟩
    · subst e
      rfl
    · rw [List.concat_eq_append] at e
      subst e
      by_cases hz : z = 0
      · subst hz
        rw [trim_zero, nest_zero]
        exact nest_trim k x m ds (by simpa using h)
      · rw [trim_snoc ds hz]
def fac : Nat → Int
  | 0 => 1
  | n + 1 => fac n * ((n + 1 : Nat) : Int)
def ff (x : Nat) : Nat → Int
  | 0 => 1
  | i + 1 => ff x i * ((x : Int) - i)
theorem ff_zero : ∀ (x i : Nat), x < i → ff x i = 0
  | x, 0, h => by omega
  | x, i + 1, h => by
    show ff x i * ((x : Int) - i) = 0
    by_cases e : x = i
    · subst e
      rw [Int.sub_self, Int.mul_zero]
    · rw [ff_zero x i (by omega), Int.zero_mul]
theorem ff_up (x : Nat) : ∀ i : Nat, ff (x + 1) (i + 1) = ff x (i + 1) + ((i + 1 : Nat) : Int) * ff x i
  | 0 => by
    show 1 * (((x + 1 : Nat) : Int) - ((0 : Nat) : Int)) = 1 * ((x : Int) - ((0 : Nat) : Int)) + ((0 + 1 : Nat) : Int) * 1
    omega
  | i + 1 => by
    have ih := ff_up x i
    show ff (x + 1) (i + 1) * (((x + 1 : Nat) : Int) - ((i + 1 : Nat) : Int)) = ff x (i + 1) * ((x : Int) - ((i + 1 : Nat) : Int)) + ((i + 1 + 1 : Nat) : Int) * ff x (i + 1)
    rw [ih]
    have e : ff x (i + 1) = ff x i * ((x : Int) - i) := rfl
    rw [e]
    generalize ff x i = f
    rw [show ((x + 1 : Nat) : Int) = (x : Int) + 1 by omega, show ((i + 1 : Nat) : Int) = (i : Int) + 1 by omega, show ((i + 1 + 1 : Nat) : Int) = (i : Int) + 2 by omega]
    generalize (x : Int) = a
    generalize (i : Int) = b
    grind
theorem fac_dvd : ∀ (x i : Nat), fac i ∣ ff x i
  | _, 0 => ⟨1, by show (1 : Int) = 1 * 1; omega⟩
  | 0, i + 1 => by rw [ff_zero 0 (i + 1) (by omega)]; exact Int.dvd_zero _
  | x + 1, i + 1 => by
    rw [ff_up]
    refine Int.dvd_add (fac_dvd x (i + 1)) ?_
    obtain ⟨t, ht⟩ := fac_dvd x i
    refine ⟨t, ?_⟩
    rw [ht]
    show _ = fac i * ((i + 1 : Nat) : Int) * t
    generalize ((i + 1 : Nat) : Int) = a
    generalize fac i = b
    grind
theorem ff_self : ∀ j : Nat, ff j j = fac j
  | 0 => rfl
  | j + 1 => by
    rw [ff_up, ff_zero j (j + 1) (by omega), ff_self j, Int.zero_add, Int.mul_comm]
    rfl
/-- the sum from the i-th on -/
theorem nest_low {n : Int} {x j : Nat} (hx : x < j) : ∀ (cs : List Int) (i : Nat), (∀ m c, cs[m]? = some c → i + m < j → n ∣ c * fac (i + m)) → n ∣ ff x i * nest i cs x
  | [], i, _ => by
    show n ∣ ff x i * 0
    rw [Int.mul_zero]
    exact Int.dvd_zero _
  | c :: cs, i, h => by
    have ih := nest_low hx cs (i + 1) fun m d hd hm => by
      have := h (m + 1) d (by simpa using hd) (by omega)
      rwa [show i + (m + 1) = i + 1 + m by omega] at this
    have e : ff x i * nest i (c :: cs) x = c * ff x i + ff x (i + 1) * nest ((i + 1 : Nat) : Int) cs x := by
      show ff x i * (c + ((x : Int) - i) * nestT ((i : Int) + 1) cs x 0) = c * ff x i + ff x i * ((x : Int) - i) * nestT _ cs x 0
      rw [show ((i + 1 : Nat) : Int) = (i : Int) + 1 by omega]
      generalize nestT ((i : Int) + 1) cs x 0 = z
      generalize ff x i = f
      grind
    rw [e]
    refine Int.dvd_add ?_ ih
    by_cases hi : i < j
    · obtain ⟨t, ht⟩ := fac_dvd x i
      have := h 0 c rfl (by omega)
      rw [Nat.add_zero] at this
      rw [ht, ← Int.mul_assoc]
      exact Int.dvd_mul_of_dvd_left this
    · rw [ff_zero x i (by omega), Int.mul_zero]
      exact Int.dvd_zero _
theorem nest_high {x : Nat} : ∀ (cs : List Int) (i : Nat), x < i → ff x i * nest i cs x = 0 := fun cs i h => by rw [ff_zero x i h, Int.zero_mul]
theorem nest_at {n : Int} {j : Nat} : ∀ (cs : List Int) (i : Nat) (d : Int), i ≤ j → cs[j - i]? = some d → (∀ m c, cs[m]? = some c → i + m < j → n ∣ c * fac (i + m)) → n ∣ ff j i * nest i cs j - d * fac j
  | [], i, d, _, hd, _ => by simp at hd
  | c :: cs, i, d, hi, hd, h => by
    have e : ff j i * nest i (c :: cs) j = c * ff j i + ff j (i + 1) * nest ((i + 1 : Nat) : Int) cs j := by
      show ff j i * (c + ((j : Int) - i) * nestT ((i : Int) + 1) cs j 0) = c * ff j i + ff j i * ((j : Int) - i) * nestT _ cs j 0
      rw [show ((i + 1 : Nat) : Int) = (i : Int) + 1 by omega]
      generalize nestT ((i : Int) + 1) cs j 0 = z
      generalize ff j i = f
      grind
    rw [e]
    by_cases hij : i = j
    · subst hij
      rw [Nat.sub_self] at hd
      have hd : c = d := by simpa using hd
      subst hd
      rw [nest_high (x := i) cs (i + 1) (by omega), ff_self, Int.add_zero, Int.sub_self]
      exact Int.dvd_zero _
    · have ih := nest_at (n := n) (j := j) cs (i + 1) d (by omega) (by
        rw [show j - i = j - (i + 1) + 1 by omega] at hd
        simpa using hd) fun m d hd hm => by
        have := h (m + 1) d (by simpa using hd) (by omega)
        rwa [show i + (m + 1) = i + 1 + m by omega] at this
      rw [Int.add_sub_assoc]
      refine Int.dvd_add ?_ ih
      obtain ⟨t, ht⟩ := fac_dvd j i
      have := h 0 c rfl (by omega)
      rw [Nat.add_zero] at this
      rw [ht, ← Int.mul_assoc]
      exact Int.dvd_mul_of_dvd_left this
/-- the least integer from 0 on whose value n does not divide -/
def Least (n : Int) (F : Int → Int) : Option Nat → Prop
  | none => ∀ x : Nat, n ∣ F x
  | some j => ¬ n ∣ F j ∧ ∀ x : Nat, x < j → n ∣ F x
theorem Least.uniq {n : Int} {F : Int → Int} : ∀ {r r' : Option Nat}, Least n F r → Least n F r' → r = r'
  | none, none, _, _ => rfl
  | none, some j, h, h' => absurd (h j) h'.1
  | some j, none, h, h' => absurd (h' j) h.1
  | some j, some j', h, h' => by
    have a1 : ¬ j < j' := fun z => h.1 (h'.2 j z)
    have a2 : ¬ j' < j := fun z => h'.1 (h.2 j' z)
    rw [show j = j' by omega]
theorem Least.congr {n : Int} {F F' : Int → Int} (e : ∀ x : Nat, n ∣ F x ↔ n ∣ F' x) : ∀ {r : Option Nat}, Least n F r → Least n F' r
  | none, h => fun x => (e x).mp (h x)
  | some j, h => ⟨fun z => h.1 ((e j).mpr z), fun x hx => (e x).mp (h.2 x hx)⟩
/-- the first term of which n does not divide the product -/
def Bad (n : Int) (cs : List Int) : Option Nat → Prop
  | none => ∀ j c, cs[j]? = some c → n ∣ c * fac j
  | some j => (∃ c, cs[j]? = some c ∧ ¬ n ∣ c * fac j) ∧ ∀ i c, i < j → cs[i]? = some c → n ∣ c * fac i
theorem Bad.least {n : Int} {cs : List Int} : ∀ {r : Option Nat}, Bad n cs r → Least n (nest 0 cs) r
  | none, h => fun x => by
    have := nest_low (n := n) (x := x) (j := x + cs.length + 1) (by omega) cs 0 fun m c hc _ => by rw [Nat.zero_add]; exact h m c hc
    rwa [show ff x 0 = 1 from rfl, Int.one_mul] at this
  | some j, h => by
    obtain ⟨⟨d, hd, hn⟩, hl⟩ := h
    refine ⟨fun z => hn ?_, fun x hx => ?_⟩
    · have := nest_at (n := n) (j := j) cs 0 d (Nat.zero_le _) hd fun m c hc hm => by rw [Nat.zero_add] at hm ⊢; exact hl m c hm hc
      rw [show ff j 0 = 1 from rfl, Int.one_mul] at this
      have h2 := Int.dvd_sub z this
      rwa [show nest 0 cs j - (nest ((0 : Nat) : Int) cs j - d * fac j) = d * fac j by show nest 0 cs j - (nest 0 cs j - d * fac j) = _; omega] at h2
    · have := nest_low (n := n) hx cs 0 fun m c hc hm => by rw [Nat.zero_add] at hm ⊢; exact hl m c hm hc
      rwa [show ff x 0 = 1 from rfl, Int.one_mul] at this
theorem fac_small : ∀ i : Nat, i ≤ 100 → (fac i).natAbs < 2 ^ (7 * i + 1)
  | 0, _ => by decide
  | i + 1, h => by
    have ih := fac_small i (by omega)
    show (fac i * ((i + 1 : Nat) : Int)).natAbs < _
    rw [Int.natAbs_mul, Int.natAbs_natCast]
    calc (fac i).natAbs * (i + 1) ≤ (fac i).natAbs * 2 ^ 7 := Nat.mul_le_mul_left _ (by show i + 1 ≤ 128; omega)
      _ < 2 ^ (7 * i + 1) * 2 ^ 7 := Nat.mul_lt_mul_of_pos_right ih (by decide)
      _ = 2 ^ (7 * (i + 1) + 1) := by rw [← Nat.pow_add, show 7 * i + 1 + 7 = 7 * (i + 1) + 1 by omega]
def optN : Option Nat → V
  | none => .non
  | some j => .int (j : Int)
theorem trim_mem {xs : List Int} {z : Int} (h : z ∈ trim xs) : z ∈ xs := by
  unfold trim at h
  rw [List.mem_reverse] at h
  exact List.mem_reverse.mp ((List.dropWhile_sublist _).mem h)
theorem trim_len (xs : List Int) : (trim xs).length ≤ xs.length := by
  unfold trim
  rw [List.length_reverse]
  have := (List.dropWhile_sublist (l := xs.reverse) fun x => x == 0).length_le
  rwa [List.length_reverse] at this
theorem psub_mem : ∀ {xs ys : List Int} {z : Int}, z ∈ psub xs ys → ∃ x y, (x ∈ xs ∨ x = 0) ∧ (y ∈ ys ∨ y = 0) ∧ z = x - y
  | [], ys, z, h => by
    obtain ⟨y, hy, e⟩ := List.mem_map.mp (show z ∈ ys.map fun y => 0 - y from h)
    exact ⟨0, y, .inr rfl, .inl hy, e.symm⟩
  | x :: xs, ys, z, h => by
    rcases List.mem_cons.mp (show z ∈ (x - ys.headD 0) :: psub xs ys.tail from h) with e | h
    · refine ⟨x, ys.headD 0, .inl (List.mem_cons_self ..), ?_, e⟩
      cases ys with
      | nil => exact .inr rfl
      | cons y ys => exact .inl (List.mem_cons_self ..)
    · obtain ⟨x', y', h1, h2, e⟩ := psub_mem h
      exact ⟨x', y', h1.imp (List.mem_cons_of_mem _) id, h2.imp List.mem_of_mem_tail id, e⟩
theorem hf_mem {ls : List Int} {z : Int} (h : z ∈ hf ⟨false, 0, false⟩ ls) : z ∈ ls ∨ z = 0 := by
  unfold hf at h
  simp at h
  rcases h with h | h
  · exact .inr h
  · exact .inl h
theorem hf_val (ls : List Int) (x : Int) : hv (hf ⟨false, 0, false⟩ ls) x = hv ls x := by
  unfold hf
  simp only [Bool.false_eq_true, if_false]
  rw [hv_cons, Int.zero_mul, Int.zero_add]
  congr 1
  simp
theorem hv_rep (x : Int) : ∀ n : Nat, hv (List.replicate n 0) x = 0
  | 0 => rfl
  | n + 1 => by rw [List.replicate_succ, hv_cons, hv_rep x n, Int.zero_mul, Int.zero_add]
theorem dif_bound {ls ms : List Int} {b : Nat} (h1 : ∀ z ∈ ls, z.natAbs < 2 ^ b) (h2 : ∀ z ∈ ms, z.natAbs < 2 ^ b) : ∀ z ∈ dif ⟨false, 0, false⟩ ls ms, z.natAbs < 2 ^ (b + 1) := fun z hz => by
  obtain ⟨x, y, hx, hy, rfl⟩ := psub_mem (trim_mem hz)
  have p : 0 < 2 ^ b := Nat.two_pow_pos b
  have f : ∀ {w : Int} {ls : List Int}, (∀ z ∈ ls, z.natAbs < 2 ^ b) → (w ∈ (hf ⟨false, 0, false⟩ ls).reverse ∨ w = 0) → w.natAbs < 2 ^ b := fun {w ls} h e => by
    rcases e with e | e
    · rcases hf_mem (List.mem_reverse.mp e) with e | e
      · exact h w e
      · rw [e]; exact p
    · rw [e]; exact p
  have a1 := f h1 hx
  have a2 := f h2 hy
  rw [Nat.pow_succ]
  omega
/-! #### promises -/
def Sml (b : Nat) (cs : List Int) : Prop := ∀ z ∈ cs, z.natAbs < 2 ^ b
def spFalling : Sp := fun vs H Q _ => ∃ (p : Addr) (cs : List Int) (b : Nat), vs = [.ref p] ∧ H p = some (.lst (cs.map V.int)) ∧ cs.length ≤ 60 ∧ b ≤ 2000 ∧ Sml b cs ∧
  ∀ l (fs : List Int) H', Same H H' → H' l = some (.lst (fs.map V.int)) → fs.length ≤ 60 → Sml 40000 fs → (∀ x : Int, ev cs x = nest 0 fs x) → Q (.ref l) H'
def spPartOf : Sp := fun vs H Q _ => ∃ (p : Addr) (cs : List Int) (b : Nat) (n : Int), vs = [.ref p, .int n] ∧ H p = some (.lst (cs.map V.int)) ∧ cs.length ≤ 60 ∧ b ≤ 2000 ∧ Sml b cs ∧ 0 < n ∧
  ∀ r H', Same H H' → Least n (ev cs) r → Q (optN r) H'
def spPartBase (c : CA) : Sp := fun vs H Q _ => ∃ (v u : V) (m : Addr) (ls ms : List Int) (ps : List (Int × Int)), vs = [v, u, .ref m, .non] ∧ TextAt H v ls ∧ TextAt H u ms ∧ ModAt c H m ps ∧ ls.length ≤ 50 ∧ ms.length ≤ 50 ∧ Sml 1900 ls ∧ Sml 1900 ms ∧
  ∀ r H', Same H H' → Least (num ps) (fun x => hv ls x - hv ms x) r → Q (optN r) H'
def spAlways (c : CA) : Sp := fun vs H Q _ => ∃ (v u : V) (m : Addr) (ls ms : List Int) (ps : List (Int × Int)), vs = [v, u, .ref m, .non] ∧ TextAt H v ls ∧ TextAt H u ms ∧ ModAt c H m ps ∧ ls.length ≤ 50 ∧ ms.length ≤ 50 ∧ Sml 1900 ls ∧ Sml 1900 ms ∧
  ∀ r H', Same H H' → Least (num ps) (fun x => hv ls x - hv ms x) r → Q (.bl (r.isNone)) H'
theorem sml_step {b i : Nat} {k : Nat} {c h : Int} (hk : k ≤ 64) (hc : c.natAbs < 2 ^ (b + 7 * i)) (hh : h.natAbs < 2 ^ b) : (c * (k : Int) + h).natAbs < 2 ^ (b + 7 * (i + 1)) := by
  have e1 : (c * (k : Int) + h).natAbs ≤ c.natAbs * k + h.natAbs := by
    have := Int.natAbs_add_le (c * (k : Int)) h
    rwa [Int.natAbs_mul, Int.natAbs_natCast] at this
  have e2 : c.natAbs * k ≤ c.natAbs * 64 := Nat.mul_le_mul_left _ hk
  have e3 : 2 ^ b ≤ 2 ^ (b + 7 * i) := Nat.pow_le_pow_right (by decide) (by omega)
  rw [show b + 7 * (i + 1) = b + 7 * i + 7 by omega, Nat.pow_add]
  show _ < 2 ^ (b + 7 * i) * 128
  omega
theorem w_pop {l : Addr} {xs : List V} {y : V} {H : Hp} {Q : VK} (h : H l = some (.lst (xs ++ [y]))) (q : Q y (upd H l (.lst xs))) : rPop (.ref l) [] H Q := by
  refine ⟨l, xs ++ [y], y, rfl, rfl, h, ?_, by rw [List.dropLast_concat]; exact q⟩
  rw [List.length_append, List.length_cons, List.length_nil, show xs.length + (0 + 1) - 1 = xs.length by omega, List.getElem?_append_right (Nat.le_refl _), Nat.sub_self]
  rfl
theorem psub_nil : ∀ xs : List Int, psub xs [] = xs
  | [] => rfl
  | x :: xs => by
    show (x - 0) :: psub xs [] = x :: xs
    rw [psub_nil xs, Int.sub_zero]
theorem psub_set : ∀ (xs ys : List Int) (z w : Int), xs[ys.length]? = some w → (psub xs ys)[ys.length]? = some w ∧ (psub xs ys).set ys.length (w - z) = psub xs (ys ++ [z])
  | [], ys, z, w, h => by simp at h
  | x :: xs, [], z, w, h => by
    have e : x = w := by simpa using h
    subst e
    refine ⟨?_, ?_⟩
    · show some (x - 0) = some x
      rw [Int.sub_zero]
    · show (x - z) :: psub xs [] = (x - z) :: psub xs []
      rfl
  | x :: xs, y :: ys, z, w, h => by
    have ih := psub_set xs ys z w (by simpa using h)
    refine ⟨?_, ?_⟩
    · show ((x - y) :: psub xs ys)[ys.length + 1]? = some w
      simpa using ih.1
    · show ((x - y) :: psub xs ys).set (ys.length + 1) (w - z) = (x - y) :: psub xs (ys ++ [z])
      rw [List.set_cons_succ, ih.2]
theorem ev_scale (s b : Int) : ∀ xs : List Int, ev (xs.map fun x => s * x) b = s * ev xs b
  | [] => by simp [ev_nil]
  | x :: xs => by
    rw [List.map_cons, ev_cons, ev_cons, ev_scale s b xs]
    grind
theorem ev_set0 (x z b : Int) (xs : List Int) : ev ((x + z) :: xs) b = ev (x :: xs) b + z := by
  rw [ev_cons, ev_cons]
  omega
theorem nest_drop {fs : List Int} {s : Nat} {c x : Int} (h : fs[s]? = some c) : nest s (fs.drop s) x = c + (x - s) * nest ((s + 1 : Nat) : Int) (fs.drop (s + 1)) x := by
  obtain ⟨hs, e⟩ := List.getElem?_eq_some_iff.mp h
  rw [List.drop_eq_getElem_cons hs, e]
  show c + (x - s) * nestT ((s : Int) + 1) _ x 0 = _
  rw [show ((s + 1 : Nat) : Int) = (s : Int) + 1 by omega]
  rfl
theorem w_iRng3 {as : TA} {σ : L2.St} {H : Hp} {R : It → Hp → Prop} (q : as σ H fun vs H1 => ∃ (i j c : Int) (n : Nat), vs = [.int i, .int j, .int c] ∧ RgC i j c n ∧ R (Itc i c n) H1) : iRng3 as σ H R := q
def spSome7 : Sp := fun vs H Q _ => ∃ (a : Addr) (c : Int), vs = [.ref a] ∧ c < 2 ^ 48 ∧ Purse H a c ∧
  ∀ (l : Addr) (H' : Hp) (ps : List (Int × Int)), Same (rm a H) (rm a H') → Purse H' a (c + 1) → PrL (rm a H') l ps → Asc 0 ps → Small ps → (num ps).natAbs < 2 ^ 700 → ps ≠ [] → Q (.ref l) H'
def spFalls : Sp := fun vs H Q _ => ∃ (a : Addr) (n fg mo c : Int), vs = [.ref a, .int n, .int fg, .int mo] ∧ 0 < n ∧ n.natAbs < 2 ^ 700 ∧ 0 ≤ fg ∧ fg ≤ 15 ∧ 1 ≤ mo ∧ mo ≤ 39 ∧ c < 2 ^ 47 ∧ Purse H a c ∧
  ∀ (l : Addr) (fs : List Int) (H' : Hp), Same (rm a H) (rm a H') → Purse H' a (c + 1000) → rm a H' l = some (.lst (fs.map V.int)) → 1 ≤ fs.length → fs.length ≤ 39 → Sml 800 fs → Q (.ref l) H'
def spSpread : Sp := fun vs H Q _ => ∃ (l : Addr) (fs : List Int), vs = [.ref l] ∧ H l = some (.lst (fs.map V.int)) ∧ fs.length ≤ 60 ∧
  ∀ (p : Addr) (rs : List Int) (H' : Hp), H p = none → Same H H' → H' p = some (.lst (rs.map V.int)) → rs.length = fs.length + 1 → (∀ x : Int, ev rs x = nest 0 fs x) → Q (.ref p) H'
def spValAt : Sp := fun vs H Q _ => ∃ (l : Addr) (cs : List Int) (b n : Int), vs = [.ref l, .int b, .int n] ∧ H l = some (.lst (cs.map V.int)) ∧ cs.length ≤ 1000 ∧ -(2 ^ 64) < b ∧ b < 2 ^ 64 ∧ 0 < n ∧ ∀ H', Same H H' → Q (.int (ev cs b % n)) H'
def spBent : Sp := fun vs H Q _ => ∃ (a l lp : Addr) (n c : Int) (fs : List Int) (ps : List (Int × Int)), vs = [.ref a, .ref l, .ref lp, .int n] ∧ rm a H l = some (.lst (fs.map V.int)) ∧ 1 ≤ fs.length ∧ fs.length ≤ 39 ∧ Sml 800 fs ∧ PrL (rm a H) lp ps ∧ Small ps ∧ ps ≠ [] ∧ 0 < n ∧ n.natAbs < 2 ^ 700 ∧ c < 2 ^ 47 ∧ Purse H a c ∧
  ∀ (l' : Addr) (fs' : List Int) (H' : Hp), Same (rm a H) (rm a H') → Purse H' a (c + 3) → rm a H' l' = some (.lst (fs'.map V.int)) → fs'.length = fs.length → Sml 801 fs' → Q (.ref l') H'
theorem ev_rest (n b : Int) : ∀ rs : List Int, n ∣ ev (rs.map fun x => x % n) b - ev rs b
  | [] => by simp [ev_nil]
  | r :: rs => by
    obtain ⟨t, ht⟩ := ev_rest n b rs
    rw [List.map_cons, ev_cons, ev_cons]
    refine ⟨t * b - r / n, ?_⟩
    have e := Int.emod_add_mul_ediv r n
    generalize ev (rs.map fun x => x % n) b = u at ht ⊢
    generalize ev rs b = v at ht ⊢
    generalize r / n = w at e ⊢
    generalize r % n = z at e ⊢
    grind
theorem scal_optN (r r' : Option Nat) : scal (optN r) (optN r') = true := by cases r <;> cases r' <;> rfl
def BadI (n : Int) (fs : List Int) (i : Nat) : Option Nat → Prop
  | none => ∀ m c, m < i → fs[m]? = some c → n ∣ c * fac m
  | some j => (∃ c, fs[j]? = some c ∧ ¬ n ∣ c * fac j) ∧ ∀ m c, m < j → fs[m]? = some c → n ∣ c * fac m
theorem BadI.bad {n : Int} {fs : List Int} : ∀ {r : Option Nat}, BadI n fs fs.length r → Bad n fs r
  | none, h => fun j c hc => h j c (List.getElem?_eq_some_iff.mp hc).1 hc
  | some _, h => h
theorem fac_step (i : Nat) : fac (i - 1) * (if (i : Int) > 1 then (i : Int) else 1) = fac i := by
  match i with
  | 0 => rfl
  | 1 => rfl
  | i + 2 =>
    rw [if_pos (by omega)]
    rfl
theorem bad_lt {n : Int} {fs : List Int} {j : Nat} (h : Bad n fs (some j)) : j < fs.length := by
  obtain ⟨⟨c, hc, _⟩, _⟩ := h
  exact (List.getElem?_eq_some_iff.mp hc).1
theorem isN_optN (r : Option Nat) : decide (optN r = .non) = r.isNone := by cases r <;> rfl

end Bc
namespace Bc
open PySem PySem.Spec PyProof.Rows L2
/-! ### the least base that parts, found by going through all -/
def Lst (n : Int) (F : Int → Int) (k N : Nat) : Option Nat → Prop
  | none => ∀ x : Nat, k ≤ x → x < N → n ∣ F x
  | some j => (k ≤ j ∧ j < N) ∧ ¬ n ∣ F j ∧ ∀ x : Nat, k ≤ x → x < j → n ∣ F x
theorem Lst.hit {n : Int} {F : Int → Int} {k N : Nat} (hk : k < N) (h : ¬ n ∣ F k) : Lst n F k N (some k) := ⟨⟨Nat.le_refl _, hk⟩, h, fun x h1 h2 => by omega⟩
theorem Lst.miss {n : Int} {F : Int → Int} {k N : Nat} (h : n ∣ F k) : ∀ {r : Option Nat}, Lst n F (k + 1) N r → Lst n F k N r
  | none, l => fun x h1 h2 => by
    by_cases e : x = k
    · rw [e]; exact h
    · exact l x (by omega) h2
  | some j, l => ⟨⟨by have := l.1.1; omega, l.1.2⟩, l.2.1, fun x h1 h2 => by
    by_cases e : x = k
    · rw [e]; exact h
    · exact l.2.2 x (by omega) h2⟩
theorem Lst.least {n : Int} {F : Int → Int} {N : Nat} (hN : 0 < N) (hp : ∀ x : Nat, n ∣ F x ↔ n ∣ F ((x % N : Nat) : Int)) : ∀ {r : Option Nat}, Lst n F 0 N r → Least n F r
  | none, l => fun x => (hp x).mpr (l (x % N) (Nat.zero_le _) (Nat.mod_lt _ hN))
  | some j, l => ⟨l.2.1, fun x hx => l.2.2 x (Nat.zero_le _) hx⟩
theorem hv_per {n : Int} {N : Nat} (e : n = N) (A B : List Int) (x : Nat) : n ∣ hv A x - hv B x ↔ n ∣ hv A ((x % N : Nat) : Int) - hv B ((x % N : Nat) : Int) := by
  rw [show ((x % N : Nat) : Int) = (x : Int) % n by rw [e]; rfl, Int.dvd_iff_emod_eq_zero, Int.dvd_iff_emod_eq_zero, Int.sub_emod, Int.sub_emod (hv A _), hv_mod, hv_mod]
theorem hf_memG {y : Sty} {ls : List Int} {b : Nat} {z : Int} (h : ∀ z ∈ ls, z.natAbs < 2 ^ b) (hs : y.shift.natAbs < 2 ^ b) (hz : z ∈ hf y ls) : z.natAbs < 2 ^ (b + 1) := by
  rw [Nat.pow_succ]
  have p : 0 < 2 ^ b := Nat.two_pow_pos b
  have f : ∀ w ∈ ls.map (· + y.shift), w.natAbs < 2 ^ b * 2 := fun w hw => by
    obtain ⟨v, hv, rfl⟩ := List.mem_map.mp hw
    have := h v hv
    have := Int.natAbs_add_le v y.shift
    show (v + y.shift).natAbs < _
    omega
  unfold hf at hz
  rcases List.mem_cons.mp hz with e | e
  · rw [e]
    split
    · show 1 < _
      omega
    · show 0 < _
      omega
  · split at e
    · exact f z (List.mem_reverse.mp e)
    · exact f z e
theorem dif_boundG {y : Sty} {ls ms : List Int} {b : Nat} (h1 : ∀ z ∈ ls, z.natAbs < 2 ^ b) (h2 : ∀ z ∈ ms, z.natAbs < 2 ^ b) (hs : y.shift.natAbs < 2 ^ b) : ∀ z ∈ dif y ls ms, z.natAbs < 2 ^ (b + 2) := fun z hz => by
  obtain ⟨x, w, hx, hw, rfl⟩ := psub_mem (trim_mem hz)
  have p : 0 < 2 ^ (b + 1) := Nat.two_pow_pos _
  have f : ∀ {v : Int} {l : List Int}, (∀ z ∈ l, z.natAbs < 2 ^ b) → (v ∈ (hf y l).reverse ∨ v = 0) → v.natAbs < 2 ^ (b + 1) := fun {v l} h e => by
    rcases e with e | e
    · exact hf_memG h hs (List.mem_reverse.mp e)
    · rw [e]; exact p
  have a1 := f h1 hx
  have a2 := f h2 hw
  rw [show b + 2 = b + 1 + 1 from rfl, Nat.pow_succ]
  omega
theorem hf_sum (y : Sty) (x : Int) (ls : List Int) : hv (hf y ls) x = (if y.lead then 1 else 0) * x ^ ls.length + hv (if y.low then ls.reverse else ls) x + y.shift * geo x ls.length := by
  unfold hf
  rw [hv_cons]
  by_cases h : y.low = true
  · rw [if_pos h, if_pos h, ← List.map_reverse, hv_map, List.length_map, List.length_reverse, Int.add_assoc]
  · rw [if_neg h, if_neg h, hv_map, List.length_map, Int.add_assoc]
theorem hv_add (x : Int) : ∀ {a b : List Int}, a.length = b.length → hv (List.zipWith (fun u v => u + v) a b) x = hv a x + hv b x
  | [], [], _ => by simp [hv]
  | [], _ :: _, h => by cases h
  | _ :: _, [], h => by cases h
  | u :: a, v :: b, h => by
    have h' : a.length = b.length := by simpa using h
    have el : (List.zipWith (fun u v => u + v) a b).length = a.length := by rw [List.length_zipWith]; omega
    rw [List.zipWith_cons_cons, hv_cons, hv_cons, hv_cons, hv_add x h', el, ← h']
    grind
/-- a text that differs from another one by a row -/
theorem row_dif (y : Sty) (x : Int) {ws ms : List Int} (h : ws.length = ms.length) : hv (hf y (List.zipWith (fun u v => u + v) ws ms)) x - hv (hf y ms) x = hv (if y.low then ws.reverse else ws) x := by
  have el : (List.zipWith (fun u v => u + v) ws ms).length = ms.length := by rw [List.length_zipWith]; omega
  rw [hf_sum, hf_sum, el]
  have e : hv (if y.low then (List.zipWith (fun u v => u + v) ws ms).reverse else List.zipWith (fun u v => u + v) ws ms) x = hv (if y.low then ws.reverse else ws) x + hv (if y.low then ms.reverse else ms) x := by
    by_cases hl : y.low = true
    · rw [if_pos hl, if_pos hl, if_pos hl, List.reverse_zipWith h, hv_add x (by simpa using h)]
    · rw [if_neg hl, if_neg hl, if_neg hl, hv_add x h]
  rw [e]
  omega
def spSome21 : Sp := fun vs H Q _ => ∃ (a : Addr) (c : Int), vs = [.ref a] ∧ c < 2 ^ 48 ∧ Purse H a c ∧
  ∀ (l : Addr) (H' : Hp) (ps : List (Int × Int)), Same (rm a H) (rm a H') → Purse H' a (c + 1) → PrL (rm a H') l ps → Asc 0 ps → Small ps → num ps < 2 ^ 20 → Q (.ref l) H'
def spSpread2 : Sp := fun vs H Q _ => ∃ (l : Addr) (fs : List Int) (b : Nat), vs = [.ref l] ∧ H l = some (.lst (fs.map V.int)) ∧ fs.length ≤ 60 ∧ Sml b fs ∧
  ∀ (p : Addr) (rs : List Int) (H' : Hp), H p = none → Same H H' → H' p = some (.lst (rs.map V.int)) → rs.length = fs.length + 1 → Sml (b + 7 * fs.length) rs → Q (.ref p) H'
def spReqModX (K : PySem.W.Frag) (c : CA) (Cq : Addr) : Sp := fun vs H Q E => ∃ v : V, vs = [v] ∧ ((∃ (m : Addr) (ps : List (Int × Int)), v = .ref m ∧ ModAt c H m ps ∧ Q .non H) ∨ (∃ t, TyX K H v t ∧ PySem.W.kitOne K t (.ref c.md) = some false ∧ ErrTo E Cq "place" .non H))
def spPBX (K : PySem.W.Frag) (c : CA) (Ct Cq Ck : Addr) (R : Option Nat → V) : Sp := fun vs H Q E => ∃ v u q m : V, vs = [v, u, q, m] ∧
  ((TextB K H v false ∧ ErrTo E Ct "thing" v H) ∨
   (∃ ls, TextAt H v ls ∧ TextB K H u false ∧ ErrTo E Ct "thing" u H) ∨
   (∃ ls ms t, TextAt H v ls ∧ TextAt H u ms ∧ TyX K H q t ∧ PySem.W.kitOne K t (.ref c.md) = some false ∧ ErrTo E Cq "place" .non H) ∨
   (∃ ls ms p ps t, TextAt H v ls ∧ TextAt H u ms ∧ q = .ref p ∧ ModAt c H p ps ∧ m ≠ .non ∧ TyX K H m t ∧ PySem.W.kitOne K t (.ref c.kg) = some false ∧ ErrTo E Ck "name" .non H) ∨
   (∃ ls ms p ps y, TextAt H v ls ∧ TextAt H u ms ∧ q = .ref p ∧ ModAt c H p ps ∧ ls.length ≤ 50 ∧ ms.length ≤ 50 ∧ Sml 1500 ls ∧ Sml 1500 ms ∧ y.shift.natAbs < 2 ^ 1500 ∧ ((m = .non ∧ y = ⟨false, 0, false⟩) ∨ ∃ k, m = .ref k ∧ MkAt c H k y.low y.shift y.lead) ∧
     ∀ r H', Same H H' → Least (num ps) (fun x => hv (hf y ls) x - hv (hf y ms) x) r → Q (R r) H'))
def rB (r : Option Nat) : V := .bl r.isNone
theorem Least.swap {n : Int} {A B : Int → Int} {r : Option Nat} (h : Least n (fun x => A x - B x) r) : Least n (fun x => B x - A x) r := h.congr fun x => by
  rw [← Int.dvd_neg, show -(A x - B x) = B x - A x by omega]
def spCaughtP (K : PySem.W.Frag) (c : CA) : Sp := fun vs H Q _ => ∃ (k : Int) (v u q m : V), vs = [.int k, v, u, q, m] ∧ (k = 0 ∨ k = 1) ∧
  ((TextB K H v false ∧ ∀ l H', l ≠ sysModules → H l = none → Same H H' → H' l = some (.lst [.str "text", v]) → Q (.ref l) H') ∨
   (∃ ls, TextAt H v ls ∧ TextB K H u false ∧ ∀ l H', l ≠ sysModules → H l = none → Same H H' → H' l = some (.lst [.str "text", u]) → Q (.ref l) H') ∨
   (∃ ls ms t, TextAt H v ls ∧ TextAt H u ms ∧ TyX K H q t ∧ PySem.W.kitOne K t (.ref c.md) = some false ∧ ∀ l H', l ≠ sysModules → H l = none → Same H H' → H' l = some (.lst [.str "modulus", .non]) → Q (.ref l) H') ∨
   (∃ ls ms p ps t, TextAt H v ls ∧ TextAt H u ms ∧ q = .ref p ∧ ModAt c H p ps ∧ m ≠ .non ∧ TyX K H m t ∧ PySem.W.kitOne K t (.ref c.kg) = some false ∧ ∀ l H', l ≠ sysModules → H l = none → Same H H' → H' l = some (.lst [.str "marking", .non]) → Q (.ref l) H'))
structure NoQ (K : PySem.W.Frag) (c : CA) : Prop where
  non : PySem.W.kitOne K (.type "NoneType") (.ref c.md) = some false
  int : PySem.W.kitOne K (.type "int") (.ref c.md) = some false
  lst : PySem.W.kitOne K (.type "list") (.ref c.md) = some false
  str : PySem.W.kitOne K (.type "str") (.ref c.md) = some false
  wy : PySem.W.kitOne K (.ref c.wy) (.ref c.md) = some false
def spDoorsP (c : CA) : Sp := fun vs H Q _ => ∃ (a : Addr) (v : V) (p : Addr) (ls : List Int) (ps : List (Int × Int)) (cc : Int), vs = [.ref a, v, .ref p] ∧ cc < 2 ^ 47 ∧ Purse H a cc ∧ TextAt (rm a H) v ls ∧ ModAt c (rm a H) p ps ∧ ∀ H', Same (rm a H) (rm a H') → Purse H' a (cc + 10) → Q (.bl true) H'
def rCatB : R2 := fun x y H Q => ∃ l b xs zs, x = .ref l ∧ y = .ref b ∧ H l = some (.lst xs) ∧ H b = some (.lst zs) ∧ xs.length + zs.length ≤ sizeLine ∧ ∀ p, H p = none → p ≠ sysModules → atV Q (.ref p) (upd H p (.lst (xs ++ zs)))
theorem op_catB {X : Cx} : OpR X (binaryOp .Add) rCatB := by
  rintro pins s σ H x y v u Q I rx ry ⟨l, b, xs, zs, rfl, rfl, h1, h2, hz, q⟩
  cases rx
  cases ry
  obtain ⟨_, is, _, r, l1, e1⟩ := I.lstM h1
  obtain ⟨_, js, _, r2, l2, e2⟩ := I.lstM h2
  refine PySem.P.add_list e1 e2 ?_ (by simp only [List.size_toArray]; omega)
  rw [show is.toArray ++ js.toArray = (is ++ js).toArray by simp]
  exact ⟨.ref _, _, I.lnew (t' := s.toks) (r.append r2) (by rw [List.length_append]; omega), rfl, q _ I.fresh (Nat.ne_of_gt I.big)⟩
theorem w_catB {p r : Addr} {xs ys : List V} {H : Hp} {Q : VK} (h : H p = some (.lst xs)) (h2 : H r = some (.lst ys)) (l : xs.length + ys.length ≤ sizeLine) (q : ∀ p, H p = none → p ≠ sysModules → atV Q (.ref p) (upd H p (.lst (xs ++ ys)))) : rCatB (.ref p) (.ref r) H Q := ⟨p, r, xs, ys, rfl, rfl, h, h2, l, q⟩
def spFalls2 : Sp := fun vs H Q _ => ∃ (a : Addr) (n fg mo c : Int), vs = [.ref a, .int n, .int fg, .int mo] ∧ 0 < n ∧ n.natAbs < 2 ^ 700 ∧ 0 ≤ fg ∧ fg ≤ 15 ∧ 1 ≤ mo ∧ mo ≤ 39 ∧ c < 2 ^ 47 ∧ Purse H a c ∧
  ∀ (l : Addr) (fs : List Int) (H' : Hp), H l = none → Same (rm a H) (rm a H') → Purse H' a (c + 1000) → rm a H' l = some (.lst (fs.map V.int)) → 1 ≤ fs.length → fs.length ≤ 39 → Sml 800 fs → Q (.ref l) H'
theorem w_neO {K : PySem.W.Frag} {H : Hp} {a b : Addr} {r : Option Nat} {Q : VK} (ha : H a = some (.lst [optN r, optN r])) (hb : H b = some (.lst [optN r, optN r])) (q : Q (.bl false) H) : rNeD K (.ref a) (.ref b) H Q := by
  cases r with
  | none => exact ⟨.list [.none, .none], .list [.none, .none], .lst (sq ha) (.cons .non (.cons .non .nil)), .lst (sq hb) (.cons .non (.cons .non .nil)), by decide +kernel, by decide +kernel, q⟩
  | some j => exact w_neLL (ls := [(j : Int), (j : Int)]) (ms := [(j : Int), (j : Int)]) (sq ha) (sq hb) (by rw [decide_eq_true (Eq.refl _)]; exact q)
theorem PrL.rmL {H : Hp} {l lf : Addr} {ps : List (Int × Int)} {fs : List Int} (h : PrL H l ps) (hf : H lf = some (.lst (fs.map V.int))) (n : 1 ≤ fs.length) : PrL (Bc.rm lf H) l ps := by
  obtain ⟨ts, h1, h2⟩ := h
  refine ⟨ts, rm_of (fun e => ?_) h1, paired_imp (fun q t z => rm_of (fun e => ?_) z) h2⟩
  · rw [e, hf] at h1
    have h3 : fs.map V.int = ts.map V.ref := by injection h1 with h1; injection h1
    cases fs with
    | nil => simp at n
    | cons f fs =>
      cases ts with
      | nil => cases h3
      | cons t ts => injection h3 with h3 _; cases h3
  · have z : H t = some (.tup [.int q.1, .int q.2]) := z
    rw [e, hf] at z
    cases z
def perm4P {α : Type} (us _ds ws : List α) : List α := us ++ (match ws with | [o, t, m, q] => [t, o, q, m] | z => z)
theorem perm4_vals {vs ds zs : List V} {us its ws : List Value} (r1 : Vals vs us) (_r : Vals ds its) (r2 : Vals zs ws) : Vals (perm4P vs ds zs) (perm4P us its ws) := by
  unfold perm4P
  refine r1.append ?_
  match r2 with
  | .nil => exact .nil
  | .cons a .nil => exact .cons a .nil
  | .cons a (.cons b .nil) => exact .cons a (.cons b .nil)
  | .cons a (.cons b (.cons c .nil)) => exact .cons a (.cons b (.cons c .nil))
  | .cons a (.cons b (.cons c (.cons d .nil))) => exact .cons b (.cons a (.cons d (.cons c .nil)))
  | .cons a (.cons b (.cons c (.cons d (.cons e t)))) => exact .cons a (.cons b (.cons c (.cons d (.cons e t))))
abbrev perm4 (vs zs : List V) : List V := perm4P vs [V.non] zs
def rev4P {α : Type} (us _ds ws : List α) : List α := us ++ ws.reverse
abbrev rev4 (vs zs : List V) : List V := rev4P vs [V.non] zs
theorem ten31' {z : Int} (h : z.natAbs < 10 ^ 31) : z.natAbs < 2 ^ 1500 := Nat.lt_trans h (Nat.lt_of_lt_of_le (show 10 ^ 31 < 2 ^ 104 by decide) (Nat.pow_le_pow_right (by decide) (by decide)))

end Bc
namespace Bc
open PySem PySem.Spec PyProof.Rows L2
/-! ### errors made as values -/
section
open PySem.W PySem.Calls
variable {prog : Program} {w : World} {A : Around} {E : Value → Shared → Prop} {s : Shared} {K : Frag} {x D : Addr} {ox od : Obj}
theorem kin_classD {Q : Option Value → Shared → Prop} (c : ExcC K D) (X : K.In s.heap) (I : InstAt s.heap x ox D (some od)) (h : Q (some (.ref D)) { s with toks := s.toks + 1 }) : wpAny (model prog w) A (getAttr? (.ref x) "__class__") Q E s := by
  obtain ⟨hga, hgt, hsub, hdct, ha, hn, htk, hm⟩ := c
  have hf := findObj_data (K := K) (C := D) (od := od) (by obtain ⟨cd, hc, _⟩ := any_some hdct; rw [hc]; rfl) ha hn htk
  obtain ⟨hp, g, d, t, os⟩ := s
  have L0 := I.type (M := model prog w)
  have L1 := looks_findIn (M := model prog w) X hga
  have L2 := looks_findIn (M := model prog w) X hgt
  have L3 := looks_find (M := model prog w) X I hf
  have sub : Looks (model prog w) hp (isInstance (.ref x) (.type "BaseException")) true := L0.andThen (looks_subIn X hsub)
  have hx0 : (false && onTheHeap (Value.builtin "BaseException.__getattribute__")) = false := rfl
  have hx2 : (Value.builtin "BaseException.__getattribute__" == Value.builtin "object.__getattribute__") = false := by decide +kernel
  have hx1 : (onTheHeap (Value.ref D) && Value.builtin "BaseException.__getattribute__" == Value.builtin "object.__getattribute__") = false := by rw [hx2]; rfl
  unfold getAttr? getAttrBy? getAttrBy
  refine wpAny_bind (wpAny_mkText (wpAny_bind (wpAny_attempt (wpAny_holding (wpAny_bind (L0.at (wpAny_bind (L1.at ?_))))))))
  show wpAny _ _ (if (onTheHeap (Value.ref D) && Value.builtin "BaseException.__getattribute__" == Value.builtin "object.__getattribute__") = true then _ else _) _ _ _
  rw [hx1, if_neg Bool.false_ne_true]
  unfold getAttrByItsOwn hookBefore
  refine wpAny_bind ?_
  rw [if_pos (show onTheHeap (Value.ref D) = true from rfl)]
  refine L2.at ?_
  refine wpAny_bind (wpAny_attempt (wpAny_holding ?_))
  unfold callGetattribute
  rw [hx0, if_neg Bool.false_ne_true]
  unfold boundAndCalled
  rw [PySem.F.excAttr_ValueError.ga.bind (.ref x)]
  refine wpAny_bind (wpAny_pure ?_)
  show wpAny _ _ (call (.builtin "BaseException.__getattribute__") [.ref x, .str "__class__" t]) _ _ _
  refine wpAny_call (codeAny_call_builtin PySem.F.excAttr_ValueError.ga.plain PySem.F.entry_bexc_ga ?_)
  refine @check_slot (model prog w) _ _ ⟨hp, g, d, t + 1, os⟩ "BaseException.__getattribute__" "BaseException" "__getattribute__" (.ref x) [.str "__class__" t] [] _ (by decide +kernel) (by decide +kernel) sub (PySem.F.args_bexc_ga (.ref x) (.str "__class__" t)) ?_
  unfold Builtin.«object.__getattribute__»
  refine wpAny_bind (wpAny_of_eq (a := ((Value.ref x : Value), [Value.str "__class__" t])) (by first | rfl | (simp only [slotArgs]; rfl)) ?_)
  refine wpAny_bind (wpAny_pure (wpAny_bind (L0.at (wpAny_bind (L3.at ?_)))))
  show wpAny _ _ (holding [Value.builtin "object.__class__"] (call (.builtin "getset_descriptor.__get__") [.builtin "object.__class__", .ref x, .ref D]) >>= ret) _ _ _
  refine wpAny_bind (wpAny_holding (wpAny_call (class_get (s := ⟨hp, g, d, t + 1, os⟩) (ox := ox) (od := some od) X I hm ?_)))
  refine wpAny_pure ?_
  show wpAny _ _ (handedOut (.ref D)) _ _ _
  rw [handedOut_of (v := .ref D) rfl]
  first
    | exact wpAny_pure (wpAny_pure h)
    | exact wpAny_pure h
    | exact wpAny_pure (wpAny_bind (wpAny_pure (wpAny_pure h)))
theorem kitx_excD (c : ExcC K D) : KitX K (.ref x) (.ref D) (fun h => ∃ ox od, InstAt h x ox D (some od)) where
  ty := fun _ _ _ I => by obtain ⟨ox, od, I⟩ := I; exact I.type
  it := fun _ _ X _ => by
    obtain ⟨cdD, hcD, _⟩ := any_some c.hd
    unfold clsIn at hcD
    split at hcD
    · rename_i c' d' cd' sl' ho
      intro A' Q' E' s' k q
      unfold isType loadHead
      exact wpAny_bind (wpAny_loadPart (k _ _ (X _ _ ho)) (wpAny_pure q))
    · cases hcD
  ne := fun h tp dd its n sl X htp => by
    obtain ⟨cdD, hcD, _⟩ := any_some c.hd
    refine Bool.eq_false_iff.mpr fun q => ?_
    have e : D = tp := Value.ref.inj (beq_iff_eq.mp q)
    subst e
    unfold clsIn at hcD
    split at hcD
    · rename_i c' d' cd' sl' ho
      have z := (X _ _ ho).symm.trans htp
      cases z
    · cases hcD
  ca := fun X I k => by obtain ⟨ox, od, I⟩ := I; exact kin_classD c X I k
end
/-- the type of a thing, errors among them -/
inductive TyE (K : PySem.W.Frag) (H : Hp) : V → Value → Prop
  | x {v : V} {t : Value} (h : TyX K H v t) : TyE K H v t
  | e {a C d : Addr} {fs : List (Str × V)} (h : H a = some (exo a C (some d))) (hd : H d = some (exd d fs)) (c : ExcC K C) : TyE K H (.ref a) (.ref C)
theorem TyE.same {K : PySem.W.Frag} {H H' : Hp} {v : V} {t : Value} (h : TyE K H v t) (s : Same H H') : TyE K H' v t := by
  cases h with
  | x h => exact .x (tyx_same h s)
  | e h hd c => exact .e (s _ _ h) (s _ _ hd) c
section
variable {X : Cx} {pins : List (Addr × Obj)} {σ : L2.St} {H : Hp} {s : Shared}
theorem kit_ofE {x : V} {u t : Value} (I : Inv X pins σ H s) (rx : RelV x u) (ty : TyE X.K H x t) : ∃ P : Heap → Prop, PySem.W.KitX X.K u t P ∧ P s.heap ∧ u ≠ .builtin "__main__.__loader__#opaque" := by
  cases ty with
  | x h => exact kit_of I rx h
  | @e a C d fs h hd c =>
    cases (show u = Value.ref a from rx)
    obtain ⟨t1, ha⟩ := exo_at I.hok h
    obtain ⟨mA, hns, hr⟩ := exd_at I.hok hd
    obtain ⟨od, ho, hl⟩ := lookIn_ns hns
    exact ⟨_, kitx_excD c, ⟨_, od, ha, rfl, rfl, ho⟩, fun z => nomatch z⟩
def rIsiE (K : PySem.W.Frag) : List V → Hp → VK → Prop := fun xs H Q => ∃ (x c : V) (t u : Value) (b : Bool), xs = [x, c] ∧ ClsV c u ∧ TyE K H x t ∧ PySem.W.kitOne K t u = some b ∧ Q (.bl b) H
theorem call_isiE : CallR X (.builtin "isinstance") (rIsiE X.K) := by
  intro pins s σ H xs us Q I r h
  obtain ⟨x, c, t, u, b, rfl, hc, ty, e, q⟩ := h
  cases r with
  | cons rx rr =>
    cases rr with
    | cons rt rr =>
      cases rr
      have ec := hc.eq rt
      subst ec
      obtain ⟨P, kx, hp, hne⟩ := kit_ofE I rx ty
      exact PySem.W.kia_one kx I.kIn hp e hne fun tk => ⟨.bl b, H, I.kept (t' := tk) fun _ _ z => z, rfl, q⟩
end
theorem w_isiE {K : PySem.W.Frag} {H : Hp} {Q : VK} {x : V} {C : Addr} {t : Value} {b : Bool} (ty : TyE K H x t) (e : PySem.W.kitOne K t (.ref C) = some b) (q : Q (.bl b) H) : rIsiE K [x, .ref C] H Q := ⟨x, .ref C, t, _, b, rfl, .own C, ty, e, q⟩
section
variable {X : Cx} {k j : Nat} {x f : Str} {C : Addr} {p pos : Pos} {e : Expr} {es : List Expr} {ta : TA}
def tMkV (C : Addr) (sp : Sp) (dvs : List V) (ta : TA) : TE := fun σ H Q => ta σ H fun vs H1 => vs.length ≤ 1000 ∧ ∀ a, H1 a = none → sp (.ref a :: (vs ++ dvs)) (upd H1 a (exo a C none)) (fun v H2 => v = .non ∧ Q (.ref a) H2) (fun _ _ _ => False)
theorem pe_oexV {sp : Sp} {ds : List Value} {dvs : List V} {CX : CXT} {fI : Addr} {fd : FuncData} {ps : List Str} (T : OexC X.K C) (iC : PySem.W.findIn X.K (.ref C) "__init__" = some (some (.ref fI))) (tI : PySem.W.typeIn X.K (.ref fI) = some (.type "function"))
    (F1 : FnOk X.prog X.w X.K X.mg X.base CX k fI fd ps sp) (hr : Room (k + 1) X.A) (hb : Binds X.K fd ps ds) (hd : Vals dvs ds) (hx : Passes CX X (fun _ _ _ => False)) (hg : Gl X x) (hm : X.mg x = some (.ref C)) (ha : PA X (e :: es) ta)
    (hdb : (x == ("__debug__" : Str)) = false := by decide) (he : starEach (e :: es) X.env = (false, eval e X.env) :: starEach es X.env := by rfl) (hpl : (backTo pos (starEach es X.env)).any (·.1) = false := by rfl) :
    PE X (.Call (.Name x p) (e :: es) [] pos) (tMkV C sp dvs ta) := by
  refine ⟨fun pins s σ H Q I h => ?_⟩
  obtain ⟨nm, q, N, bs, bm, sn, sub, ab, col, dd, k0, k1, k2, k3, k5, hC, hbm⟩ := T.cls
  refine wpAny_Call_Name_kw (ld_glob I hg hm ?_ hdb)
  refine PySem.W.callWith_K (h₀ := X.base) I.ok.mod.kin T.kC (thn (ha.run pos pins s σ H _ I h) fun us s1 ⟨vs, H1, I1, r1, hz, q1⟩ => ⟨I1.kIn, ?_⟩) he hpl
  show wpAny _ _ (call (.ref C) us) _ _ _
  obtain ⟨hp, g, dr, tk, os⟩ := s1
  have hsz : hp.objs.size ≤ hp.objs.size + 1 := Nat.le_succ _
  have hn : H1 (hp.objs.size + 1) = none := I1.hok.fresh hsz
  have hq := q1 (hp.objs.size + 1) hn
  have kk : ∀ b o, hp.get? b = some o → ((hp.push (PySem.W.kdv_tup us)).push (PySem.HandSPX.excO C hp.objs.size)).get? b = some o := fun b o e => Heap.get?_push_of_some _ (Heap.get?_push_of_some _ e)
  have hget : ((hp.push (PySem.W.kdv_tup us)).push (PySem.HandSPX.excO C hp.objs.size)).get? (hp.objs.size + 1) = some (PySem.HandSPX.excO C hp.objs.size) := by heap_get
  have I2 : Inv X pins σ (upd H1 (hp.objs.size + 1) (exo (hp.objs.size + 1) C none)) ⟨(hp.push (PySem.W.kdv_tup us)).push (PySem.HandSPX.excO C hp.objs.size), g, dr, tk, os⟩ :=
    I1.laid (t' := tk) (a := hp.objs.size + 1) (o := exo (hp.objs.size + 1) C none) (h' := (hp.push (PySem.W.kdv_tup us)).push (PySem.HandSPX.excO C hp.objs.size)) kk hsz (exo_ok hget)
  have r2 : Vals (V.ref (hp.objs.size + 1) :: (vs ++ dvs)) (Value.ref (hp.objs.size + 1) :: (us ++ ds)) := .cons rfl (r1.append hd)
  have hl : (Value.ref (hp.objs.size + 1) :: us ++ ds).length = ps.length := by
    have e := r2.length
    rw [F1.len _ _ _ _ hq] at e
    exact e.symm
  have hus : us.length ≤ sizeLine := by
    rw [← Paired.length r1, sizeLine_eq]
    omega
  refine wpAny_call (PySem.HandSPX.call_own F.excBase_ValueError (fun Y => PySem.HandSPX.refsVE_contains Y bm hbm) (I1.kIn _ _ hC) (PySem.W.looks_findIn I1.kIn iC) (fun self => PySem.W.bind_fn I1.kIn self tI) hus
    (codeAny_mono (F1.run _ X.stack _ _ ⟨Value.ref (hp.objs.size + 1) :: us, []⟩ (Value.ref (hp.objs.size + 1) :: (us ++ ds)) _ _ (fun _ _ _ => False) (hr.make C us []) (I2.env0.make C us []) (hb _ (Value.ref (hp.objs.size + 1) :: us) I2.kIn hl) r2 hq) fun r s' hq' => ?_))
  cases r with
  | error er => exact hx pins σ _ _ er s' I2 hq'
  | ok fl =>
    cases fl with
    | ret u =>
      obtain ⟨v, H', I3, rv, ev, q3⟩ := I2.after hq'
      subst ev
      exact ⟨rv, V.ref (hp.objs.size + 1), H', I3, rfl, q3⟩
    | next => exact False.elim hq'
    | brk => exact False.elim hq'
    | cont => exact False.elim hq'
theorem pe_errV (c : Err X.prog X.w X.K X.mg X.base k x C f) (hr : Room j X.A) (hk : k + 1 ≤ j) (hg : Gl X x) (ha : PA X (e :: es) ta)
    (hdb : (x == ("__debug__" : Str)) = false := by decide) (he : starEach (e :: es) X.env = (false, eval e X.env) :: starEach es X.env := by rfl) (hpl : (backTo pos (starEach es X.env)).any (·.1) = false := by rfl) :
    PE X (.Call (.Name x p) (e :: es) [] pos) (tMkV C (spErr C f) [] ta) := by
  obtain ⟨fI, fd, ps, T, iC, tI, F, b, hm⟩ := c.ex
  exact pe_oexV T iC tI F (hr.mono hk) b .nil (fun _ _ _ _ _ _ _ h => h.elim) hg hm ha hdb he hpl
end
theorem w_mkV {C : Addr} {sp : Sp} {ta : TA} {σ : L2.St} {H : Hp} {Q : VK} (q : ta σ H fun vs H1 => vs.length ≤ 1000 ∧ ∀ a, H1 a = none → sp (.ref a :: (vs ++ [])) (upd H1 a (exo a C none)) (fun v H2 => v = .non ∧ Q (.ref a) H2) (fun _ _ _ => False)) : tMkV C sp [] ta σ H Q := q
theorem use_errV {C : Addr} {f : Str} {v : V} {H : Hp} {Q : Addr → Hp → Prop} {E : XK} (q : ∀ a d H2, H a = none → Same H H2 → H2 a = some (exo a C (some d)) → H2 d = some (exd d [(f, v)]) → Q a H2) :
    [v].length ≤ 1000 ∧ ∀ a, H a = none → spErr C f (.ref a :: ([v] ++ [])) (upd H a (exo a C none)) (fun u H2 => u = .non ∧ Q a H2) E :=
  ⟨by show 1 ≤ 1000; decide, fun a na => ⟨a, v, rfl, upd_same, fun dx nd ne => ⟨rfl, q a dx _ na (fun b o h => by
    have nb : b ≠ a := ne_of_none h na
    have nb2 : b ≠ dx := ne_of_none h (by rw [upd_ne ne] at nd; exact nd)
    rw [upd_ne nb, upd_ne nb2, upd_ne nb]
    exact h) upd_same (by rw [upd_ne ne, upd_same])⟩⟩⟩

end Bc
namespace Bc
open PySem PySem.Spec PyProof.Rows L2
/-! ### constructors and methods that may raise, at the caller's slots -/
section
variable {X : Cx} {CX : CXT} {k j : Nat} {f C : Addr} {fd : FuncData} {ps : List Str} {sp : Sp} {dvs : List V} {ds : List Value} {E : L2.St → XK} {x m : Str} {p pos apos : Pos} {e o : Expr} {es : List Expr} {ta : TE} {t tk' : TA} {W : WX}
def tMakeSD (C : Addr) (sp : Sp) (dvs : List V) (E : L2.St → XK) (t : TA) : TE := fun σ H Q => t σ H fun vs H1 => ∀ x dx, H1 x = none → H1 dx = none → dx ≠ x →
  sp (.ref x :: (vs ++ dvs)) (upd (upd H1 dx (.own x)) x (.ins C dx [])) (fun v H2 => v = .non ∧ Q (.ref x) H2) (E σ)
theorem run_makeSD {pins : List (Addr × Obj)} {σ : L2.St} {H : Hp} {s : Shared} {Q : VK} {us : List Value} {vs : List V} (M : Mk X.K C f) (F : FnOk X.prog X.w X.K X.mg X.base CX k f fd ps sp) (hr : Room (k + 1) X.A) (hb : Binds X.K fd ps ds) (hd : Vals dvs ds)
    (hx : PassesAt CX X σ (E σ)) (I : Inv X pins σ H s) (r : Vals vs us)
    (h : ∀ x dx, H x = none → H dx = none → dx ≠ x → sp (.ref x :: (vs ++ dvs)) (upd (upd H dx (.own x)) x (.ins C dx [])) (fun v H2 => v = .non ∧ Q (.ref x) H2) (E σ)) :
    wpAny (model X.prog X.w) X.A (call (.ref C) us) (EP X pins σ Q) X.xe s := by
  have hq := h (s.heap.objs.size + 1) s.heap.objs.size (I.hok.fresh (Nat.le_succ _)) (I.hok.fresh (Nat.le_refl _)) (Nat.ne_of_lt (Nat.lt_succ_self _))
  have I2 := Inv.made (C := C) I
  have r2 : Vals (V.ref (s.heap.objs.size + 1) :: (vs ++ dvs)) (Value.ref (s.heap.objs.size + 1) :: (us ++ ds)) := .cons rfl (r.append hd)
  have hl : (Value.ref (s.heap.objs.size + 1) :: us ++ ds).length = ps.length := by
    have e := r2.length
    rw [F.len _ _ _ _ hq] at e
    exact e.symm
  refine wpAny_call (make_map (f := f) I.kIn M.makes M.init (beq_iff_eq.mp M.fn) (codeAny_mono (F.run _ X.stack _ _ ⟨Value.ref (s.heap.objs.size + 1) :: us, []⟩ (Value.ref (s.heap.objs.size + 1) :: (us ++ ds)) _ _ (E σ) (hr.make C us [])
    (I2.env0.make C us []) (hb _ (Value.ref (s.heap.objs.size + 1) :: us) I2.kIn hl) r2 hq) fun r s' hq' => ?_))
  cases r with
  | error e => exact hx pins _ _ e s' I2 hq'
  | ok fl =>
    cases fl with
    | ret u =>
      obtain ⟨v, H', I3, rv, ev, q3⟩ := I2.after hq'
      subst ev
      exact ⟨rv, ⟨V.ref (s.heap.objs.size + 1), H', I3, rfl, q3⟩⟩
    | next => exact False.elim hq'
    | brk => exact False.elim hq'
    | cont => exact False.elim hq'
structure MakX (P : Program) (w : World) (K : PySem.W.Frag) (mg : Str → Option Value) (base : Heap) (k : Nat) (x : Str) (C : Addr) (sp : Sp) (dvs : List V) : Prop where
  ex : ∃ (f : Addr) (fd : FuncData) (ps : List Str) (ds : List Value), Mk K C f ∧ FnOk P w K mg base (L2.CX P w) k f fd ps sp ∧ mg x = some (.ref C) ∧ Binds K fd ps ds ∧ Vals dvs ds
theorem pe_mkX (c : MakX X.prog X.w X.K X.mg X.base k x C sp dvs) (hr : Room j X.A) (hk : k + 1 ≤ j) (hg : Gl X x) (tk : Takes X W) (ha : PA X (e :: es) t)
    (hdb : (x == ("__debug__" : Str)) = false := by decide) (he : starEach (e :: es) X.env = (false, eval e X.env) :: starEach es X.env := by rfl) (hpl : (backTo pos (starEach es X.env)).any (·.1) = false := by rfl) :
    PE X (.Call (.Name x p) (e :: es) [] pos) (tMakeSD C sp dvs (WE W) t) := by
  obtain ⟨f, fd, ps, ds, M, F, hm, b, d⟩ := c.ex
  refine ⟨fun pins s σ H Q I h => ?_⟩
  refine wpAny_Call_Name_kw (ld_glob I hg hm ?_ hdb)
  refine PySem.W.callWith_K (h₀ := X.base) I.ok.mod.kin M.kp (thn (ha.run pos pins s σ H _ I h) fun us s1 ⟨vs, H1, I1, r, q⟩ => ⟨I1.kIn, ?_⟩) he hpl
  exact run_makeSD M F (hr.mono hk) b d (passAt tk σ) I1 r q
/-- a call of it that raises nothing -/
theorem pe_mkL (c : MakX X.prog X.w X.K X.mg X.base k x C sp dvs) (hr : Room j X.A) (hk : k + 1 ≤ j) (hg : Gl X x) (ha : PA X (e :: es) t)
    (hdb : (x == ("__debug__" : Str)) = false := by decide) (he : starEach (e :: es) X.env = (false, eval e X.env) :: starEach es X.env := by rfl) (hpl : (backTo pos (starEach es X.env)).any (·.1) = false := by rfl) :
    PE X (.Call (.Name x p) (e :: es) [] pos) (tMake C sp dvs L2.E0 t) := by
  obtain ⟨f, fd, ps, ds, M, F, hm, b, d⟩ := c.ex
  exact pe_make M F (hr.mono hk) hg hm b d passL ha hdb he hpl
theorem pe_mkL0 (c : MakX X.prog X.w X.K X.mg X.base k x C sp dvs) (hr : Room j X.A) (hk : k + 1 ≤ j) (hg : Gl X x) (hdb : (x == ("__debug__" : Str)) = false := by decide) : PE X (.Call (.Name x p) [] [] pos) (tMake C sp dvs L2.E0 tNil) := by
  obtain ⟨f, fd, ps, ds, M, F, hm, b, d⟩ := c.ex
  exact pe_make0 M F (hr.mono hk) hg hm b d passL hdb
theorem w_makeX {σ : L2.St} {H : Hp} {Q : VK} (q : t σ H fun vs H1 => ∀ x dx, H1 x = none → H1 dx = none → dx ≠ x → sp (.ref x :: (vs ++ dvs)) (upd (upd H1 dx (.own x)) x (.ins C dx [])) (fun v H2 => v = .non ∧ Q (.ref x) H2) fun cls d H2 => W cls d σ H2) : tMakeSD C sp dvs (WE W) t σ H Q := q
/-! with keywords alone -/
def tMakeKS (C : Addr) (m : Nat) (sp : Sp) (gV : List V → List V → List V) (E : L2.St → XK) (tk : TA) : TE := fun σ H Q => tk σ H fun zs H2 => zs.length = m ∧ ∀ x dx, H2 x = none → H2 dx = none → dx ≠ x →
  sp (gV [.ref x] zs) (upd (upd H2 dx (.own x)) x (.ins C dx [])) (fun v H3 => v = .non ∧ Q (.ref x) H3) (E σ)
structure MakXK (P : Program) (w : World) (K : PySem.W.Frag) (mg : Str → Option Value) (base : Heap) (k : Nat) (x : Str) (C : Addr) (ks : List Str) (sp : Sp) (gV : List V → List V → List V) : Prop where
  ex : ∃ (f : Addr) (fd : FuncData) (ps : List Str) (g : List Value → List Value → List Value), Mk K C f ∧ FnOk P w K mg base (L2.CX P w) k f fd ps sp ∧ mg x = some (.ref C) ∧ KBn K fd ps 1 ks g gV
theorem run_makeKS {pins : List (Addr × Obj)} {σ : L2.St} {H : Hp} {s : Shared} {Q : VK} {ks : List Str} {ws : List Value} {zs : List V} {g : List Value → List Value → List Value} {gV : List V → List V → List V} (M : Mk X.K C f) (F : FnOk X.prog X.w X.K X.mg X.base CX k f fd ps sp) (hr : Room (k + 1) X.A) (hb : KBn X.K fd ps 1 ks g gV) (hx : PassesAt CX X σ (E σ))
    (I : Inv X pins σ H s) (rz : Vals zs ws) (l2 : zs.length = ks.length)
    (h : ∀ x dx, H x = none → H dx = none → dx ≠ x → sp (gV [.ref x] zs) (upd (upd H dx (.own x)) x (.ins C dx [])) (fun v H2 => v = .non ∧ Q (.ref x) H2) (E σ)) :
    wpAny (model X.prog X.w) X.A (call (.ref C) [] (ks.zip ws)) (EP X pins σ Q) X.xe s := by
  have hq := h (s.heap.objs.size + 1) s.heap.objs.size (I.hok.fresh (Nat.le_succ _)) (I.hok.fresh (Nat.le_refl _)) (Nat.ne_of_lt (Nat.lt_succ_self _))
  have I2 := Inv.made (C := C) I
  have r1 : Vals [V.ref (s.heap.objs.size + 1)] [Value.ref (s.heap.objs.size + 1)] := .cons rfl .nil
  have r2 := hb.rel r1 rz
  refine wpAny_call (make_map (f := f) I.kIn M.makes M.init (beq_iff_eq.mp M.fn) (codeAny_mono (F.run _ X.stack _ _ ⟨[Value.ref (s.heap.objs.size + 1)], ks.zip ws⟩ (g [Value.ref (s.heap.objs.size + 1)] ws) _ _ (E σ) (hr.make C [] (ks.zip ws))
    (I2.env0.make C [] (ks.zip ws)) (hb.to _ [Value.ref (s.heap.objs.size + 1)] ws I2.kIn rfl (rz.length.symm.trans l2)) r2 hq) fun r s' hq' => ?_))
  cases r with
  | error e => exact hx pins _ _ e s' I2 hq'
  | ok fl =>
    cases fl with
    | ret u =>
      obtain ⟨v, H', I3, rv, ev, q3⟩ := I2.after hq'
      subst ev
      exact ⟨rv, ⟨V.ref (s.heap.objs.size + 1), H', I3, rfl, q3⟩⟩
    | next => exact False.elim hq'
    | brk => exact False.elim hq'
    | cont => exact False.elim hq'
theorem pe_mkXK {ks : List Str} {gV : List V → List V → List V} {kws : List Keyword} {tk : TA} (c : MakXK X.prog X.w X.K X.mg X.base k x C ks sp gV) (hr : Room j X.A) (hk : k + 1 ≤ j) (hg : Gl X x) (tk' : Takes X W) (hkw : PK X kws tk)
    (hall : (backToKw pos (keywordEach kws X.env)).all (·.1.isSome) = true := by rfl) (hks : (backToKw pos (keywordEach kws X.env)).filterMap (·.1) = ks := by rfl) (hdb : (x == ("__debug__" : Str)) = false := by decide)
    (hpl : ((backTo pos (starEach [] X.env)).any (·.1) || (backToKw pos (keywordEach kws X.env)).any (·.1.isNone)) = false := by rfl) :
    PE X (.Call (.Name x p) [] kws pos) (tMakeKS C ks.length sp gV (WE W) tk) := by
  obtain ⟨f, fd, ps, g, M, F, hm, b⟩ := c.ex
  refine ⟨fun pins s σ H Q I h => ?_⟩
  refine wpAny_Call_Name_kw (ld_glob I hg hm ?_ hdb)
  refine PySem.W.callWith_KW0 (h₀ := X.base) I.ok.mod.kin M.kp hall ?_ hpl
  refine thn (hkw.run pos pins s σ H _ I h) fun ws s2 ⟨zs, H2, I2, rz, l2, q2⟩ => ⟨I2.kIn, ?_⟩
  rw [hks]
  exact run_makeKS M F (hr.mono hk) b (passAt tk' σ) I2 rz l2 q2
theorem pe_mkLK {ks : List Str} {gV : List V → List V → List V} {kws : List Keyword} {tk : TA} (c : MakXK X.prog X.w X.K X.mg X.base k x C ks sp gV) (hr : Room j X.A) (hk : k + 1 ≤ j) (hg : Gl X x) (hkw : PK X kws tk)
    (hall : (backToKw pos (keywordEach kws X.env)).all (·.1.isSome) = true := by rfl) (hks : (backToKw pos (keywordEach kws X.env)).filterMap (·.1) = ks := by rfl) (hdb : (x == ("__debug__" : Str)) = false := by decide)
    (hpl : ((backTo pos (starEach [] X.env)).any (·.1) || (backToKw pos (keywordEach kws X.env)).any (·.1.isNone)) = false := by rfl) :
    PE X (.Call (.Name x p) [] kws pos) (tMakeK C 0 ks.length sp gV L2.E0 tNil tk) := by
  obtain ⟨f, fd, ps, g, M, F, hm, b⟩ := c.ex
  exact pe_makeK0 M F (hr.mono hk) hg hm b passL hkw hall hks hdb hpl
theorem w_makeKS {σ : L2.St} {H : Hp} {Q : VK} {n : Nat} {gV : List V → List V → List V} {tk : TA} (q : tk σ H fun zs H2 => zs.length = n ∧ ∀ x dx, H2 x = none → H2 dx = none → dx ≠ x → sp (gV [.ref x] zs) (upd (upd H2 dx (.own x)) x (.ins C dx [])) (fun v H3 => v = .non ∧ Q (.ref x) H3) fun cls d H2 => W cls d σ H2) : tMakeKS C n sp gV (WE W) tk σ H Q := q
/-! methods -/
def tMethSD (C : Addr) (m : Str) (sp : Sp) (dvs : List V) (E : L2.St → XK) (ta : TE) (t : TA) : TE := fun σ H Q => ta σ H fun x H1 => ∃ a dx fs, x = .ref a ∧ H1 a = some (.ins C dx fs) ∧ fs.lookup m = none ∧
  t σ H1 fun vs H2 => sp (x :: (vs ++ dvs)) H2 Q (E σ)
structure MetX (P : Program) (w : World) (K : PySem.W.Frag) (mg : Str → Option Value) (base : Heap) (k : Nat) (C : Addr) (m : Str) (sp : Sp) (dvs : List V) : Prop where
  ex : ∃ (f : Addr) (fd : FuncData) (ps : List Str) (ds : List Value), Cls K C ∧ Meth K C m f ∧ FnOk P w K mg base (L2.CX P w) k f fd ps sp ∧ Binds K fd ps ds ∧ Vals dvs ds
theorem pe_mtX {pl : Sem Bool} (c : MetX X.prog X.w X.K X.mg X.base k C m sp dvs) (hr : Room j X.A) (hk : k ≤ j) (tk : Takes X W) (he : PE X o ta) (ha : PA X (e :: es) t)
    (hst : starEach (e :: es) X.env = (false, eval e X.env) :: starEach es X.env := by rfl) (hpl : (backTo pos (starEach es X.env)).any (·.1) = false := by rfl)
    (ht : eval (.Call (.Attribute o m apos) (e :: es) [] pos) X.env = (do
      let ov ← eval o X.env
      standAt apos.atName
      let (f, first) ← holding [ov] (getMethod ov m pl)
      callWith pos f first (backTo pos (starEach (e :: es) X.env)) (backToKw pos (keywordEach [] X.env))) := by rfl) :
    PE X (.Call (.Attribute o m apos) (e :: es) [] pos) (tMethSD C m sp dvs (WE W) ta t) := by
  obtain ⟨f, fd, ps, ds, cl, hm, F, b, d⟩ := c.ex
  refine ⟨fun pins s σ H Q I h => ?_⟩
  refine PySem.W.methodCall_KW (pl := pl) (thn (he.run pins s σ H _ I h) fun u s1 ⟨x, H1, I1, rx, a, dx, fs, ex, ea, l, q⟩ => ?_) ht
  subst ex
  obtain rfl : u = Value.ref a := rx
  refine getmeth_ok I1 ea cl hm l ?_
  refine PySem.W.callWith_K (first := [.ref a]) (h₀ := X.base) I.ok.mod.kin hm.kp (thn (ha.run pos pins s1 σ H1 _ I1 q) fun us s2 ⟨vs, H2, I2, r, q2⟩ => ⟨I2.kIn, ?_⟩) hst hpl
  exact run_fnSD (us := .ref a :: us) (vs := .ref a :: vs) F (hr.mono hk) b d (passAt tk σ) I2 (.cons rfl r) q2
theorem pe_mtL {pl : Sem Bool} (c : MetX X.prog X.w X.K X.mg X.base k C m sp dvs) (hr : Room j X.A) (hk : k ≤ j) (he : PE X o ta) (ha : PA X (e :: es) t)
    (hst : starEach (e :: es) X.env = (false, eval e X.env) :: starEach es X.env := by rfl) (hpl : (backTo pos (starEach es X.env)).any (·.1) = false := by rfl)
    (ht : eval (.Call (.Attribute o m apos) (e :: es) [] pos) X.env = (do
      let ov ← eval o X.env
      standAt apos.atName
      let (f, first) ← holding [ov] (getMethod ov m pl)
      callWith pos f first (backTo pos (starEach (e :: es) X.env)) (backToKw pos (keywordEach [] X.env))) := by rfl) :
    PE X (.Call (.Attribute o m apos) (e :: es) [] pos) (tMeth C m sp dvs L2.E0 ta t) := by
  obtain ⟨f, fd, ps, ds, cl, hm, F, b, d⟩ := c.ex
  exact pe_meth he cl hm F (hr.mono hk) b d passL ha hst hpl ht
theorem w_methX {σ : L2.St} {H : Hp} {Q : VK} (q : ta σ H fun x H1 => ∃ a dx fs, x = .ref a ∧ H1 a = some (.ins C dx fs) ∧ fs.lookup m = none ∧ t σ H1 fun vs H2 => sp (x :: (vs ++ dvs)) H2 Q fun cls d H3 => W cls d σ H3) : tMethSD C m sp dvs (WE W) ta t σ H Q := q
end
/-! ### == and != by an own __eq__ -/
structure EqO (P : Program) (w : World) (K : PySem.W.Frag) (mg : Str → Option Value) (base : Heap) (k : Nat) (C : Addr) (sp : Sp) : Prop where
  ex : ∃ (f : Addr) (fd : FuncData) (ps : List Str), PySem.W.findIn K (.ref C) "__eq__" = some (some (.ref f)) ∧ PySem.W.isFn K (.ref f) = true ∧ PySem.W.findIn K (.ref C) "__ne__" = some (some (.builtin "object.__ne__")) ∧ PySem.W.mroIn K C (.type "object") = some true ∧ FnOk P w K mg base L2.CX0 k f fd ps sp ∧ Binds K fd ps []
def rEqO (K : PySem.W.Frag) (C : Addr) (sp : Sp) : R2 := fun x y H Q => ∃ a dx fs t, x = .ref a ∧ H a = some (.ins C dx fs) ∧ TyE K H y t ∧ PySem.W.notFirst K C t = true ∧ sp [x, y] H (fun v H' => ∃ b, v = .bl b ∧ Q (.bl b) H') L2.E0
def rNeO (K : PySem.W.Frag) (C : Addr) (sp : Sp) : R2 := fun x y H Q => ∃ a dx fs t, x = .ref a ∧ H a = some (.ins C dx fs) ∧ TyE K H y t ∧ PySem.W.notFirst K C t = true ∧ sp [x, y] H (fun v H' => ∃ b, v = .bl b ∧ Q (.bl (!b)) H') L2.E0
section
variable {M : Model} {prog : Program} {w : World} {A : Around} {E : Value → Shared → Prop} {s : Shared} {K : PySem.W.Frag} {x C f : Addr} {ox : Obj} {od : Option Obj} {b tb : Value}
theorem ifBound_objNe {args : List Value} {Q : Option Value → Shared → Prop} (X : K.In s.heap) (I : PySem.W.InstAt s.heap x ox C od) (hs : PySem.W.findIn K (.ref C) "__ne__" = some (some (.builtin "object.__ne__")))
    (h : wpAny M A (call (.builtin "object.__ne__") (.ref x :: args)) (fun v => Q (some v)) E s) : wpAny M A (callSpecialIfBound? (.ref x) "__ne__" args) Q E s := by
  simp only [callSpecialIfBound?, bindSpecialIfBound?]
  refine wpAny_holding (wpAny_bind (wpAny_bind (wpAny_bind (I.type.here ((PySem.W.looks_findIn X hs).here ?_)))))
  refine wpAny_bind (wpAny_askSetting (wpAny_ite ?_))
  have fin : wpAny M A (call (.builtin "object.__ne__") ([.ref x] ++ args) >>= fun v => pure (some v)) Q E s := wpAny_bind (wpAny_mono h (fun v s' h' => wpAny_pure h') fun _ _ h' => h')
  split
  · exact wpAny_bind (wpAny_of_eq (F.cmp_object.ne.bind _) (wpAny_pure (by exact fin)))
  · exact wpAny_tryCatch (wpAny_bind (wpAny_of_eq (F.cmp_object.ne.bind _) (wpAny_pure (by exact fin))))
theorem objNe_entry_K (X : K.In s.heap) (I : PySem.W.InstAt s.heap x ox C od) (hs : PySem.W.findIn K (.ref C) "__eq__" = some (some (.ref f))) (hf : PySem.W.isFn K (.ref f) = true) (hu : A.units < cLine) {Q : Fin → Shared → Prop}
    (hcall : wpAny (model prog w) A (call (.ref f) [.ref x, b]) (fun v s' => ∃ r, v = .bool r ∧ Q (.done (.ret (.bool (!r)))) s') E s) :
    wpAny (model prog w) A (Builtin.«object.__ne__» ⟨[.ref x, b], []⟩) Q E s := by
  unfold Builtin.«object.__ne__»
  repeat (first
    | with_reducible refine wpAny_cRoomFor hu ?_
    | (refine wpAny_bind (m := callSpecialIfBound? (.ref x) (Str.ofString "__eq__") [b])
        (PySem.W.ifBound_K X I hs hf (wpAny_mono hcall (fun r s' hr => by
          obtain ⟨b, rfl, hq⟩ := hr
          repeat (first | exact hq | exact wpAny_pure hq | exact wpAny_truthy_bool hq | (refine wpAny_bind (m := truthy (.bool _)) (wpAny_truthy_bool ?_)) | wp_step)) fun _ _ e => e)))
    | wp_step)
theorem ne_K {Q : Value → Shared → Prop} (hu : A.units + 1 < cLine) (X : K.In s.heap) (I : PySem.W.InstAt s.heap x ox C od) (hb : PySem.W.Looks (model prog w) s.heap (typeOf b) tb) (hn : PySem.W.notFirst K C tb = true)
    (hs : PySem.W.findIn K (.ref C) "__eq__" = some (some (.ref f))) (hf : PySem.W.isFn K (.ref f) = true) (hne : PySem.W.findIn K (.ref C) "__ne__" = some (some (.builtin "object.__ne__"))) (hm : PySem.W.mroIn K C (.type "object") = some true)
    (h : wpAny (model prog w) A.in1 (call (.ref f) [.ref x, b]) (fun v s' => ∃ r, v = .bool r ∧ Q (.bool (!r)) s') E s) : wpAny (model prog w) A (richCompare .NotEq (.ref x) b) Q E s := by
  have one : wpAny (model prog w) A (tryCompare (.ref x) (cmpInfo .NotEq).2.1 b) (fun r s' => ∃ v, r = some v ∧ Q v s') E s := by
    show wpAny (model prog w) A (tryCompare (.ref x) "__ne__" b) _ E s
    unfold tryCompare
    refine wpAny_bind (ifBound_objNe X I hne (wpAny_call (codeAny_call_builtin F.cmp_object.ne.plain F.cmpEntry_ne (PySem.W.check_slot F.cmpKind_ne F.cmpSplit_ne (I.type.andThen (PySem.W.looks_mroIn X hm)) (F.cmpArgs_ne _ _)
      (objNe_entry_K (A := A.in1) X I hs hf hu (wpAny_mono h (fun v s' hv => ?_) fun _ _ e => e))))))
    obtain ⟨r, rfl, hq⟩ := hv
    first | exact ⟨r, rfl, wpAny_pure ⟨_, rfl, hq⟩⟩ | exact ⟨r, rfl, wpAny_pure (wpAny_pure ⟨_, rfl, hq⟩)⟩ | exact ⟨r, rfl, _, rfl, hq⟩
  unfold richCompare
  simp only [oneThing_ref]
  refine wpAny_holding (wpAny_bind (wpAny_cRoomFor (Nat.lt_of_succ_lt hu) ?_))
  refine wpAny_bind (I.type.here (wpAny_bind (hb.here ?_)))
  split
  · rename_i q
    have e : PySem.W.subIn K tb (.ref C) = some false := by
      rcases Bool.or_eq_true_iff.mp hn with e | e
      · rw [beq_iff_eq.mp e] at q; simp at q
      · exact beq_iff_eq.mp e
    refine wpAny_bind ((PySem.W.looks_subIn X e).here ?_)
    simp only [Bool.false_eq_true, if_false]
    refine wpAny_bind (wpAny_mono one (fun r s' z => ?_) fun _ _ e => e)
    obtain ⟨v, rfl, hq⟩ := z
    exact wpAny_pure hq
  · refine wpAny_bind (wpAny_pure ?_)
    simp only [Bool.false_eq_true, if_false]
    refine wpAny_bind (wpAny_mono one (fun r s' z => ?_) fun _ _ e => e)
    obtain ⟨v, rfl, hq⟩ := z
    exact wpAny_pure hq
end
section
variable {X : Cx} {k j : Nat} {C : Addr} {sp : Sp}
theorem run_eqO {A : Around} {pins : List (Addr × Obj)} {σ : L2.St} {H : Hp} {s : Shared} {Q : VK} {f : Addr} {fd : FuncData} {ps : List Str} {a : Addr} {y : V} {u : Value} (F : FnOk X.prog X.w X.K X.mg X.base L2.CX0 k f fd ps sp) (hb : Binds X.K fd ps []) (hr : Room k A) (hfr : A.frames = X.A.frames) (I : Inv X pins σ H s) (ry : RelV y u)
    (h : sp [.ref a, y] H Q L2.E0) : wpAny (model X.prog X.w) A (call (.ref f) [.ref a, u]) (EP X pins σ Q) X.xe s := by
  have e0 : Env0 X.prog X.w X.K X.mg X.base A X.stack s H := by
    have e := I.env0
    exact ⟨by rw [hfr]; exact e.frames, e.mod, e.bs, e.bsz, e.funs, e.frf, e.hok, e.bare⟩
  have hl := F.len _ _ _ _ h
  have r2 : Vals [V.ref a, y] [Value.ref a, u] := .cons rfl (.cons ry .nil)
  refine wpAny_call (codeAny_mono (F.run A X.stack s H ⟨[.ref a, u], []⟩ [.ref a, u] [.ref a, y] Q L2.E0 hr e0 (by
    have := hb s [.ref a, u] I.kIn (by simpa using hl)
    simpa using this) r2 h) fun r s' hq => ?_)
  cases r with
  | error e => exact hq.elim
  | ok fl =>
    cases fl with
    | ret w => exact I.after hq
    | next => exact False.elim hq
    | brk => exact False.elim hq
    | cont => exact False.elim hq
theorem op_eqO (c : EqO X.prog X.w X.K X.mg X.base k C sp) (hr : Room j X.A) (hk : k ≤ j) : OpR X (compareOp .Eq) (rEqO X.K C sp) := by
  intro pins s σ H x y v u Q I rx ry h
  obtain ⟨f, fd, ps, hs, hf, _, _, F, b⟩ := c.ex
  obtain ⟨a, dx, fs, t, rfl, ha, ty, nf, q⟩ := h
  cases rx
  obtain ⟨mA, O, _⟩ := ins_get I.hok ha
  obtain ⟨od, J, _⟩ := O.look
  obtain ⟨m, hF⟩ := I.fr
  obtain ⟨P, kx, hp, _⟩ := kit_ofE I ry ty
  show wpAny (model X.prog X.w) X.A (richCompare .Eq (.ref a) u) (EP X pins σ Q) X.xe s
  refine PySem.W.cmp_K (op := .Eq) (tb := t) hr.units0 hF I.ok.mod.kin J (kx.ty _ _ I.kIn hp) nf hs hf ?_
  refine wpAny_mono (run_eqO F b (hr.mono hk) rfl I ry q) (fun v' s' hv => ?_) fun _ _ e => e
  obtain ⟨z, H', I', rz, r, ez, qz⟩ := hv
  subst ez
  cases rz
  exact ⟨.bl r, H', I', rfl, qz⟩
theorem op_neO (c : EqO X.prog X.w X.K X.mg X.base k C sp) (hr : Room j X.A) (hk : k + 1 ≤ j) : OpR X (compareOp .NotEq) (rNeO X.K C sp) := by
  intro pins s σ H x y v u Q I rx ry h
  obtain ⟨f, fd, ps, hs, hf, hne, hm, F, b⟩ := c.ex
  obtain ⟨a, dx, fs, t, rfl, ha, ty, nf, q⟩ := h
  cases rx
  obtain ⟨mA, O, _⟩ := ins_get I.hok ha
  obtain ⟨od, J, _⟩ := O.look
  obtain ⟨P, kx, hp, _⟩ := kit_ofE I ry ty
  show wpAny (model X.prog X.w) X.A (richCompare .NotEq (.ref a) u) (EP X pins σ Q) X.xe s
  refine ne_K (tb := t) (by have := hr.units; omega) I.kIn J (kx.ty _ _ I.kIn hp) nf hs hf hne hm ?_
  refine wpAny_mono (run_eqO F b (hr.mono hk).in1 rfl I ry q) (fun v' s' hv => ?_) fun _ _ e => e
  obtain ⟨z, H', I', rz, r, ez, qz⟩ := hv
  subst ez
  cases rz
  exact ⟨r, rfl, .bl (!r), H', I', rfl, qz⟩
end

end Bc
namespace Bc
open PySem PySem.Spec PyProof.Rows L2
/-! ### methods and instances called with keywords -/
section
variable {X : Cx} {k j n : Nat} {C : Addr} {m : Str} {sp : Sp} {ks : List Str} {gV : List V → List V → List V} {p pos apos : Pos} {o fe e : Expr} {es : List Expr} {kws : List Keyword} {ta tf : TE} {t tk : TA}
structure MetK (P : Program) (w : World) (K : PySem.W.Frag) (mg : Str → Option Value) (base : Heap) (k : Nat) (C : Addr) (m : Str) (n : Nat) (ks : List Str) (sp : Sp) (gV : List V → List V → List V) : Prop where
  ex : ∃ (f : Addr) (fd : FuncData) (ps : List Str) (g : List Value → List Value → List Value), Cls K C ∧ Meth K C m f ∧ FnOk P w K mg base L2.CX0 k f fd ps sp ∧ KBn K fd ps (n + 1) ks g gV
def tMethK (C : Addr) (m : Str) (n l : Nat) (sp : Sp) (gV : List V → List V → List V) (E : XK) (ta : TE) (t tk : TA) : TE := fun σ H Q => ta σ H fun x H1 => ∃ a dx fs, x = .ref a ∧ H1 a = some (.ins C dx fs) ∧ fs.lookup m = none ∧
  t σ H1 fun vs H2 => tk σ H2 fun zs H3 => vs.length = n ∧ zs.length = l ∧ sp (gV (x :: vs) zs) H3 Q E
theorem pe_mtK0 {pl : Sem Bool} (c : MetK X.prog X.w X.K X.mg X.base k C m 0 ks sp gV) (hr : Room j X.A) (hk : k ≤ j) (he : PE X o ta) (hkw : PK X kws tk)
    (hall : (backToKw pos (keywordEach kws X.env)).all (·.1.isSome) = true := by rfl) (hks : (backToKw pos (keywordEach kws X.env)).filterMap (·.1) = ks := by rfl)
    (hpl : ((backTo pos (starEach [] X.env)).any (·.1) || (backToKw pos (keywordEach kws X.env)).any (·.1.isNone)) = false := by rfl)
    (ht : eval (.Call (.Attribute o m apos) [] kws pos) X.env = (do
      let ov ← eval o X.env
      standAt apos.atName
      let (f, first) ← holding [ov] (getMethod ov m pl)
      callWith pos f first (backTo pos (starEach [] X.env)) (backToKw pos (keywordEach kws X.env))) := by rfl) :
    PE X (.Call (.Attribute o m apos) [] kws pos) (tMethK C m 0 ks.length sp gV L2.E0 ta tNil tk) := by
  obtain ⟨f, fd, ps, g, cl, hm, F, b⟩ := c.ex
  refine ⟨fun pins s σ H Q I h => ?_⟩
  refine PySem.W.methodCall_KW (pl := pl) (thn (he.run pins s σ H _ I h) fun u s1 ⟨x, H1, I1, rx, a, dx, fs, ex, ea, l, q⟩ => ?_) ht
  subst ex
  obtain rfl : u = Value.ref a := rx
  refine getmeth_ok I1 ea cl hm l ?_
  refine PySem.W.callWith_KW0 (first := [.ref a]) (h₀ := X.base) I.ok.mod.kin hm.kp hall ?_ hpl
  refine thn (hkw.run pos pins s1 σ H1 _ I1 q) fun ws s2 ⟨zs, H2, I2, rz, l1, l2, q2⟩ => ⟨I2.kIn, ?_⟩
  rw [hks]
  exact run_fnN (us := [.ref a]) (vs := [.ref a]) F (hr.mono hk) b pass0 I2 (.cons rfl .nil) rz rfl l2 q2
theorem pe_mtK {pl : Sem Bool} (c : MetK X.prog X.w X.K X.mg X.base k C m n ks sp gV) (hr : Room j X.A) (hk : k ≤ j) (he : PE X o ta) (ha : PA X (e :: es) t) (hkw : PK X kws tk)
    (hall : (backToKw pos (keywordEach kws X.env)).all (·.1.isSome) = true := by rfl) (hks : (backToKw pos (keywordEach kws X.env)).filterMap (·.1) = ks := by rfl)
    (hst : starEach (e :: es) X.env = (false, eval e X.env) :: starEach es X.env := by rfl)
    (hpl : ((backTo pos (starEach (e :: es) X.env)).any (·.1) || (backToKw pos (keywordEach kws X.env)).any (·.1.isNone)) = false := by rfl)
    (ht : eval (.Call (.Attribute o m apos) (e :: es) kws pos) X.env = (do
      let ov ← eval o X.env
      standAt apos.atName
      let (f, first) ← holding [ov] (getMethod ov m pl)
      callWith pos f first (backTo pos (starEach (e :: es) X.env)) (backToKw pos (keywordEach kws X.env))) := by rfl) :
    PE X (.Call (.Attribute o m apos) (e :: es) kws pos) (tMethK C m n ks.length sp gV L2.E0 ta t tk) := by
  obtain ⟨f, fd, ps, g, cl, hm, F, b⟩ := c.ex
  refine ⟨fun pins s σ H Q I h => ?_⟩
  refine PySem.W.methodCall_KW (pl := pl) (thn (he.run pins s σ H _ I h) fun u s1 ⟨x, H1, I1, rx, a, dx, fs, ex, ea, l, q⟩ => ?_) ht
  subst ex
  obtain rfl : u = Value.ref a := rx
  refine getmeth_ok I1 ea cl hm l ?_
  refine PySem.W.callWith_KW (first := [.ref a]) (h₀ := X.base) I.ok.mod.kin hm.kp hall (thn (ha.run pos pins s1 σ H1 _ I1 q) fun us s2 ⟨vs, H2, I2, r, q⟩ => ?_) hpl hst
  refine thn (hkw.run pos pins s2 σ H2 _ I2 q) fun ws s3 ⟨zs, H3, I3, rz, l1, l2, q3⟩ => ⟨I3.kIn, ?_⟩
  rw [hks]
  exact run_fnN (us := .ref a :: us) (vs := .ref a :: vs) F (hr.mono hk) b pass0 I3 (.cons rfl r) rz (by rw [List.length_cons, l1]) l2 q3
theorem w_methK {σ : L2.St} {H : Hp} {Q : VK} {l : Nat} {E : XK} (q : ta σ H fun x H1 => ∃ a dx fs, x = .ref a ∧ H1 a = some (.ins C dx fs) ∧ fs.lookup m = none ∧ t σ H1 fun vs H2 => tk σ H2 fun zs H3 => vs.length = n ∧ zs.length = l ∧ sp (gV (x :: vs) zs) H3 Q E) : tMethK C m n l sp gV E ta t tk σ H Q := q
/-! an instance called with keywords alone -/
structure CalOK (P : Program) (w : World) (K : PySem.W.Frag) (mg : Str → Option Value) (base : Heap) (k : Nat) (C : Addr) (ks : List Str) (sp : Sp) (gV : List V → List V → List V) : Prop where
  ex : ∃ (f : Addr) (fd : FuncData) (ps : List Str) (g : List Value → List Value → List Value), StX.CallO K C f ∧ FnOk P w K mg base L2.CX0 k f fd ps sp ∧ KBn K fd ps 1 ks g gV
theorem callO_kw {M : Model} {A : Around} {E : Value → Shared → Prop} {s : Shared} {a : Addr} {pos : Pos} {Q : Value → Shared → Prop} {args : List (Bool × Sem Value)} {kw : List (Option Str × Sem Value)} (hplain : (args.any (·.1) || kw.any (·.1.isNone)) = false)
    (h : wpAny M A (evalArgs (.ref a) true args kw) (fun z s₁ => (∃ C ox od, PySem.W.InstAt s₁.heap a ox C od ∧ ox.data = .plain) ∧ wpAny M A (call (.ref a) ([] ++ z.pos) z.kw) Q E s₁) E s) : wpAny M A (callWith pos (.ref a) [] args kw) Q E s := by
  unfold callWith
  refine wpAny_bind (wpAny_holding (wpAny_mono h (fun z s₁ h₁ => wpAny_bind (wpAny_standAt ?_)) fun _ _ y => y))
  obtain ⟨⟨C, ox, od, J, hd⟩, h₁⟩ := h₁
  have L := PySem.W.kco_keeper (M := M) J hd
  simp only [hplain]
  refine wpAny_bind (L.here ?_)
  have tail : ∀ {t : Sem Value}, wpAny M A t Q E s₁ → wpAny M A (t >>= fun r => holding [r] point >>= fun _ => pure r) Q E s₁ :=
    fun ht => wpAny_bind (wpAny_mono ht (fun r s₂ hr => wpAny_bind (wpAny_holding (wpAny_point (wpAny_pure hr)))) fun _ _ y => y)
  exact tail (wpAny_operateT h₁)
def tCOK (C : Addr) (l : Nat) (sp : Sp) (gV : List V → List V → List V) (E : XK) (tf : TE) (tk : TA) : TE := fun σ H Q => tf σ H fun y H1 => ∃ a, y = V.ref a ∧ tk σ H1 fun zs H2 => zs.length = l ∧ ((∃ dx vs, SlX.Slt H2 a C dx vs) ∨ ∃ dx fs, H2 a = some (.ins C dx fs)) ∧ sp (gV [V.ref a] zs) H2 Q E
theorem pe_cOK (hf : PE X fe tf) (c : CalOK X.prog X.w X.K X.mg X.base k C ks sp gV) (hr : Room j X.A) (hk : k ≤ j) (hkw : PK X kws tk)
    (ht : eval (.Call fe [] kws pos) X.env = (do callWith pos (← eval fe X.env) [] (backTo pos (starEach [] X.env)) (backToKw pos (keywordEach kws X.env))) := by rfl)
    (hall : (backToKw pos (keywordEach kws X.env)).all (·.1.isSome) = true := by rfl) (hks : (backToKw pos (keywordEach kws X.env)).filterMap (·.1) = ks := by rfl)
    (hpl : ((backTo pos (starEach [] X.env)).any (·.1) || (backToKw pos (keywordEach kws X.env)).any (·.1.isNone)) = false := by rfl) : PE X (.Call fe [] kws pos) (tCOK C ks.length sp gV L2.E0 tf tk) := by
  obtain ⟨f, fd, ps, g, cO, F, b⟩ := c.ex
  refine ⟨fun pins s σ H Q I h => ?_⟩
  rw [ht]
  refine wpAny_bind (thn (hf.run pins s σ H _ I h) fun u s1 ⟨y, H1, I1, ry, a, ey, q⟩ => ?_)
  subst ey
  obtain rfl : u = Value.ref a := ry
  refine callO_kw hpl (PyProof.Rows.evalArgs_kw2_nil hall (thn (hkw.run pos pins s1 σ H1 _ I1 q) fun ws s2 ⟨zs, H2, I2, rz, l2, hi, q2⟩ => ?_))
  obtain ⟨ox, od, J, hd⟩ := StX.insC_at I2 hi
  refine ⟨⟨C, ox, od, J, hd⟩, ?_⟩
  rw [hks]
  have r2 : Vals [V.ref a] [Value.ref a] := .cons rfl .nil
  refine wpAny_call (PySem.W.kco_code (a := ⟨[], ks.zip ws⟩) I2.kIn J hd cO.at_ cO.fn cO.fi (codeAny_mono (F.run X.A X.stack s2 H2 ⟨[.ref a], ks.zip ws⟩ (g [.ref a] ws) (gV [.ref a] zs) Q L2.E0 (hr.mono hk) I2.env0 (b.to s2 [.ref a] ws I2.kIn rfl (rz.length.symm.trans l2)) (b.rel r2 rz) q2) fun r s' hq => ?_))
  cases r with
  | error e => exact hq.elim
  | ok fl =>
    cases fl with
    | ret u => exact I2.after hq
    | next => exact False.elim hq
    | brk => exact False.elim hq
    | cont => exact False.elim hq
theorem w_cOK {σ : L2.St} {H : Hp} {Q : VK} {l : Nat} {E : XK} (q : tf σ H fun y H1 => ∃ a, y = V.ref a ∧ tk σ H1 fun zs H2 => zs.length = l ∧ ((∃ dx vs, SlX.Slt H2 a C dx vs) ∨ ∃ dx fs, H2 a = some (.ins C dx fs)) ∧ sp (gV [V.ref a] zs) H2 Q E) : tCOK C l sp gV E tf tk σ H Q := q
end
/-! ### own equality: moduli, markings, ways -/
def eqSty (y y' : Sty) : Bool := decide (y.low = y'.low) && (decide (y.shift = y'.shift) && decide (y.lead = y'.lead))
def spEqMd (K : PySem.W.Frag) (c : CA) : Sp := fun vs H Q _ => ∃ (a : Addr) (v : V) (ps : List (Int × Int)), vs = [.ref a, v] ∧ ModAt c H a ps ∧ ((∃ t, TyE K H v t ∧ PySem.W.kitOne K t (.ref c.md) = some false ∧ Q (.bl false) H) ∨ ∃ (b : Addr) (ps' : List (Int × Int)), v = .ref b ∧ ModAt c H b ps' ∧ Q (.bl (decide (num ps = num ps'))) H)
def spEqMk (K : PySem.W.Frag) (c : CA) : Sp := fun vs H Q _ => ∃ (a : Addr) (v : V) (y : Sty), vs = [.ref a, v] ∧ MkAt c H a y.low y.shift y.lead ∧ ((∃ t, TyE K H v t ∧ PySem.W.kitOne K t (.ref c.kg) = some false ∧ Q (.bl false) H) ∨ ∃ (b : Addr) (y' : Sty), v = .ref b ∧ MkAt c H b y'.low y'.shift y'.lead ∧ ∀ H', Same H H' → Q (.bl (eqSty y y')) H')
def eqWay (b n : Int) (y : Sty) (b' n' : Int) (y' : Sty) : Bool := decide (b = b') && decide (n = n') && eqSty y y'
def spEqWy (K : PySem.W.Frag) (c : CA) : Sp := fun vs H Q _ => ∃ (a : Addr) (v : V) (r : Int) (ps : List (Int × Int)) (y : Sty), vs = [.ref a, v] ∧ WayAt c H a r ps y ∧ ((∃ t, TyE K H v t ∧ PySem.W.kitOne K t (.ref c.wy) = some false ∧ Q (.bl false) H) ∨ ∃ (b : Addr) (r' : Int) (ps' : List (Int × Int)) (y' : Sty), v = .ref b ∧ WayAt c H b r' ps' y' ∧ ∀ H', Same H H' → Q (.bl (eqWay r (num ps) y r' (num ps') y')) H')
theorem notF {K : PySem.W.Frag} {C : Addr} : PySem.W.notFirst K C (.ref C) = true := by simp [PySem.W.notFirst]
theorem notF0 {K : PySem.W.Frag} {C : Addr} {t : Value} (h : PySem.W.subIn K t (.ref C) = some false) : PySem.W.notFirst K C t = true := by
  unfold PySem.W.notFirst
  rw [h]
  simp
section
variable {K : PySem.W.Frag} {mg : Str → Option Value} {c : CA} {H : Hp} {Q : VK} {a b : Addr} {ps ps' : List (Int × Int)} {y y' : Sty} {r r' : Int} {v : V} {t : Value}
theorem eqMd (X : Kx K mg c) (h1 : ModAt c H a ps) (h2 : ModAt c H b ps') (q : Q (.bl (decide (num ps = num ps'))) H) : rEqO K c.md (spEqMd K c) (.ref a) (.ref b) H Q := by
  obtain ⟨dx, tt, ts, hx, _⟩ := id h1
  obtain ⟨dx', tt', ts', hx', _⟩ := id h2
  exact ⟨a, dx, _, _, rfl, hx, .x (X.md.ty hx'), notF, a, .ref b, ps, rfl, h1, .inr ⟨b, ps', rfl, h2, _, rfl, q⟩⟩
theorem eqMdN (h1 : ModAt c H a ps) (ty : TyE K H v t) (nf : PySem.W.notFirst K c.md t = true) (hk : PySem.W.kitOne K t (.ref c.md) = some false) (q : Q (.bl false) H) : rEqO K c.md (spEqMd K c) (.ref a) v H Q := by
  obtain ⟨dx, tt, ts, hx, _⟩ := id h1
  exact ⟨a, dx, _, _, rfl, hx, ty, nf, a, v, ps, rfl, h1, .inl ⟨t, ty, hk, _, rfl, q⟩⟩
theorem neMd (X : Kx K mg c) (h1 : ModAt c H a ps) (h2 : ModAt c H b ps') (q : Q (.bl (!decide (num ps = num ps'))) H) : rNeO K c.md (spEqMd K c) (.ref a) (.ref b) H Q := by
  obtain ⟨dx, tt, ts, hx, _⟩ := id h1
  obtain ⟨dx', tt', ts', hx', _⟩ := id h2
  exact ⟨a, dx, _, _, rfl, hx, .x (X.md.ty hx'), notF, a, .ref b, ps, rfl, h1, .inr ⟨b, ps', rfl, h2, _, rfl, q⟩⟩
theorem eqMk (X : Kx K mg c) (h1 : MkAt c H a y.low y.shift y.lead) (h2 : MkAt c H b y'.low y'.shift y'.lead) (q : ∀ H', Same H H' → Q (.bl (eqSty y y')) H') : rEqO K c.kg (spEqMk K c) (.ref a) (.ref b) H Q := by
  obtain ⟨dx, hx⟩ := id h1
  obtain ⟨dx', hx'⟩ := id h2
  exact ⟨a, dx, _, _, rfl, hx, .x (X.kg.ty hx'), notF, a, .ref b, y, rfl, h1, .inr ⟨b, y', rfl, h2, fun H' s => ⟨_, rfl, q H' s⟩⟩⟩
theorem eqMkN (h1 : MkAt c H a y.low y.shift y.lead) (ty : TyE K H v t) (nf : PySem.W.notFirst K c.kg t = true) (hk : PySem.W.kitOne K t (.ref c.kg) = some false) (q : Q (.bl false) H) : rEqO K c.kg (spEqMk K c) (.ref a) v H Q := by
  obtain ⟨dx, hx⟩ := id h1
  exact ⟨a, dx, _, _, rfl, hx, ty, nf, a, v, y, rfl, h1, .inl ⟨t, ty, hk, _, rfl, q⟩⟩
theorem neMk (X : Kx K mg c) (h1 : MkAt c H a y.low y.shift y.lead) (h2 : MkAt c H b y'.low y'.shift y'.lead) (q : ∀ H', Same H H' → Q (.bl (!eqSty y y')) H') : rNeO K c.kg (spEqMk K c) (.ref a) (.ref b) H Q := by
  obtain ⟨dx, hx⟩ := id h1
  obtain ⟨dx', hx'⟩ := id h2
  exact ⟨a, dx, _, _, rfl, hx, .x (X.kg.ty hx'), notF, a, .ref b, y, rfl, h1, .inr ⟨b, y', rfl, h2, fun H' s => ⟨_, rfl, q H' s⟩⟩⟩
theorem eqWy (X : Kx K mg c) (h1 : WayAt c H a r ps y) (h2 : WayAt c H b r' ps' y') (q : ∀ H', Same H H' → Q (.bl (eqWay r (num ps) y r' (num ps') y')) H') : rEqO K c.wy (spEqWy K c) (.ref a) (.ref b) H Q := by
  obtain ⟨dx, m, k, hx, _⟩ := id h1
  obtain ⟨dx', m', k', hx', _⟩ := id h2
  exact ⟨a, dx, _, _, rfl, hx, .x (X.wy.ty hx'), notF, a, .ref b, r, ps, y, rfl, h1, .inr ⟨b, r', ps', y', rfl, h2, fun H' s => ⟨_, rfl, q H' s⟩⟩⟩
theorem eqWyN (h1 : WayAt c H a r ps y) (ty : TyE K H v t) (nf : PySem.W.notFirst K c.wy t = true) (hk : PySem.W.kitOne K t (.ref c.wy) = some false) (q : Q (.bl false) H) : rEqO K c.wy (spEqWy K c) (.ref a) v H Q := by
  obtain ⟨dx, m, k, hx, _⟩ := id h1
  exact ⟨a, dx, _, _, rfl, hx, ty, nf, a, v, r, ps, y, rfl, h1, .inl ⟨t, ty, hk, _, rfl, q⟩⟩
theorem neWy (X : Kx K mg c) (h1 : WayAt c H a r ps y) (h2 : WayAt c H b r' ps' y') (q : ∀ H', Same H H' → Q (.bl (!eqWay r (num ps) y r' (num ps') y')) H') : rNeO K c.wy (spEqWy K c) (.ref a) (.ref b) H Q := by
  obtain ⟨dx, m, k, hx, _⟩ := id h1
  obtain ⟨dx', m', k', hx', _⟩ := id h2
  exact ⟨a, dx, _, _, rfl, hx, .x (X.wy.ty hx'), notF, a, .ref b, r, ps, y, rfl, h1, .inr ⟨b, r', ps', y', rfl, h2, fun H' s => ⟨_, rfl, q H' s⟩⟩⟩
end
theorem shp_sty (l : Bool) (s : Int) (d : Bool) : SeqAt.shaped (.tuple [.bool l, .int s, .bool d]) = true := by
  show (PyData.canLay0 _ && decide _) = true
  rw [Bool.and_eq_true]
  refine ⟨?_, ?_⟩
  · simp only [PyData.canLay0, PyData.canLayAll0]
    decide +kernel
  · simp [PyData.depth, PyData.depthAll]
theorem shp_two (i j : Int) : SeqAt.shaped (.tuple [.int i, .int j]) = true := by
  show (PyData.canLay0 _ && decide _) = true
  rw [Bool.and_eq_true]
  refine ⟨?_, ?_⟩
  · simp only [PyData.canLay0, PyData.canLayAll0]
    decide +kernel
  · simp [PyData.depth, PyData.depthAll]
theorem eqv_sty (l : Bool) (s : Int) (d l' : Bool) (s' : Int) (d' : Bool) : PyData.eqv (.tuple [.bool l, .int s, .bool d]) (.tuple [.bool l', .int s', .bool d']) = (decide (l = l') && (decide (s = s') && decide (d = d'))) := by
  simp only [PyData.eqv, PyData.eqvAll]
  by_cases h : s = s' <;> cases l <;> cases l' <;> cases d <;> cases d' <;> simp [h]
theorem eqv_two (i j i' j' : Int) : PyData.eqv (.tuple [.int i, .int j]) (.tuple [.int i', .int j']) = (decide (i = i') && decide (j = j')) := by
  simp only [PyData.eqv, PyData.eqvAll]
  by_cases h : i = i' <;> by_cases h' : j = j' <;> simp [h, h']

end Bc
namespace Bc
open PySem PySem.Spec PyProof.Rows L2
/-! ### own operators: len(x), x[i], x[i] = v, x += y, y in x, x | y, x <= y -/
structure OwnM (P : Program) (w : World) (K : PySem.W.Frag) (mg : Str → Option Value) (base : Heap) (CX : CXT) (k : Nat) (C : Addr) (nm : Str) (sp : Sp) : Prop where
  ex : ∃ (f : Addr) (fd : FuncData) (ps : List Str), PySem.W.findIn K (.ref C) nm = some (some (.ref f)) ∧ PySem.W.isFn K (.ref f) = true ∧ PySem.W.fnIn K f = true ∧ FnOk P w K mg base CX k f fd ps sp ∧ Binds K fd ps []
section
variable {X : Cx} {CX : CXT} {k j : Nat} {C f : Addr} {fd : FuncData} {ps : List Str} {sp : Sp} {E : XK}
/-- the def behind an own operator runs -/
theorem run_own {A : Around} {pins : List (Addr × Obj)} {σ : L2.St} {H : Hp} {s : Shared} {Q : VK} {us : List Value} {vs : List V} (F : FnOk X.prog X.w X.K X.mg X.base CX k f fd ps sp) (hb : Binds X.K fd ps []) (hx : PassesAt CX X σ E) (hr : Room k A) (hfr : A.frames = X.A.frames) (I : Inv X pins σ H s) (r : Vals vs us)
    (h : sp vs H Q E) : wpAny (model X.prog X.w) A (call (.ref f) us) (EP X pins σ Q) X.xe s := by
  have e0 : Env0 X.prog X.w X.K X.mg X.base A X.stack s H := by
    have e := I.env0
    exact ⟨by rw [hfr]; exact e.frames, e.mod, e.bs, e.bsz, e.funs, e.frf, e.hok, e.bare⟩
  have hl : us.length = ps.length := by rw [← r.length]; exact F.len _ _ _ _ h
  refine wpAny_call (codeAny_mono (F.run A X.stack s H ⟨us, []⟩ us vs Q E hr e0 (by
    have := hb s us I.kIn (by simpa using hl)
    simpa using this) r h) fun rr s' hq => ?_)
  cases rr with
  | error e => exact hx pins H s e s' I hq
  | ok fl =>
    cases fl with
    | ret w => exact I.after hq
    | next => exact False.elim hq
    | brk => exact False.elim hq
    | cont => exact False.elim hq
theorem ex0 (σ : L2.St) : PassesAt (L2.CX X.prog X.w) X σ L2.E0 := fun pins H s e s' I h => passL pins σ H s e s' I h
theorem exL (tk : Takes X (fun cls d _ H => E cls d H)) (σ : L2.St) : PassesAt (L2.CX X.prog X.w) X σ E := passAt tk σ
theorem ex00 (σ : L2.St) : PassesAt L2.CX0 X σ L2.E0 := fun _ _ _ _ _ _ h => h.elim
/-! x[i] -/
def rIxO (C : Addr) (sp : Sp) (E : XK) : R2 := fun x y H Q => ∃ a dx fs, x = .ref a ∧ H a = some (.ins C dx fs) ∧ sp [x, y] H Q E
theorem pe_ixO {a b : Expr} {pos : Pos} {ta tb : TE} (c : OwnM X.prog X.w X.K X.mg X.base CX k C "__getitem__" sp) (hx : ∀ σ, PassesAt CX X σ E) (hr : Room j X.A) (hk : k + 1 ≤ j) (ha : PE X a ta) (hb : PE X b tb)
    (hs : ∀ o i, subscripted b true o i = runValue (.builtin "lifetime.subscript" ⟨[o, i], []⟩)) : PE X (.Subscript a b pos) (tOp (rIxO C sp E) ta tb) := by
  refine ⟨fun pins s σ H Q I h => ?_⟩
  refine Subscript_ (binT ha hb I h fun v u s2 x y H2 I2 rx ry q => ?_)
  obtain ⟨f, fd, ps, hs', hf, hfn, F, bb⟩ := c.ex
  obtain ⟨a, dx, fs, rfl, ha, q⟩ := q
  obtain rfl : v = Value.ref a := rx
  obtain ⟨mA, O, _⟩ := ins_get I2.hok ha
  obtain ⟨od, J, _⟩ := O.look
  obtain ⟨m, hF⟩ := I2.fr
  exact PySem.W.sub_K hF I2.ok.mod.kin J hs' hfn hf (run_own F bb (hx σ) (hr.mono hk).in1 rfl I2 (show Vals [V.ref a, y] [Value.ref a, u] from .cons rfl (.cons ry .nil)) q) (hs _ _)
/-! x[i] = v -/
def tSetO (C : Addr) (sp : Sp) (E : XK) : TSet := fun o i v H Q => ∃ a dx fs, o = .ref a ∧ H a = some (.ins C dx fs) ∧ sp [o, i, v] H (fun _ H' => Q H') E
theorem set_own (c : OwnM X.prog X.w X.K X.mg X.base CX k C "__setitem__" sp) (hq : PySem.W.noSeq X.K C = true) (hx : ∀ σ, PassesAt CX X σ E) (hr : Room j X.A) (hk : k ≤ j) : PSet X (tSetO C sp E) := by
  intro pins s σ H o i v ov iv u Q I ro ri rv h
  obtain ⟨f, fd, ps, hs, hf, hfn, F, b⟩ := c.ex
  obtain ⟨a, dx, fs, rfl, ha, q⟩ := h
  obtain rfl : ov = Value.ref a := ro
  obtain ⟨mA, O, _⟩ := ins_get I.hok ha
  obtain ⟨od, J, _⟩ := O.look
  obtain ⟨m, hF⟩ := I.fr
  refine PySem.W.ksp_setItem hF I.ok.mod.kin J hq hs hf ?_
  refine wpAny_mono (run_own F b (hx σ) (hr.mono hk) rfl I (show Vals [V.ref a, i, v] [Value.ref a, iv, u] from .cons rfl (.cons ri (.cons rv .nil))) q) (fun v' s' hv => ?_) fun _ _ e => e
  obtain ⟨z, H', I', rz, hq'⟩ := hv
  exact ⟨H', I', hq'⟩
/-! len(x) -/
def rLenO (C : Addr) (sp : Sp) (E : XK) : List V → Hp → VK → Prop := fun xs H Q => ∃ a dx fs, xs = [.ref a] ∧ H a = some (.ins C dx fs) ∧ sp xs H (fun v H' => ∃ n : Nat, v = .int n ∧ n < 2 ^ 60 ∧ Q v H') E
theorem call_lenO (c : OwnM X.prog X.w X.K X.mg X.base CX k C "__len__" sp) (hx : ∀ σ, PassesAt CX X σ E) (hr : Room j X.A) (hk : k + 1 ≤ j) : CallR X (.builtin "len") (rLenO C sp E) := by
  intro pins s σ H xs us Q I r h
  obtain ⟨f, fd, ps, hs, hf, hfn, F, b⟩ := c.ex
  obtain ⟨a, dx, fs, rfl, ha, q⟩ := h
  cases r with
  | cons rx rr =>
    cases rr
    obtain rfl : _ = Value.ref a := rx
    obtain ⟨mA, O, _⟩ := ins_get I.hok ha
    obtain ⟨od, J, _⟩ := O.look
    obtain ⟨m, hF⟩ := I.fr
    refine PySem.W.len_K hF I.ok.mod.kin J hs hf ?_
    refine wpAny_mono (run_own F b (hx σ) (hr.mono hk).in1 rfl I (show Vals [V.ref a] [Value.ref a] from .cons rfl .nil) q) (fun v' s' hv => ?_) fun _ _ e => e
    obtain ⟨z, H', I', rz, n, rfl, hn, hq⟩ := hv
    obtain ⟨t, rfl⟩ := rz
    refine ⟨⟨by omega, by omega⟩, .int n, H', I'.kept (t' := s'.toks + 1) fun _ _ z => z, ⟨_, rfl⟩, hq⟩
/-! x += y -/
def tIpO (C : Addr) (sp : Sp) (E : XK) : TIp := fun x y H Q => ∃ a dx fs, x = .ref a ∧ H a = some (.ins C dx fs) ∧ sp [x, y] H (fun v H' => (∃ b, v = .ref b) ∧ Q v H') E
theorem ip_own {op : Operator} {nm : Str} (hnm : dunderI op.info.2 = nm) (c : OwnM X.prog X.w X.K X.mg X.base CX k C nm sp) (hq : PySem.W.selfFirst X.K C = true) (hx : ∀ σ, PassesAt CX X σ E) (hr : Room j X.A) (hk : k ≤ j) : PIp X op (tIpO C sp E) := by
  subst hnm
  intro pins s σ H x y v u Q I rx ry h
  obtain ⟨f, fd, ps, hs, hf, hfn, F, b⟩ := c.ex
  obtain ⟨a, dx, fs, rfl, ha, q⟩ := h
  obtain rfl : v = Value.ref a := rx
  obtain ⟨mA, O, _⟩ := ins_get I.hok ha
  obtain ⟨od, J, _⟩ := O.look
  obtain ⟨m, hF⟩ := I.fr
  refine PySem.W.ksp_inplace hF I.ok.mod.kin J hq hs hf ?_
  refine wpAny_mono (run_own F b (hx σ) (hr.mono hk) rfl I (show Vals [V.ref a, y] [Value.ref a, u] from .cons rfl (.cons ry .nil)) q) (fun v' s' hv => ?_) fun _ _ e => e
  obtain ⟨z, H', I', rz, ⟨b', rfl⟩, hq'⟩ := hv
  obtain rfl : v' = Value.ref b' := rz
  exact ⟨.ref b', H', I', rfl, hq'⟩
/-! y in x -/
def rInO (C : Addr) (sp : Sp) (E : XK) (neg : Bool) : R2 := fun y x H Q => ∃ a dx fs, x = .ref a ∧ H a = some (.ins C dx fs) ∧ sp [x, y] H (fun v H' => ∃ b, v = .bl b ∧ Q (.bl (xor neg b)) H') E
theorem op_inO (c : OwnM X.prog X.w X.K X.mg X.base CX k C "__contains__" sp) (hx : ∀ σ, PassesAt CX X σ E) (hr : Room j X.A) (hk : k ≤ j) : OpR X (compareOp .In) (rInO C sp E false) := by
  intro pins s σ H y x u v Q I ry rx h
  obtain ⟨f, fd, ps, hs, hf, hfn, F, b⟩ := c.ex
  obtain ⟨a, dx, fs, rfl, ha, q⟩ := h
  obtain rfl : v = Value.ref a := rx
  obtain ⟨mA, O, _⟩ := ins_get I.hok ha
  obtain ⟨od, J, _⟩ := O.look
  obtain ⟨m, hF⟩ := I.fr
  refine PySem.W.in_K hF I.ok.mod.kin J hs hf ?_
  refine wpAny_mono (run_own F b (hx σ) (hr.mono hk) rfl I (show Vals [V.ref a, y] [Value.ref a, u] from .cons rfl (.cons ry .nil)) q) (fun v' s' hv => ?_) fun _ _ e => e
  obtain ⟨z, H', I', rz, b', rfl, hq'⟩ := hv
  obtain rfl : v' = Value.bool b' := rz
  exact wpAny_truthy_bool ⟨.bl b', H', I', rfl, by rw [Bool.false_xor] at hq'; exact hq'⟩
theorem op_notInO (c : OwnM X.prog X.w X.K X.mg X.base CX k C "__contains__" sp) (hx : ∀ σ, PassesAt CX X σ E) (hr : Room j X.A) (hk : k ≤ j) : OpR X (compareOp .NotIn) (rInO C sp E true) := by
  intro pins s σ H y x u v Q I ry rx h
  obtain ⟨f, fd, ps, hs, hf, hfn, F, b⟩ := c.ex
  obtain ⟨a, dx, fs, rfl, ha, q⟩ := h
  obtain rfl : v = Value.ref a := rx
  obtain ⟨mA, O, _⟩ := ins_get I.hok ha
  obtain ⟨od, J, _⟩ := O.look
  obtain ⟨m, hF⟩ := I.fr
  refine PySem.W.notIn_K hF I.ok.mod.kin J hs hf ?_
  refine wpAny_mono (run_own F b (hx σ) (hr.mono hk) rfl I (show Vals [V.ref a, y] [Value.ref a, u] from .cons rfl (.cons ry .nil)) q) (fun v' s' hv => ?_) fun _ _ e => e
  obtain ⟨z, H', I', rz, b', rfl, hq'⟩ := hv
  obtain rfl : v' = Value.bool b' := rz
  exact wpAny_truthy_bool ⟨.bl (!b'), H', I', rfl, by rw [Bool.true_xor] at hq'; exact hq'⟩
/-! x | y, both of the class -/
def rBinO (C : Addr) (sp : Sp) (E : XK) : R2 := fun x y H Q => ∃ a dx fs b dy gs, x = .ref a ∧ y = .ref b ∧ H a = some (.ins C dx fs) ∧ H b = some (.ins C dy gs) ∧ sp [x, y] H (fun v H' => (∃ b, v = .ref b) ∧ Q v H') E
theorem op_binO {op : Operator} {nm : Str} (hnm : PySem.dunder op.info.2 = nm) (c : OwnM X.prog X.w X.K X.mg X.base CX k C nm sp) (hq : PySem.W.selfFirst X.K C = true) (hx : ∀ σ, PassesAt CX X σ E) (hr : Room j X.A) (hk : k ≤ j) : OpR X (binaryOp op) (rBinO C sp E) := by
  subst hnm
  intro pins s σ H x y v u Q I rx ry h
  obtain ⟨f, fd, ps, hs, hf, hfn, F, b⟩ := c.ex
  obtain ⟨a, dx, fs, b2, dy, gs, rfl, rfl, ha, hb2, q⟩ := h
  obtain rfl : v = Value.ref a := rx
  obtain rfl : u = Value.ref b2 := ry
  obtain ⟨mA, O, _⟩ := ins_get I.hok ha
  obtain ⟨od, J, _⟩ := O.look
  obtain ⟨mB, O2, _⟩ := ins_get I.hok hb2
  obtain ⟨od2, J2, _⟩ := O2.look
  obtain ⟨m, hF⟩ := I.fr
  refine PySem.W.binop_K hF I.ok.mod.kin J J2.type hq hs hf ?_
  refine wpAny_mono (run_own F b (hx σ) (hr.mono hk) rfl I (show Vals [V.ref a, V.ref b2] [Value.ref a, Value.ref b2] from .cons rfl (.cons rfl .nil)) q) (fun v' s' hv => ?_) fun _ _ e => e
  obtain ⟨z, H', I', rz, ⟨b', rfl⟩, hq'⟩ := hv
  obtain rfl : v' = Value.ref b' := rz
  exact ⟨.ref b', H', I', rfl, hq'⟩
/-! x <= y and such -/
def rCmpO (K : PySem.W.Frag) (C : Addr) (sp : Sp) (E : XK) : R2 := fun x y H Q => ∃ a dx fs t, x = .ref a ∧ H a = some (.ins C dx fs) ∧ TyE K H y t ∧ PySem.W.notFirst K C t = true ∧ sp [x, y] H (fun v H' => ∃ b, v = .bl b ∧ Q v H') E
theorem op_cmpO {op : CmpOp} {nm : Str} (hnm : (cmpInfo op).2.1 = nm) (hop : compareOp op = richCompare op) (c : OwnM X.prog X.w X.K X.mg X.base CX k C nm sp) (hx : ∀ σ, PassesAt CX X σ E) (hr : Room j X.A) (hk : k ≤ j) : OpR X (compareOp op) (rCmpO X.K C sp E) := by
  subst hnm
  intro pins s σ H x y v u Q I rx ry h
  obtain ⟨f, fd, ps, hs, hf, hfn, F, b⟩ := c.ex
  obtain ⟨a, dx, fs, t, rfl, ha, ty, nf, q⟩ := h
  obtain rfl : v = Value.ref a := rx
  obtain ⟨mA, O, _⟩ := ins_get I.hok ha
  obtain ⟨od, J, _⟩ := O.look
  obtain ⟨m, hF⟩ := I.fr
  obtain ⟨P, kx, hp, _⟩ := kit_ofE I ry ty
  rw [hop]
  refine PySem.W.cmp_K (tb := t) hr.units0 hF I.ok.mod.kin J (kx.ty _ _ I.kIn hp) nf hs hf ?_
  refine wpAny_mono (run_own F b (hx σ) (hr.mono hk) rfl I (show Vals [V.ref a, y] [Value.ref a, u] from .cons rfl (.cons ry .nil)) q) (fun v' s' hv => ?_) fun _ _ e => e
  obtain ⟨z, H', I', rz, b', rfl, hq'⟩ := hv
  obtain rfl : v' = Value.bool b' := rz
  exact ⟨.bl b', H', I', rfl, hq'⟩
end
section
variable {X : Cx} {k j : Nat} {C : Addr} {m : Str} {sp : Sp} {dvs : List V} {o : Expr} {pos apos : Pos} {ta : TE} {W : WX}
theorem pe_mtX0 {pl : Sem Bool} (c : MetX X.prog X.w X.K X.mg X.base k C m sp dvs) (hr : Room j X.A) (hk : k ≤ j) (tk : Takes X W) (he : PE X o ta)
    (ht : eval (.Call (.Attribute o m apos) [] [] pos) X.env = (do
      let ov ← eval o X.env
      standAt apos.atName
      let (f, first) ← holding [ov] (getMethod ov m pl)
      callWith pos f first (backTo pos (starEach [] X.env)) (backToKw pos (keywordEach [] X.env))) := by rfl) :
    PE X (.Call (.Attribute o m apos) [] [] pos) (tMethSD C m sp dvs (WE W) ta tNil) := by
  obtain ⟨f, fd, ps, ds, cl, hm, F, b, d⟩ := c.ex
  refine ⟨fun pins s σ H Q I h => ?_⟩
  refine PySem.W.methodCall_KW (pl := pl) (thn (he.run pins s σ H _ I h) fun u s1 ⟨x, H1, I1, rx, a, dx, fs, ex, ea, l, q⟩ => ?_) ht
  subst ex
  obtain rfl : u = Value.ref a := rx
  refine getmeth_ok I1 ea cl hm l ?_
  exact PySem.W.callWith_K0 (first := [.ref a]) I1.kIn hm.kp (run_fnSD (us := [.ref a]) (vs := [.ref a]) (E := WE W) F (hr.mono hk) b d (passAt tk σ) I1 (.cons rfl .nil) q)
theorem pe_mtL0 {pl : Sem Bool} (c : MetX X.prog X.w X.K X.mg X.base k C m sp dvs) (hr : Room j X.A) (hk : k ≤ j) (he : PE X o ta)
    (ht : eval (.Call (.Attribute o m apos) [] [] pos) X.env = (do
      let ov ← eval o X.env
      standAt apos.atName
      let (f, first) ← holding [ov] (getMethod ov m pl)
      callWith pos f first (backTo pos (starEach [] X.env)) (backToKw pos (keywordEach [] X.env))) := by rfl) :
    PE X (.Call (.Attribute o m apos) [] [] pos) (tMeth C m sp dvs L2.E0 ta tNil) := by
  obtain ⟨f, fd, ps, ds, cl, hm, F, b, d⟩ := c.ex
  exact pe_meth0 he cl hm F (hr.mono hk) b d passL ht
end
/-! a property -/
structure PropM (P : Program) (w : World) (K : PySem.W.Frag) (mg : Str → Option Value) (base : Heap) (CX : CXT) (k : Nat) (C : Addr) (nm : Str) (sp : Sp) : Prop where
  ex : ∃ (p g : Addr) (fd : FuncData) (ps : List Str), Cls K C ∧ PropOf K C nm p g ∧ FnOk P w K mg base CX k g fd ps sp ∧ Binds K fd ps []
section
variable {X : Cx} {CX : CXT} {k j : Nat} {C : Addr} {sp : Sp} {E : XK} {e : Expr} {pos : Pos} {ta : TE} {f : Str}
theorem pass00 : Passes L2.CX0 X L2.E0 := fun _ _ _ _ _ _ _ h => h.elim
theorem pe_propO (c : PropM X.prog X.w X.K X.mg X.base CX k C f sp) (hx : Passes CX X.nox E) (hr : Room j X.A) (hk : k + 1 ≤ j) (he : PE X e ta) (hab : attributeBase e f X.env (eval e X.env) = eval e X.env) : PE X (.Attribute e f pos) (tProp C sp [] E ta) := by
  obtain ⟨p, g, fd, ps, cl, hp, F, b⟩ := c.ex
  exact pe_prop he cl hp F (hr.mono hk) b .nil hx hab
end
/-! xs == [], any things in the list -/
def rEqE (K : PySem.W.Frag) : R2 := fun x y H Q => ∃ p q xs, x = .ref p ∧ y = .ref q ∧ SqL K H p xs ∧ SqL K H q [] ∧ Q (.bl xs.isEmpty) H
def rNeE (K : PySem.W.Frag) : R2 := fun x y H Q => ∃ p q xs, x = .ref p ∧ y = .ref q ∧ SqL K H p xs ∧ SqL K H q [] ∧ Q (.bl (!xs.isEmpty)) H
section
variable {X : Cx} {pins : List (Addr × Obj)} {σ : L2.St} {H : Hp} {s : Shared}
theorem op_eqE (hu : X.A.units + 64 < cLine) : OpR X (compareOp .Eq) (rEqE X.K) := by
  intro pins s σ H x y v u Q I rx ry h
  obtain ⟨p, q, xs, rfl, rfl, hx, hy, k⟩ := h
  cases rx
  cases ry
  cases xs with
  | nil => exact rc_lists (F := fun _ _ => False) I hx hy .nil (by omega) (fun _ _ _ _ h _ _ => h.elim) X.prog X.w _ _ ⟨.bl true, H, I, rfl, k⟩
  | cons z zs =>
    obtain ⟨is, r1, ⟨o1, n1, e1, c1, _, d1⟩, _⟩ := I.list hx
    obtain ⟨js, r2, ⟨o2, n2, e2, c2, _, d2⟩, _⟩ := I.list hy
    have l1 := r1.length
    have l2 := r2.length
    exact PySem.SeqAt.RcAt.lists_lengths ⟨o1, e1, c1, n1, d1⟩ ⟨o2, e2, c2, n2, d2⟩ (by simp only [List.size_toArray, List.length_cons, List.length_nil] at *; simp; omega) (by omega) X.prog X.w _ _ ⟨.bl false, H, I, rfl, k⟩
theorem op_neE (hu : X.A.units + 64 < cLine) : OpR X (compareOp .NotEq) (rNeE X.K) := by
  intro pins s σ H x y v u Q I rx ry h
  obtain ⟨p, q, xs, rfl, rfl, hx, hy, k⟩ := h
  cases rx
  cases ry
  cases xs with
  | nil => exact rcn_lists (F := fun _ _ => False) I hx hy .nil (by omega) (fun _ _ _ _ h _ _ => h.elim) X.prog X.w _ _ ⟨.bl false, H, I, rfl, k⟩
  | cons z zs =>
    obtain ⟨is, r1, ⟨o1, n1, e1, c1, _, d1⟩, _⟩ := I.list hx
    obtain ⟨js, r2, ⟨o2, n2, e2, c2, _, d2⟩, _⟩ := I.list hy
    have l1 := r1.length
    have l2 := r2.length
    exact PySem.SeqAt.RcNeAt.lists_lengths ⟨o1, e1, c1, n1, d1⟩ ⟨o2, e2, c2, n2, d2⟩ (by simp only [List.size_toArray, List.length_cons, List.length_nil] at *; simp; omega) (by omega) X.prog X.w _ _ ⟨.bl true, H, I, rfl, k⟩
end
theorem w_eqE {K : PySem.W.Frag} {H : Hp} {p q : Addr} {xs : List V} {Q : VK} (h1 : SqL K H p xs) (h2 : SqL K H q []) (k : Q (.bl xs.isEmpty) H) : rEqE K (.ref p) (.ref q) H Q := ⟨p, q, xs, rfl, rfl, h1, h2, k⟩
theorem w_neE {K : PySem.W.Frag} {H : Hp} {p q : Addr} {xs : List V} {Q : VK} (h1 : SqL K H p xs) (h2 : SqL K H q []) (k : Q (.bl (!xs.isEmpty)) H) : rNeE K (.ref p) (.ref q) H Q := ⟨p, q, xs, rfl, rfl, h1, h2, k⟩
theorem w_ifJq {c : TT} {t u : TS} {D : Ends} {σ : L2.St} {H : Hp} (R : L2.St → Hp → Prop) (rest : ∀ σ' H', R σ' H' → D.nx σ' H') (h : ∀ N : L2.St → Hp → Prop, (∀ σ' H', R σ' H' → N σ' H') → tIfS c t u { D with nx := N } σ H) : tIfS c t u D σ H := h D.nx rest
theorem w_prop {C : Addr} {sp : Sp} {dvs : List V} {E : XK} {ta : TE} {σ : L2.St} {H : Hp} {Q : VK} (q : ta σ H fun x H1 => ∃ a dx fs, x = .ref a ∧ H1 a = some (.ins C dx fs) ∧ sp (.ref a :: dvs) H1 Q E) : tProp C sp dvs E ta σ H Q := q
theorem w_catTp {K : PySem.W.Frag} {H : Hp} {a b : Addr} {xs ys : List V} {Q : VK} (h1 : H a = some (.tup xs)) (h2 : SqT K H b ys) (hx : xs ≠ []) (hz : xs.length + ys.length ≤ sizeLine) (q : ∀ p H', Same H H' → H' p = some (.tup (xs ++ ys)) → Q (.ref p) H') : rCatT K (.ref a) (.ref b) H Q :=
  ⟨a, b, xs, ys, rfl, rfl, sqt h1, h2, hx, hz, fun e => q a H (Same.refl _) (by rw [e, List.append_nil]; exact h1), fun _ p np => q p _ (Same.new np) upd_same⟩

end Bc
namespace Bc
open PySem PySem.Spec PyProof.Rows L2
/-! ### pieces refused -/
structure ES where
  wy : Addr
  mr : Addr
  ln : Addr
  pl : Addr
  lt : Addr
  un : Addr
  oth : Addr
def WayB (K : PySem.W.Frag) (c : CA) (H : Hp) (v : V) : Prop := ∃ t, TyX K H v t ∧ PySem.W.kitOne K t (.ref c.wy) = some false
def NumB (K : PySem.W.Frag) (H : Hp) (C : Int → Prop) (v : V) : Prop := IntB K H v false ∨ ∃ m, v = .int m ∧ ¬ C m
def WayC (K : PySem.W.Frag) (c : CA) (H : Hp) (v : V) (er : Prop) (go : Addr → Int → List (Int × Int) → Sty → Prop) : Prop := (WayB K c H v ∧ er) ∨ ∃ x b ps y, v = .ref x ∧ WayAt c H x b ps y ∧ go x b ps y
def NumC (K : PySem.W.Frag) (H : Hp) (C : Int → Prop) (v : V) (er : Prop) (go : Int → Prop) : Prop := (NumB K H C v ∧ er) ∨ ∃ m, v = .int m ∧ C m ∧ go m
theorem WayC.imp {K : PySem.W.Frag} {c : CA} {H : Hp} {v : V} {er : Prop} {go go' : Addr → Int → List (Int × Int) → Sty → Prop} (h : WayC K c H v er go) (f : ∀ x b ps y, v = .ref x → WayAt c H x b ps y → go x b ps y → go' x b ps y) : WayC K c H v er go' := by
  rcases h with h | ⟨x, b, ps, y, e, hw, g⟩
  · exact .inl h
  · exact .inr ⟨x, b, ps, y, e, hw, f x b ps y e hw g⟩
theorem NumC.imp {K : PySem.W.Frag} {H : Hp} {C : Int → Prop} {v : V} {er : Prop} {go go' : Int → Prop} (h : NumC K H C v er go) (f : ∀ m, v = .int m → C m → go m → go' m) : NumC K H C v er go' := by
  rcases h with h | ⟨m, e, hc, g⟩
  · exact .inl h
  · exact .inr ⟨m, e, hc, f m e hc g⟩
def mkC (n : Int) : Int → Prop := fun m => 0 ≤ m ∧ m < n
def lnC : Int → Prop := fun m => 0 ≤ m
def ltC : Int → Prop := fun _ => True
def plC (f l : Int) : Int → Prop := fun m => f ≤ m ∧ m ≤ l
def spReqWayX (K : PySem.W.Frag) (c : CA) (e : ES) : Sp := fun vs H Q E => ∃ v, vs = [v] ∧ WayC K c H v (ErrTo E e.wy "thing" v H) fun _ _ _ _ => Q .non H
def spReqMarkX (K : PySem.W.Frag) (c : CA) (e : ES) : Sp := fun vs H Q E => ∃ x b ps y v, vs = [.ref x, v] ∧ WayAt c H x b ps y ∧ NumC K H (mkC (num ps)) v (ErrTo E e.mr "mark" v H) fun _ => Q .non H
def spReqLenX (K : PySem.W.Frag) (e : ES) : Sp := fun vs H Q E => ∃ v, vs = [v] ∧ NumC K H lnC v (ErrTo E e.ln "length" v H) fun _ => Q .non H
def spReqPlaceX (K : PySem.W.Frag) (e : ES) : Sp := fun vs H Q E => ∃ v f l, vs = [v, .int f, .int l] ∧ NumC K H (plC f l) v (ErrTo E e.pl "place" v H) fun _ => Q .non H
def spReqLetterX (K : PySem.W.Frag) (e : ES) : Sp := fun vs H Q E => ∃ v, vs = [v] ∧ NumC K H ltC v (ErrTo E e.lt "thing" v H) fun _ => Q .non H
def PcC (K : PySem.W.Frag) (c : CA) (e : ES) (H : Hp) (E : XK) (v1 v2 v3 v4 v5 : V) (go : Addr → Int → List (Int × Int) → Sty → Int → Int → Int → Int → Prop) : Prop :=
  WayC K c H v1 (ErrTo E e.wy "thing" v1 H) fun x b ps y => NumC K H (mkC (num ps)) v2 (ErrTo E e.mr "mark" v2 H) fun m => NumC K H (mkC (num ps)) v3 (ErrTo E e.mr "mark" v3 H) fun k =>
    NumC K H lnC v4 (ErrTo E e.ln "length" v4 H) fun i => NumC K H lnC v5 (ErrTo E e.ln "length" v5 H) fun j => go x b ps y m k i j
theorem PcC.imp {K : PySem.W.Frag} {c : CA} {e : ES} {H : Hp} {E : XK} {v1 v2 v3 v4 v5 : V} {go go' : Addr → Int → List (Int × Int) → Sty → Int → Int → Int → Int → Prop} (h : PcC K c e H E v1 v2 v3 v4 v5 go)
    (f : ∀ x b ps y m k i j, v1 = .ref x → v2 = .int m → v3 = .int k → v4 = .int i → v5 = .int j → WayAt c H x b ps y → (0 ≤ m ∧ m < num ps) → (0 ≤ k ∧ k < num ps) → 0 ≤ i → 0 ≤ j → go x b ps y m k i j → go' x b ps y m k i j) : PcC K c e H E v1 v2 v3 v4 v5 go' :=
  WayC.imp h fun x b ps y e1 hw h => NumC.imp h fun m e2 hm h => NumC.imp h fun k e3 hk h => NumC.imp h fun i e4 hi h => NumC.imp h fun j e5 hj h => f x b ps y m k i j e1 e2 e3 e4 e5 hw hm hk hi hj h
def spReqPiecesX (K : PySem.W.Frag) (c : CA) (e : ES) : Sp := fun vs H Q E => ∃ v1 v2 v3 v4 v5, vs = [v1, v2, v3, v4, v5] ∧ PcC K c e H E v1 v2 v3 v4 v5 fun _ _ _ _ _ _ _ _ => Q .non H
def fit (n i j : Int) : Prop := n.natAbs < 2 ^ 8000 ∧ i < 2 ^ 40 ∧ j < 2 ^ 40
def spJoinX (K : PySem.W.Frag) (c : CA) (e : ES) : Sp := fun vs H Q E => ∃ v1 v2 v3 v4 v5, vs = [v1, v2, v3, v4, v5] ∧ PcC K c e H E v1 v2 v3 v4 v5 fun _ _ ps _ _ _ i j => fit (num ps) i j ∧ ∀ r, Q (.int r) H
def OpR' (y : Sty) (b n i j : Int) : Prop := j ≠ 0 ∧ y.low = true ∧ Int.gcd (b ^ i.toNat % n) n ≠ 1
def OpL' (y : Sty) (b n i j : Int) : Prop := i ≠ 0 ∧ y.low = false ∧ Int.gcd (b ^ j.toNat % n) n ≠ 1
def spRightY (K : PySem.W.Frag) (c : CA) (e : ES) : Sp := fun vs H Q E => ∃ v1 v2 v3 v4 v5, vs = [v1, v2, v3, v4, v5] ∧ PcC K c e H E v1 v2 v3 v4 v5 fun _ b ps y _ _ i j => fit (num ps) i j ∧ (OpR' y b (num ps) i j → ErrTo E e.un "length" (.int i) H) ∧ (¬ OpR' y b (num ps) i j → ∀ r H', Same H H' → Q (.int r) H')
def spLeftY (K : PySem.W.Frag) (c : CA) (e : ES) : Sp := fun vs H Q E => ∃ v1 v2 v3 v4 v5, vs = [v1, v2, v3, v4, v5] ∧ PcC K c e H E v1 v2 v3 v4 v5 fun _ b ps y _ _ i j => fit (num ps) i j ∧ (OpL' y b (num ps) i j → ErrTo E e.un "length" (.int j) H) ∧ (¬ OpL' y b (num ps) i j → ∀ r H', Same H H' → Q (.int r) H')
def spChgY (K : PySem.W.Frag) (c : CA) (e : ES) : Sp := fun vs H Q E => ∃ v1 v2 v3 v4 v5 v6, vs = [v1, v2, v3, v4, v5, v6] ∧ WayC K c H v1 (ErrTo E e.wy "thing" v1 H) fun _ _ ps _ => NumC K H (mkC (num ps)) v2 (ErrTo E e.mr "mark" v2 H) fun _ => NumC K H lnC v3 (ErrTo E e.ln "length" v3 H) fun L =>
  NumC K H (plC 0 (L - 1)) v4 (ErrTo E e.pl "place" v4 H) fun _ => NumC K H ltC v5 (ErrTo E e.lt "thing" v5 H) fun o => NumC K H ltC v6 (ErrTo E e.lt "thing" v6 H) fun z => ((num ps).natAbs < 2 ^ 8000 ∧ L < 2 ^ 40 ∧ o.natAbs < 2 ^ 1000 ∧ z.natAbs < 2 ^ 1000) ∧ ∀ r, Q (.int r) H
def OpN' (y : Sty) (b n L : Int) : Prop := y.low = true ∧ L ≠ 1 ∧ Int.gcd b n ≠ 1
def spRollY (K : PySem.W.Frag) (c : CA) (e : ES) : Sp := fun vs H Q E => ∃ v1 v2 v3 v4 v5, vs = [v1, v2, v3, v4, v5] ∧ WayC K c H v1 (ErrTo E e.wy "thing" v1 H) fun _ b ps y => NumC K H (mkC (num ps)) v2 (ErrTo E e.mr "mark" v2 H) fun _ => NumC K H lnC v3 (ErrTo E e.ln "length" v3 H) fun L =>
  (L = 0 → ErrTo E e.ln "length" (.int L) H) ∧ (L ≠ 0 → NumC K H ltC v4 (ErrTo E e.lt "thing" v4 H) fun o => NumC K H ltC v5 (ErrTo E e.lt "thing" v5 H) fun z => ((num ps).natAbs < 2 ^ 8000 ∧ L < 2 ^ 40 ∧ o.natAbs < 2 ^ 1000 ∧ z.natAbs < 2 ^ 1000 ∧ y.shift.natAbs < 2 ^ 1000) ∧
    (OpN' y b (num ps) L → ErrTo E e.un "length" (.int L) H) ∧ (¬ OpN' y b (num ps) L → ∀ r H', Same H H' → Q (.int r) H'))
def Ask (K : PySem.W.Frag) (c : CA) (e : ES) (k : Nat) : Sp := match k with
  | 0 => spJoinX K c e
  | 1 => spRightY K c e
  | 2 => spLeftY K c e
  | 3 => spChgY K c e
  | _ => spRollY K c e
def spAsked (K : PySem.W.Frag) (c : CA) (e : ES) : Sp := fun vs H Q E => ∃ (k : Nat) (l : Addr) (xs : List V), vs = [.int k, .ref l] ∧ k < 5 ∧ H l = some (.lst xs) ∧ Ask K c e k xs H Q E
inductive ErrW (e : ES) : Addr → Str → Str → Prop
  | wy : ErrW e e.wy "thing" "way"
  | mr : ErrW e e.mr "mark" "mark"
  | ln : ErrW e e.ln "length" "length"
  | pl : ErrW e e.pl "place" "place"
  | lt : ErrW e e.lt "thing" "letter"
  | un : ErrW e e.un "length" "open"
def CaughtE (e : ES) (Q : VK) : XK := fun cls d H' => ∃ C f wd dd v, ErrW e C f wd ∧ cls = .ref C ∧ d = some dd ∧ H' dd = some (.xd [(f, v)]) ∧ ∀ p H'', p ≠ sysModules → H' p = none → Same H' H'' → H'' p = some (.lst [.str wd, v]) → Q (.ref p) H''
def spCaught13 (K : PySem.W.Frag) (c : CA) (e : ES) : Sp := fun vs H Q _ => ∃ (k : Nat) (l : Addr) (xs : List V), vs = [.int k, .ref l] ∧ k < 5 ∧ H l = some (.lst xs) ∧ Ask K c e k xs H (fun _ H' => Q .non H') (CaughtE e Q)
theorem errC {e : ES} {Q : VK} {C : Addr} {f wd : Str} {v : V} {H : Hp} (hw : ErrW e C f wd) (q : ∀ p H'', p ≠ sysModules → H p = none → Same H H'' → H'' p = some (.lst [.str wd, v]) → Q (.ref p) H'') : ErrTo (CaughtE e Q) C f v H :=
  fun d H' _ s h => ⟨C, f, wd, d, v, hw, rfl, rfl, h, fun p H'' ne np s' h' => q p H'' ne (s.free np) (s.trans s') h'⟩
def words13 (k : Nat) : List Str := if k < 3 then ["way", "mark", "mark", "length", "length"] else if k = 3 then ["way", "mark", "length", "place", "letter", "letter"] else ["way", "mark", "length", "letter", "letter"]
def spWords : Sp := fun vs H Q _ => ∃ k : Nat, vs = [.int k] ∧ k < 5 ∧ ∀ l H', H l = none → Same H H' → H' l = some (.lst ((words13 k).map V.str)) → Q (.ref l) H'
/-- things that are no ways -/
structure NoW2 (K : PySem.W.Frag) (c : CA) : Prop where
  non : PySem.W.kitOne K (.type "NoneType") (.ref c.wy) = some false
  int : PySem.W.kitOne K (.type "int") (.ref c.wy) = some false
  str : PySem.W.kitOne K (.type "str") (.ref c.wy) = some false
  tup : PySem.W.kitOne K (.type "tuple") (.ref c.wy) = some false
  md : PySem.W.kitOne K (.ref c.md) (.ref c.wy) = some false
  kg : PySem.W.kitOne K (.ref c.kg) (.ref c.wy) = some false
/-- the odd things of the law -/
inductive OddV (H : Hp) : V → Prop
  | non : OddV H .non
  | bl (b : Bool) : OddV H (.bl b)
  | str : OddV H (.str "1")
  | int (z : Int) (h : z.natAbs < 2 ^ 1000) : OddV H (.int z)
  | tup (p : Addr) (h : H p = some (.tup [.int 1])) : OddV H (.ref p)
  | dk (p : Addr) (h : H p = some (.dK [])) : OddV H (.ref p)
  | lst (p : Addr) (xs : List V) (n : p ≠ sysModules) (h : H p = some (.lst xs)) (hx : xs = [] ∨ xs = [.int 1]) : OddV H (.ref p)
def small (o : HO) : Prop := ∀ xs, o = .lst xs → xs.length ≤ 1
def Kp (H H' : Hp) : Prop := ∀ p o, small o → H p = some o → H' p = some o
theorem Kp.trans {H H' H'' : Hp} (a : Kp H H') (b : Kp H' H'') : Kp H H'' := fun p o s h => b p o s (a p o s h)
theorem Kp.of {H H' : Hp} (s : Same H H') : Kp H H' := fun p o _ h => s p o h
theorem Kp.rm {a : Addr} {H H' : Hp} {c : Int} (u : Purse H a c) (s : Same (rm a H) (rm a H')) : Kp H H' := fun p o sm h => by
  have ne : p ≠ a := fun z => by
    subst z
    obtain ⟨x, y, z, e, _⟩ := u
    rw [e] at h
    cases h
    have := sm _ rfl
    simp at this
  exact rm_le _ _ (s _ _ (rm_of ne h))
theorem Kp.upd {H : Hp} {b : Addr} {xs ys : List V} (h : H b = some (.lst xs)) (l : 2 ≤ xs.length) : Kp H (upd H b (.lst ys)) := fun p o sm hp => by
  have ne : p ≠ b := fun z => by
    subst z
    rw [h] at hp
    cases hp
    have := sm _ rfl
    omega
  rw [upd_ne ne]
  exact hp
theorem small_tup {xs : List V} : small (.tup xs) := fun _ e => by cases e
theorem small_ins {C d : Addr} {fs : List (Str × V)} : small (.ins C d fs) := fun _ e => by cases e
theorem small_dk {kv : List (Key × V)} : small (.dK kv) := fun _ e => by cases e
theorem OddV.kp {H H' : Hp} {v : V} (h : OddV H v) (s : Kp H H') : OddV H' v := by
  cases h with
  | non => exact .non
  | bl b => exact .bl b
  | str => exact .str
  | int z h => exact .int z h
  | tup p h => exact .tup p (s _ _ small_tup h)
  | dk p h => exact .dk p (s _ _ small_dk h)
  | lst p xs n h hx =>
    refine .lst p xs n (s _ _ (fun ys e => ?_) h) hx
    cases e
    rcases hx with rfl | rfl <;> simp
/-- what is no integer among them -/
def noInt : V → Bool
  | .int _ => false
  | _ => true
theorem OddV.intB {K : PySem.W.Frag} {H : Hp} {v : V} (h : OddV H v) (n : noInt v = true) : IntB K H v false := by
  cases h with
  | non => exact ⟨_, false, false, .base .non, kit_ty (by decide +kernel), kit_ty (by decide +kernel), rfl⟩
  | bl b => exact ⟨_, true, true, .base (.bl b), kit_ty (by decide +kernel), kit_ty (by decide +kernel), rfl⟩
  | str => exact ⟨_, false, false, .base (.str _), kit_ty (by decide +kernel), kit_ty (by decide +kernel), rfl⟩
  | int z h => cases n
  | tup p h => exact ⟨_, false, false, .base (.tup h), kit_ty (by decide +kernel), kit_ty (by decide +kernel), rfl⟩
  | dk p h => exact ⟨_, false, false, .base (.dK h), kit_ty (by decide +kernel), kit_ty (by decide +kernel), rfl⟩
  | lst p xs _ h hx => exact ⟨_, false, false, .base (.lst h), kit_ty (by decide +kernel), kit_ty (by decide +kernel), rfl⟩
/-- an odd thing for a word, by the number and the length -/
def BadV (n many : Int) (wd : Str) (H : Hp) (v : V) : Prop := OddV H v ∧ (noInt v = true ∨ ∃ m, v = .int m ∧ ((wd = "mark" ∧ ¬ mkC n m) ∨ (wd = "length" ∧ ¬ lnC m) ∨ (wd = "place" ∧ ¬ plC 0 (many - 1) m)))
inductive OddW (c : CA) (H : Hp) : V → Prop
  | non : OddW c H .non
  | int (z : Int) : OddW c H (.int z)
  | str (z : Str) : OddW c H (.str z)
  | tup (p : Addr) (xs : List V) (h : H p = some (.tup xs)) : OddW c H (.ref p)
  | kg (p dx : Addr) (fs : List (Str × V)) (h : H p = some (.ins c.kg dx fs)) : OddW c H (.ref p)
  | md (p dx : Addr) (fs : List (Str × V)) (h : H p = some (.ins c.md dx fs)) : OddW c H (.ref p)
theorem OddW.kp {c : CA} {H H' : Hp} {v : V} (h : OddW c H v) (s : Kp H H') : OddW c H' v := by
  cases h with
  | non => exact .non
  | int z => exact .int z
  | str z => exact .str z
  | tup p xs h => exact .tup p xs (s _ _ small_tup h)
  | kg p dx fs h => exact .kg p dx fs (s _ _ small_ins h)
  | md p dx fs h => exact .md p dx fs (s _ _ small_ins h)
theorem OddW.wayB {K : PySem.W.Frag} {mg : Str → Option Value} {c : CA} {H : Hp} {v : V} (X : Kx K mg c) (N : NoW2 K c) (h : OddW c H v) : WayB K c H v := by
  cases h with
  | non => exact ⟨_, .base .non, N.non⟩
  | int z => exact ⟨_, .base (.int z), N.int⟩
  | str z => exact ⟨_, .base (.str z), N.str⟩
  | tup p xs h => exact ⟨_, .base (.tup h), N.tup⟩
  | kg p dx fs h => exact ⟨_, X.kg.ty h, N.kg⟩
  | md p dx fs h => exact ⟨_, X.md.ty h, N.md⟩
def Odd13 (c : CA) (n many : Int) (wd : Str) (H : Hp) (v : V) : Prop := (wd = "way" ∧ OddW c H v) ∨ (wd ≠ "way" ∧ BadV n many wd H v)
theorem Odd13.kp {c : CA} {n many : Int} {wd : Str} {H H' : Hp} {v : V} (h : Odd13 c n many wd H v) (s : Kp H H') : Odd13 c n many wd H' v := by
  rcases h with ⟨e, h⟩ | ⟨e, h, r⟩
  · exact .inl ⟨e, h.kp s⟩
  · exact .inr ⟨e, h.kp s, r⟩
def spOdd13 (c : CA) : Sp := fun vs H Q _ => ∃ (a : Addr) (wd : Str) (n many cc : Int), vs = [.ref a, .str wd, .int n, .int many] ∧ wd ∈ (["way", "mark", "length", "place", "letter"] : List Str) ∧ 0 < n ∧ n < 2 ^ 800 ∧ 2 ≤ many ∧ many ≤ 20 ∧ cc < 2 ^ 48 ∧ Purse H a cc ∧
  ∀ v H', Same (rm a H) (rm a H') → Purse H' a (cc + 1) → Odd13 c n many wd H' v → Q v H'
section
variable {J : It} {G : Hp → Prop} {te : TE} {vs : List Nat} {σ : L2.St} {H : Hp} {D : Addr} {Qd : Hp → Prop} {j : Nat}
/-- what is made of each item, by a relation that new things leave alone -/
theorem lc_rel (xs : List V) (R : V → V → Hp → Prop) (mono : ∀ x y G G', Same G G' → R x y G → R x y G') (w : Walk J xs.length G (YAt xs)) (hD : H D = none) (hG : ∀ H', Same H H' → G H') (sz : xs.length ≤ 100000)
    (wp : ∀ v, wipe ((wipe σ vs).set j v) vs = wipe σ vs)
    (step : ∀ (i : Nat) (x : V) (H' : Hp), xs[i]? = some x → Same H H' → (∃ acc, H' D = some (.lst acc)) → ∀ Q' : VK, (∀ (y : V) (H'' : Hp), Same H' H'' → R x y (rm D H'') → Q' y H'') → te ((wipe σ vs).set j (some x)) H' Q')
    (q : ∀ (H' : Hp) (ys : List V), Same H H' → H' D = some (.lst ys) → Paired (fun x y => R x y H') xs ys → Qd H') :
    ∃ W : Nat → Nat → Hp → Prop, (∃ m, W 0 m (upd H D (.lst []))) ∧ ∀ i m H, W i m H →
      (J.stop i H ∧ Qd H) ∨ (J.go i H ∧ ∃ Nx : Hp → Prop, (∀ H', Nx H' → ∃ m', m' < m ∧ W (i + 1) m' H') ∧ ∀ x H', J.yld i H x H' → gName j x (wipe σ vs) H' fun σ2 H2 => wipe σ2 vs = wipe σ vs ∧ tYes σ2 H2 fun b H3 =>
        if b = true then te σ2 H3 fun y H4 => ∃ acc, H4 D = some (.lst acc) ∧ acc.length < sizeLine ∧ Nx (upd H4 D (.lst (acc ++ [y]))) else Nx H3) := by
  refine lc_it w (fun i H' => ∃ ys : List V, Same H (rm D H') ∧ H' D = some (.lst ys) ∧ Paired (fun x y => R x y (rm D H')) (xs.take i) ys) ⟨[], ?_, upd_same, .nil⟩ (fun i H' _ h => by obtain ⟨_, k, _⟩ := h; exact hG H' (k.trans rm_le)) ?_ ?_
  · rw [rm_updS]
    exact rm_in hD (Same.refl _)
  · rintro i x H1 H' hi ⟨ys, h1, h3, h4⟩ ⟨rfl, hx⟩
    refine ⟨wp _, w_yes ?_⟩
    rw [if_pos rfl]
    have el := h4.length
    rw [List.length_take] at el
    refine step i x H' hx (h1.trans rm_le) ⟨_, h3⟩ _ fun y H2 s2 r => ?_
    have e : xs[i] = x := by rw [List.getElem?_eq_getElem hi] at hx; exact Option.some.inj hx
    refine ⟨ys, s2 _ _ h3, ?_, ys ++ [y], ?_, upd_same, ?_⟩
    · have : (100000 : Nat) < sizeLine := by decide
      omega
    · rw [rm_updS]
      exact h1.trans s2.rm
    · rw [rm_updS, List.take_succ_eq_append_getElem hi, e]
      exact Paired.snoc (paired_imp (fun _ _ z => mono _ _ _ _ s2.rm z) h4) r
  · rintro H' ⟨ys, h1, h3, h4⟩
    rw [List.take_length] at h4
    exact q H' ys (h1.trans rm_le) h3 (paired_imp (fun _ _ z => mono _ _ _ _ rm_le z) h4)
end
def spDrawW : Sp := fun vs H Q _ => ∃ (a : Addr) (n c : Int), vs = [.ref a, .int n] ∧ 0 < n ∧ n.natAbs < 2 ^ 8000 ∧ c < 2 ^ 50 ∧ Purse H a c ∧ ∀ r H', 0 ≤ r → r < n → Same (rm a H) (rm a H') → Purse H' a (c + 1) → Q (.int r) H'
structure Er1 (mg : Str → Option Value) (x : Str) (C : Addr) : Prop where
  gC : mg x = some (.ref C)
theorem ErrTo.imp {E E' : XK} {C : Addr} {f : Str} {v : V} {H : Hp} (h : ErrTo E C f v H) (he : ∀ cls d H', E cls d H' → E' cls d H') : ErrTo E' C f v H := fun d H' n s x => he _ _ _ (h d H' n s x)
theorem WayC.map {K : PySem.W.Frag} {c : CA} {H : Hp} {v : V} {er er' : Prop} {go go' : Addr → Int → List (Int × Int) → Sty → Prop} (h : WayC K c H v er go) (g : er → er') (f : ∀ x b ps y, go x b ps y → go' x b ps y) : WayC K c H v er' go' := by
  rcases h with h | ⟨x, b, ps, y, e, hw, q⟩
  · exact .inl ⟨h.1, g h.2⟩
  · exact .inr ⟨x, b, ps, y, e, hw, f x b ps y q⟩
theorem NumC.map {K : PySem.W.Frag} {H : Hp} {C : Int → Prop} {v : V} {er er' : Prop} {go go' : Int → Prop} (h : NumC K H C v er go) (g : er → er') (f : ∀ m, go m → go' m) : NumC K H C v er' go' := by
  rcases h with h | ⟨m, e, hc, q⟩
  · exact .inl ⟨h.1, g h.2⟩
  · exact .inr ⟨m, e, hc, f m q⟩
theorem ask_imp {K : PySem.W.Frag} {c : CA} {e : ES} {k : Nat} {vs : List V} {H : Hp} {Q Q' : VK} {E E' : XK} (h : Ask K c e k vs H Q E) (hq : ∀ v H', Q v H' → Q' v H') (he : ∀ cls d H', E cls d H' → E' cls d H') : Ask K c e k vs H Q' E' := by
  have ei : ∀ {C : Addr} {f : Str} {v : V}, ErrTo E C f v H → ErrTo E' C f v H := fun h => h.imp he
  have pc : ∀ {v1 v2 v3 v4 v5 : V} {go go' : Addr → Int → List (Int × Int) → Sty → Int → Int → Int → Int → Prop}, PcC K c e H E v1 v2 v3 v4 v5 go → (∀ x b ps y m k i j, go x b ps y m k i j → go' x b ps y m k i j) → PcC K c e H E' v1 v2 v3 v4 v5 go' := fun h f =>
    WayC.map h ei fun x b ps y h => NumC.map h ei fun m h => NumC.map h ei fun k h => NumC.map h ei fun i h => NumC.map h ei fun j h => f _ _ _ _ _ _ _ _ h
  unfold Ask at h ⊢
  split at h
  · obtain ⟨v1, v2, v3, v4, v5, r, h⟩ := h
    exact ⟨v1, v2, v3, v4, v5, r, pc h fun _ _ _ _ _ _ _ _ z => ⟨z.1, fun r => hq _ _ (z.2 r)⟩⟩
  · obtain ⟨v1, v2, v3, v4, v5, r, h⟩ := h
    exact ⟨v1, v2, v3, v4, v5, r, pc h fun _ _ _ _ _ _ _ _ z => ⟨z.1, fun o => ei (z.2.1 o), fun o r H' s => hq _ _ (z.2.2 o r H' s)⟩⟩
  · obtain ⟨v1, v2, v3, v4, v5, r, h⟩ := h
    exact ⟨v1, v2, v3, v4, v5, r, pc h fun _ _ _ _ _ _ _ _ z => ⟨z.1, fun o => ei (z.2.1 o), fun o r H' s => hq _ _ (z.2.2 o r H' s)⟩⟩
  · obtain ⟨v1, v2, v3, v4, v5, v6, r, h⟩ := h
    exact ⟨v1, v2, v3, v4, v5, v6, r, WayC.map h ei fun _ _ _ _ h => NumC.map h ei fun _ h => NumC.map h ei fun _ h => NumC.map h ei fun _ h => NumC.map h ei fun _ h => NumC.map h ei fun _ h => ⟨h.1, fun r => hq _ _ (h.2 r)⟩⟩
  · obtain ⟨v1, v2, v3, v4, v5, r, h⟩ := h
    exact ⟨v1, v2, v3, v4, v5, r, WayC.map h ei fun _ _ _ _ h => NumC.map h ei fun _ h => NumC.map h ei fun _ h => ⟨fun z => ei (h.1 z), fun z => NumC.map (h.2 z) ei fun _ h => NumC.map h ei fun _ h => ⟨h.1, fun o => ei (h.2.1 o), fun o r H' s => hq _ _ (h.2.2 o r H' s)⟩⟩⟩
theorem decS {a b : Str} : decide (V.str a = V.str b) = decide (a = b) := by
  by_cases z : a = b
  · rw [decide_eq_true z, decide_eq_true (by rw [z])]
  · rw [decide_eq_false z, decide_eq_false (fun w => z (by injection w))]

end Bc
namespace Bc
open PySem PySem.Spec PyProof.Rows L2
/-! ### kept texts: xs[a:b] = ys, what stands in the heap -/
section
variable {X : Cx} {pos p2 : Pos} {o : Expr} {lo hi : Option Expr} {to : TE} {tl th : TO}
def gSlc (to : TE) (tl th : TO) : TG := fun v σ H Q => to σ H fun x H1 => tl σ H1 fun l H2 => th σ H2 fun u H3 => ∃ (a b : Addr) (xs ys : List V) (i j : Int), x = .ref a ∧ v = .ref b ∧ l = some i ∧ u = some j ∧ H3 a = some (.lst xs) ∧ H3 b = some (.lst ys) ∧ a ≠ b ∧ 0 ≤ i ∧ i ≤ j ∧ j ≤ xs.length ∧ xs.length + ys.length ≤ 100000 ∧
  Q σ (upd H3 a (.lst (xs.take i.toNat ++ ys ++ xs.drop j.toNat)))
theorem pg_slc (ho : PE X o to) (hl : PO X lo tl) (hu : PO X hi th)
    (ha : ∀ v, assign (.Subscript o (.Slice lo hi none p2) pos) X.env v = (do
      let ov ← holding [v] (eval o X.env)
      let iv ← holding [v, ov] (eval (.Slice lo hi none p2) X.env)
      standAt pos
      holding [v, ov, iv] (setItem ov iv v)
      release [iv, v, ov] []) := by intro _; rfl) : PG X (.Subscript o (.Slice lo hi none p2) pos) (gSlc to tl th) := by
  refine ⟨fun pins s σ H v u Q I r h => ?_⟩
  rw [ha]
  refine wpAny_bind (wpAny_holding (thn (ho.run pins s σ H _ I h) fun ov s1 ⟨x, H1, I1, r1, q1⟩ => ?_))
  refine wpAny_bind (wpAny_holding (wpAny_Slice (thn (hl.run pins s1 σ H1 _ I1 q1) fun vl s2 ⟨l, H2, I2, pl, q2⟩ => thn (hu.run pins s2 σ H2 _ I2 q2) fun vu s3 ⟨w, H3, I3, pu, q3⟩ => ?_)))
  rw [evalPart_none]
  refine wpAny_pure ?_
  obtain ⟨a, b, xs, ys, i, j, rfl, rfl, rfl, rfl, ha, hb, ne, i0, ij, jn, sz, q⟩ := q3
  obtain rfl : ov = Value.ref a := r1
  obtain rfl : u = Value.ref b := r
  have I4 : Inv X pins σ H3 { s3 with heap := s3.heap.push { cls := .type "slice", data := .fields #[vl, vu, .none] } } := I3.kept (t' := s3.toks) fun b ob q => Heap.get?_push_of_some _ q
  cases pl with
  | int _ tl' =>
    cases pu with
    | int _ tu' =>
      refine wpAny_bind (wpAny_standAt (wpAny_bind (wpAny_holding (set_slice I4 ha hb ne (Heap.IsSliceOf.new ..) ⟨_, rfl⟩ ⟨_, rfl⟩ i0 ij jn (by rw [sizeLine_eq]; omega) fun s' I' => ?_))))
      exact wpAny_release ⟨σ, _, I', q⟩
end
structure KpK (K : PySem.W.Frag) (mg : Str → Option Value) (C : Addr) : Prop where
  kp : ClsF K C
  gl : mg "Kept" = some (.ref C)
  letters : NoAttr K C "letters"
  way : NoAttr K C "way"
  past : NoAttr K C "past"
  rests : NoAttr K C "rests"
structure KpA where
  k : Addr
  dx : Addr
  l : Addr
  p : Addr
  w : Addr
def kpF (l w p : Addr) (r : V) : List (Str × V) := [("letters", .ref l), ("way", .ref w), ("past", .ref p), ("rests", r)]
def Gr (b s n : Int) (xs : List Int) : Int := xs.foldl (fun f l => (f * b + l + s) % n) 0
def rsU (b s n : Int) (xs : List Int) : List Int := (List.range (xs.length + 1)).map fun i => Gr b s n (xs.take i)
def rsts (y : Sty) (b n : Int) (ls : List Int) : List Int := if y.low then (rsU b y.shift n ls.reverse).reverse else rsU b y.shift n ls
structure Pst where
  f : Nat
  e : Nat
  ls : List Int
def PsT (H : Hp) (A : KpA) (q : Pst) (t : Addr) : Prop := ∃ z, H t = some (.tup [.int q.f, .int q.e, .ref z]) ∧ H z = some (.lst (q.ls.map V.int)) ∧ z ≠ A.l ∧ z ≠ A.p
def RsT (H : Hp) (A : KpA) (y : Sty) (b n : Int) (ls : List Int) (r : V) : Prop := r = .non ∨ ∃ q, r = .ref q ∧ H q = some (.lst ((rsts y b n ls).map V.int)) ∧ q ≠ A.l ∧ q ≠ A.p
structure KpAt (c : CA) (Ck : Addr) (H : Hp) (A : KpA) (b : Int) (ps : List (Int × Int)) (y : Sty) (ls : List Int) (past : List Pst) : Prop where
  ins : ∃ r, H A.k = some (.ins Ck A.dx (kpF A.l A.w A.p r)) ∧ RsT H A y b (num ps) ls r
  ltr : H A.l = some (.lst (ls.map V.int))
  pst : ∃ ts : List Addr, H A.p = some (.lst (ts.map V.ref)) ∧ Paired (PsT H A) past ts
  way : WayAt c H A.w b ps y
  lp : A.l ≠ A.p
  sz : ls.length ≤ 1000
  pz : past.length ≤ 1000
/-- only the kept text is changed -/
def Off (A : KpA) (H H' : Hp) : Prop := ∀ x o, x ≠ A.k → x ≠ A.l → x ≠ A.p → H x = some o → H' x = some o
theorem Off.of {A : KpA} {H H' : Hp} (s : Same H H') : Off A H H' := fun x o _ _ _ h => s x o h
theorem Off.trans {A : KpA} {H H' H'' : Hp} (a : Off A H H') (b : Off A H' H'') : Off A H H'' := fun x o h1 h2 h3 h => b x o h1 h2 h3 (a x o h1 h2 h3 h)
/-- what stood before the kept text stands -/
theorem Off.same {A : KpA} {H0 H H' : Hp} (k : H0 A.k = none) (l : H0 A.l = none) (p : H0 A.p = none) (s : Same H0 H) (o : Off A H H') : Same H0 H' := fun x u h => o x u (ne_of_none h k) (ne_of_none h l) (ne_of_none h p) (s x u h)
theorem PsT.same {H H' : Hp} {A : KpA} {q : Pst} {t : Addr} (h : PsT H A q t) (s : Same H H') : PsT H' A q t := by
  obtain ⟨z, h1, h2, h3⟩ := h
  exact ⟨z, s _ _ h1, s _ _ h2, h3⟩
theorem PsT.off {H H' : Hp} {A : KpA} {q : Pst} {t : Addr} {C dx : Addr} {fs : List (Str × V)} {xs ys : List V} (hk : H A.k = some (.ins C dx fs)) (hl : H A.l = some (.lst xs)) (hp : H A.p = some (.lst ys)) (h : PsT H A q t) (s : Off A H H') : PsT H' A q t := by
  obtain ⟨z, h1, h2, h3, h4⟩ := h
  exact ⟨z, s _ _ (fun e => by rw [e, hk] at h1; cases h1) (fun e => by rw [e, hl] at h1; cases h1) (fun e => by rw [e, hp] at h1; cases h1) h1, s _ _ (fun e => by rw [e, hk] at h2; cases h2) h3 h4 h2, h3, h4⟩
theorem RsT.same {H H' : Hp} {A : KpA} {y : Sty} {b n : Int} {ls : List Int} {r : V} (h : RsT H A y b n ls r) (s : Same H H') : RsT H' A y b n ls r := by
  rcases h with h | ⟨q, h1, h2, h3⟩
  · exact .inl h
  · exact .inr ⟨q, h1, s _ _ h2, h3⟩
section
variable {c : CA} {Ck : Addr} {H H' : Hp} {A : KpA} {b : Int} {ps : List (Int × Int)} {y : Sty} {ls : List Int} {past : List Pst}
theorem KpAt.same (h : KpAt c Ck H A b ps y ls past) (s : Same H H') : KpAt c Ck H' A b ps y ls past := by
  obtain ⟨⟨r, h1, h2⟩, h3, ⟨ts, h4, h5⟩, h6, h7, h8, h9⟩ := h
  exact ⟨⟨r, s _ _ h1, h2.same s⟩, s _ _ h3, ⟨ts, s _ _ h4, paired_imp (fun _ _ z => z.same s) h5⟩, h6.same s, h7, h8, h9⟩
theorem KpAt.kl (h : KpAt c Ck H A b ps y ls past) : A.k ≠ A.l := fun e => by
  obtain ⟨⟨r, h1, _⟩, h3, _⟩ := h
  rw [e, h3] at h1
  cases h1
theorem KpAt.kpp (h : KpAt c Ck H A b ps y ls past) : A.k ≠ A.p := fun e => by
  obtain ⟨⟨r, h1, _⟩, _, ⟨ts, h3, _⟩, _⟩ := h
  rw [e, h3] at h1
  cases h1
end
theorem WayAt.off {c : CA} {H H' : Hp} {A : KpA} {w : Addr} {b : Int} {ps : List (Int × Int)} {y : Sty} {Ck dx : Addr} {fs : List (Str × V)} {xs ys : List V} (hne : ∀ z ∈ [c.wy, c.md, c.kg], z ≠ Ck) (hk : H A.k = some (.ins Ck dx fs)) (hl : H A.l = some (.lst xs)) (hp : H A.p = some (.lst ys)) (h : WayAt c H w b ps y) (s : Off A H H') : WayAt c H' w b ps y := by
  have hi : ∀ {z C d : Addr} {gs : List (Str × V)}, C ∈ [c.wy, c.md, c.kg] → H z = some (.ins C d gs) → H' z = some (.ins C d gs) := fun {z C d gs} hC e => s _ _ (fun q => by
    rw [q, hk] at e
    injection e with e
    injection e with e1
    exact hne C hC e1.symm) (fun q => by rw [q, hl] at e; cases e) (fun q => by rw [q, hp] at e; cases e) e
  have ht : ∀ {z : Addr} {xs : List V}, H z = some (.tup xs) → H' z = some (.tup xs) := fun {z xs} e => s _ _ (fun q => by rw [q, hk] at e; cases e) (fun q => by rw [q, hl] at e; cases e) (fun q => by rw [q, hp] at e; cases e) e
  obtain ⟨dx, m, k, h1, ⟨d2, t, ts, h2, h3, h4, h5⟩, ⟨d3, h6⟩, h7⟩ := h
  exact ⟨dx, m, k, hi (by simp) h1, ⟨d2, t, ts, hi (by simp) h2, ht h3, paired_imp (fun _ _ z => ht z) h4, h5⟩, ⟨d3, hi (by simp) h6⟩, h7⟩
section
variable {K : PySem.W.Frag} {mg : Str → Option Value} {c : CA} {Ck : Addr} {H : Hp} {A : KpA} {b : Int} {ps : List (Int × Int)} {y : Sty} {ls : List Int} {past : List Pst} {P : V → Prop}
theorem w_kpl (KP : KpK K mg Ck) (h : KpAt c Ck H A b ps y ls past) (q : P (.ref A.l)) : ∃ a C dx fs v, V.ref A.k = .ref a ∧ H a = some (.ins C dx fs) ∧ Cls K C ∧ NoAttr K C "letters" ∧ fs.lookup ("letters" : Str) = some v ∧ P v := by
  obtain ⟨⟨r, h1, _⟩, _⟩ := h
  exact w_fldi h1 KP.kp.cl KP.letters lk0 q
theorem w_kpw (KP : KpK K mg Ck) (h : KpAt c Ck H A b ps y ls past) (q : P (.ref A.w)) : ∃ a C dx fs v, V.ref A.k = .ref a ∧ H a = some (.ins C dx fs) ∧ Cls K C ∧ NoAttr K C "way" ∧ fs.lookup ("way" : Str) = some v ∧ P v := by
  obtain ⟨⟨r, h1, _⟩, _⟩ := h
  exact w_fldi h1 KP.kp.cl KP.way ((lkS (by decide +kernel)).trans lk0) q
theorem w_kpp (KP : KpK K mg Ck) (h : KpAt c Ck H A b ps y ls past) (q : P (.ref A.p)) : ∃ a C dx fs v, V.ref A.k = .ref a ∧ H a = some (.ins C dx fs) ∧ Cls K C ∧ NoAttr K C "past" ∧ fs.lookup ("past" : Str) = some v ∧ P v := by
  obtain ⟨⟨r, h1, _⟩, _⟩ := h
  exact w_fldi h1 KP.kp.cl KP.past ((lkS (by decide +kernel)).trans ((lkS (by decide +kernel)).trans lk0)) q
theorem w_kpr (KP : KpK K mg Ck) (h : KpAt c Ck H A b ps y ls past) (q : ∀ r, RsT H A y b (num ps) ls r → P r) : ∃ a C dx fs v, V.ref A.k = .ref a ∧ H a = some (.ins C dx fs) ∧ Cls K C ∧ NoAttr K C "rests" ∧ fs.lookup ("rests" : Str) = some v ∧ P v := by
  obtain ⟨⟨r, h1, h2⟩, _⟩ := h
  exact w_fldi h1 KP.kp.cl KP.rests ((lkS (by decide +kernel)).trans ((lkS (by decide +kernel)).trans ((lkS (by decide +kernel)).trans lk0))) (q r h2)
theorem kp_put4 {l w p : Addr} : putF ("rests" : Str) .non (putF ("past" : Str) (.ref p) (putF ("way" : Str) (.ref w) (putF ("letters" : Str) (.ref l) []))) = kpF l w p .non := by
  have e1 : putF ("way" : Str) (.ref w) [(("letters" : Str), V.ref l)] = [(("letters" : Str), V.ref l), (("way" : Str), V.ref w)] := by rw [putS (by decide +kernel), put0]
  have e2 : putF ("past" : Str) (.ref p) [(("letters" : Str), V.ref l), (("way" : Str), V.ref w)] = [(("letters" : Str), V.ref l), (("way" : Str), V.ref w), (("past" : Str), V.ref p)] := by rw [putS (by decide +kernel), putS (by decide +kernel), put0]
  have e3 : putF ("rests" : Str) .non [(("letters" : Str), V.ref l), (("way" : Str), V.ref w), (("past" : Str), V.ref p)] = kpF l w p .non := by rw [putS (by decide +kernel), putS (by decide +kernel), putS (by decide +kernel), put0]; rfl
  rw [put0, e1, e2, e3]
/-- rests are put -/
theorem put_rests {l w p : Addr} {r r' : V} : putF ("rests" : Str) r' (kpF l w p r) = kpF l w p r' := by
  unfold kpF
  rw [putS (by decide +kernel), putS (by decide +kernel), putS (by decide +kernel)]
  rfl
theorem put_past {l w p p' : Addr} {r : V} : putF ("past" : Str) (.ref p') (kpF l w p r) = kpF l w p' r := by
  unfold kpF
  rw [putS (by decide +kernel), putS (by decide +kernel)]
  rfl
theorem w_gslc {to : TE} {tl th : TO} {v : V} {σ : L2.St} {Q : L2.St → Hp → Prop} (q : to σ H fun x H1 => tl σ H1 fun l H2 => th σ H2 fun u H3 => ∃ (a b : Addr) (xs ys : List V) (i j : Int), x = .ref a ∧ v = .ref b ∧ l = some i ∧ u = some j ∧ H3 a = some (.lst xs) ∧ H3 b = some (.lst ys) ∧ a ≠ b ∧ 0 ≤ i ∧ i ≤ j ∧ j ≤ xs.length ∧ xs.length + ys.length ≤ 100000 ∧
  Q σ (upd H3 a (.lst (xs.take i.toNat ++ ys ++ xs.drop j.toNat)))) : gSlc to tl th v σ H Q := q
end
/-! promises -/
def Er0To (E : XK) (C : Addr) (H : Hp) : Prop := ∀ H', Same H H' → E (.ref C) none H'
def spKpInit (K : PySem.W.Frag) (c : CA) (Ck Ct : Addr) (e : ES) : Sp := fun vs H Q E => ∃ (x dx : Addr) (v u : V), vs = [.ref x, v, u] ∧ H x = some (.ins Ck dx []) ∧
  ((TextB K H v false ∧ ErrTo E Ct "thing" v (rm x H)) ∨
   (∃ ls, TextAt H v ls ∧ ls.length ≤ 1000 ∧ WayC K c (rm x H) u (ErrTo E e.wy "thing" u (rm x H)) fun w b ps y => ∀ (A : KpA) H', A.k = x → A.dx = dx → A.w = w → H A.l = none → H A.p = none → Same (rm x H) (rm x H') → KpAt c Ck H' A b ps y ls [] → Q .non H'))
def spKpText (c : CA) (Ck : Addr) : Sp := fun vs H Q _ => ∃ (A : KpA) (b : Int) (ps : List (Int × Int)) (y : Sty) (ls : List Int) (past : List Pst), vs = [.ref A.k] ∧ KpAt c Ck H A b ps y ls past ∧ ∀ t H', H t = none → Same H H' → H' t = some (.tup (ls.map V.int)) → Q (.ref t) H'
def spKpLen (c : CA) (Ck : Addr) : Sp := fun vs H Q _ => ∃ (A : KpA) (b : Int) (ps : List (Int × Int)) (y : Sty) (ls : List Int) (past : List Pst), vs = [.ref A.k] ∧ KpAt c Ck H A b ps y ls past ∧ Q (.int ls.length) H
def spKpGet (K : PySem.W.Frag) (c : CA) (Ck : Addr) (e : ES) : Sp := fun vs H Q E => ∃ (A : KpA) (b : Int) (ps : List (Int × Int)) (y : Sty) (ls : List Int) (past : List Pst) (v : V), vs = [.ref A.k, v] ∧ KpAt c Ck H A b ps y ls past ∧
  NumC K H (plC 0 ((ls.length : Int) - 1)) v (ErrTo E e.pl "place" v H) fun m => Q (.int (ls.getD m.toNat 0)) H
/-- the text with a stretch replaced, and what is kept of it -/
def Put (c : CA) (Ck : Addr) (H : Hp) (A : KpA) (b : Int) (ps : List (Int × Int)) (y : Sty) (ls : List Int) (past : List Pst) (i j : Nat) (ms : List Int) (q : Hp → Prop) : Prop :=
  ∀ H', Off A H H' → KpAt c Ck H' A b ps y (ls.take i ++ ms ++ ls.drop j) (past ++ [⟨i, i + ms.length, (ls.take j).drop i⟩]) → q H'
def spKpPut (c : CA) (Ck : Addr) : Sp := fun vs H Q _ => ∃ (A : KpA) (b : Int) (ps : List (Int × Int)) (y : Sty) (ls : List Int) (past : List Pst) (i j : Nat) (m : Addr) (ms : List Int), vs = [.ref A.k, .int i, .int j, .ref m] ∧ KpAt c Ck H A b ps y ls past ∧ past.length < 1000 ∧ ls.length + ms.length ≤ 1000 ∧
  H m = some (.lst (ms.map V.int)) ∧ m ≠ A.l ∧ m ≠ A.p ∧ i ≤ j ∧ j ≤ ls.length ∧ Put c Ck H A b ps y ls past i j ms (Q .non)
def spKpSet (K : PySem.W.Frag) (c : CA) (Ck : Addr) (e : ES) : Sp := fun vs H Q E => ∃ (A : KpA) (b : Int) (ps : List (Int × Int)) (y : Sty) (ls : List Int) (past : List Pst) (v u : V), vs = [.ref A.k, v, u] ∧ KpAt c Ck H A b ps y ls past ∧ past.length < 1000 ∧ ls.length < 1000 ∧
  NumC K H (plC 0 ((ls.length : Int) - 1)) v (ErrTo E e.pl "place" v H) fun m => NumC K H ltC u (ErrTo E e.lt "thing" u H) fun z => Put c Ck H A b ps y ls past m.toNat (m.toNat + 1) [z] (Q .non)
/-- a text, or an error -/
def TxC (K : PySem.W.Frag) (H : Hp) (v : V) (er : Prop) (go : List Int → Prop) : Prop := (TextB K H v false ∧ er) ∨ ∃ ms, TextAt H v ms ∧ go ms
def spKpIadd (K : PySem.W.Frag) (c : CA) (Ck Ct : Addr) : Sp := fun vs H Q E => ∃ (A : KpA) (b : Int) (ps : List (Int × Int)) (y : Sty) (ls : List Int) (past : List Pst) (v : V), vs = [.ref A.k, v] ∧ KpAt c Ck H A b ps y ls past ∧ past.length < 1000 ∧
  TxC K H v (ErrTo E Ct "thing" v H) fun ms => ls.length + ms.length ≤ 1000 ∧ Put c Ck H A b ps y ls past ls.length ls.length ms (Q (.ref A.k))
def StrC (K : PySem.W.Frag) (e : ES) (H : Hp) (E : XK) (n : Nat) (v u : V) (go : Nat → Nat → Prop) : Prop :=
  NumC K H (plC 0 n) v (ErrTo E e.pl "place" v H) fun f => NumC K H (plC f n) u (ErrTo E e.pl "place" u H) fun l => go f.toNat l.toNat
def spKpChange (K : PySem.W.Frag) (c : CA) (Ck Ct : Addr) (e : ES) : Sp := fun vs H Q E => ∃ (A : KpA) (b : Int) (ps : List (Int × Int)) (y : Sty) (ls : List Int) (past : List Pst) (v u t : V), vs = [.ref A.k, v, u, t] ∧ KpAt c Ck H A b ps y ls past ∧ past.length < 1000 ∧
  StrC K e H E ls.length v u fun i j => TxC K H t (ErrTo E Ct "thing" t H) fun ms => ls.length + ms.length ≤ 1000 ∧ Put c Ck H A b ps y ls past i j ms (Q .non)
def spKpUndo (c : CA) (Ck Cn : Addr) : Sp := fun vs H Q E => ∃ (A : KpA) (b : Int) (ps : List (Int × Int)) (y : Sty) (ls : List Int) (past : List Pst), vs = [.ref A.k] ∧ KpAt c Ck H A b ps y ls past ∧
  ((past = [] ∧ Er0To E Cn H) ∨ (∃ pre q, past = pre ++ [q] ∧ q.f ≤ q.e ∧ q.e ≤ ls.length ∧ ls.length + q.ls.length ≤ 1000 ∧ ∀ H', Off A H H' → KpAt c Ck H' A b ps y (ls.take q.f ++ q.ls ++ ls.drop q.e) pre → Q .non H'))
def spKpStr (K : PySem.W.Frag) (c : CA) (Ck : Addr) (e : ES) : Sp := fun vs H Q E => ∃ (A : KpA) (b : Int) (ps : List (Int × Int)) (y : Sty) (ls : List Int) (past : List Pst) (v u : V), vs = [.ref A.k, v, u] ∧ KpAt c Ck H A b ps y ls past ∧ StrC K e H E ls.length v u fun _ _ => Q .non H
/-- numbers that fit -/
structure Fit (b n : Int) (y : Sty) (ls : List Int) : Prop where
  n : n.natAbs < 2 ^ 8000
  s : y.shift.natAbs < 2 ^ 1000
  l : ∀ z ∈ ls, z.natAbs < 2 ^ 1000
def spKpRests (c : CA) (Ck : Addr) : Sp := fun vs H Q _ => ∃ (A : KpA) (b : Int) (ps : List (Int × Int)) (y : Sty) (ls : List Int) (past : List Pst), vs = [.ref A.k] ∧ KpAt c Ck H A b ps y ls past ∧ Fit b (num ps) y ls ∧ ∀ q H', Off A H H' → KpAt c Ck H' A b ps y ls past → H' q = some (.lst ((rsts y b (num ps) ls).map V.int)) → Q (.ref q) H'
def spKpMarkB (c : CA) (Ck : Addr) : Sp := fun vs H Q _ => ∃ (A : KpA) (b : Int) (ps : List (Int × Int)) (y : Sty) (ls : List Int) (past : List Pst) (i j : Nat), vs = [.ref A.k, .int i, .int j] ∧ KpAt c Ck H A b ps y ls past ∧ Fit b (num ps) y ls ∧ i ≤ j ∧ j ≤ ls.length ∧ ∀ H', Off A H H' → KpAt c Ck H' A b ps y ls past → Q (.int (mark y b (num ps) ((ls.take j).drop i))) H'
def spKpMark (K : PySem.W.Frag) (c : CA) (Ck : Addr) (e : ES) : Sp := fun vs H Q E => ∃ (A : KpA) (b : Int) (ps : List (Int × Int)) (y : Sty) (ls : List Int) (past : List Pst) (v u : V), vs = [.ref A.k, v, u] ∧ KpAt c Ck H A b ps y ls past ∧
  StrC K e H E ls.length v (if u = .non then .int ls.length else u) fun i j => Fit b (num ps) y ls ∧ ∀ H', Off A H H' → KpAt c Ck H' A b ps y ls past → Q (.int (mark y b (num ps) ((ls.take j).drop i))) H'
def spKpClashX (K : PySem.W.Frag) (e : ES) : Sp := fun vs H _ E => ∃ (k v : V), vs = [k, v] ∧ NumB K H lnC v ∧ ErrTo E e.ln "length" v H
def spKpTwin (c : CA) (Ck : Addr) : Sp := fun vs H Q _ => ∃ (A : KpA) (b : Int) (ps : List (Int × Int)) (y : Sty) (ls : List Int) (past : List Pst), vs = [.ref A.k] ∧ KpAt c Ck H A b ps y ls past ∧ ∀ (A' : KpA) H', H A'.k = none → H A'.l = none → H A'.p = none → Same H H' → KpAt c Ck H' A' b ps y ls past → Q (.ref A'.k) H'
theorem snocI {α : Type} {P : List α → Prop} (h0 : P []) (h1 : ∀ xs x, P xs → P (xs ++ [x])) (xs : List α) : P xs := by
  have key : ∀ ys : List α, P ys.reverse := by
    intro ys
    induction ys with
    | nil => exact h0
    | cons y ys ih => rw [List.reverse_cons]; exact h1 _ _ ih
  have := key xs.reverse
  rwa [List.reverse_reverse] at this
theorem paired_unsnoc {α β : Type} {R : α → β → Prop} : ∀ {as : List α} {bs : List β} {a : α} {b : β}, Paired R (as ++ [a]) (bs ++ [b]) → Paired R as bs ∧ R a b
  | [], [], _, _, .cons r .nil => ⟨.nil, r⟩
  | [], b :: bs, _, _, h => by
    have := h.length
    simp at this
  | a :: as, [], _, _, h => by
    have := h.length
    simp at this
  | _ :: as, _ :: bs, _, _, .cons r t => by
    obtain ⟨h1, h2⟩ := paired_unsnoc t
    exact ⟨.cons r h1, h2⟩
theorem cut_ij (ls : List Int) {i j : Nat} (h : i ≤ j) (hj : j ≤ ls.length) : cutV (ls.map V.int) (some (i : Int)) (some (j : Int)) = ((ls.take j).drop i).map V.int := by
  have e1 : HT.sIx ls.length 0 (some (i : Int)) = i := by simp only [HT.sIx]; rw [if_neg (by omega), Int.toNat_natCast]; omega
  have e2 : HT.sIx ls.length ls.length (some (j : Int)) = j := by simp only [HT.sIx]; rw [if_neg (by omega), Int.toNat_natCast]; omega
  unfold cutV
  rw [List.length_map, e1, e2, ← List.map_drop, ← List.map_take, List.drop_take]
section
variable {c : CA} {Ck : Addr} {H H' : Hp} {A : KpA} {b : Int} {ps : List (Int × Int)} {y : Sty} {ls : List Int} {past : List Pst}
theorem KpAt.push {ts : List Addr} {t : Addr} {q : Pst} (hne : ∀ z ∈ [c.wy, c.md, c.kg], z ≠ Ck) (h : KpAt c Ck H A b ps y ls past) (hts : H A.p = some (.lst (ts.map V.ref))) (pts : Paired (PsT H A) past ts) (ht : PsT H A q t) (hz : past.length < 1000) :
    Off A H (upd H A.p (.lst (ts.map V.ref ++ [.ref t]))) ∧ KpAt c Ck (upd H A.p (.lst (ts.map V.ref ++ [.ref t]))) A b ps y ls (past ++ [q]) := by
  have kp := h.kpp
  obtain ⟨⟨r, h1, h2⟩, h3, _, h6, h7, h8, h9⟩ := h
  have o : Off A H (upd H A.p (.lst (ts.map V.ref ++ [.ref t]))) := fun x o _ _ n e => by rw [upd_ne n]; exact e
  refine ⟨o, ⟨r, by rw [upd_ne kp]; exact h1, ?_⟩, by rw [upd_ne h7]; exact h3, ⟨ts ++ [t], by rw [upd_same, List.map_append]; rfl, ?_⟩, h6.off hne h1 h3 hts o, h7, h8, by rw [List.length_append, List.length_singleton]; omega⟩
  · rcases h2 with h2 | ⟨z, e, hz, n1, n2⟩
    · exact .inl h2
    · exact .inr ⟨z, e, by rw [upd_ne n2]; exact hz, n1, n2⟩
  · exact Paired.snoc (paired_imp (fun _ _ z => z.off h1 h3 hts o) pts) (ht.off h1 h3 hts o)
theorem KpAt.setl {ls' : List Int} (hne : ∀ z ∈ [c.wy, c.md, c.kg], z ≠ Ck) (h : KpAt c Ck H A b ps y ls past) (hl : ls'.length ≤ 1000) :
    Off A H (upd (upd H A.l (.lst (ls'.map V.int))) A.k (.ins Ck A.dx (kpF A.l A.w A.p .non))) ∧ KpAt c Ck (upd (upd H A.l (.lst (ls'.map V.int))) A.k (.ins Ck A.dx (kpF A.l A.w A.p .non))) A b ps y ls' past := by
  have kp := h.kpp
  have kl := h.kl
  obtain ⟨⟨r, h1, h2⟩, h3, ⟨ts, h4, h5⟩, h6, h7, h8, h9⟩ := h
  have o : Off A H (upd (upd H A.l (.lst (ls'.map V.int))) A.k (.ins Ck A.dx (kpF A.l A.w A.p .non))) := fun x o n1 n2 _ e => by rw [upd_ne n1, upd_ne n2]; exact e
  refine ⟨o, ⟨.non, upd_same, .inl rfl⟩, by rw [upd_ne kl.symm, upd_same], ⟨ts, by rw [upd_ne kp.symm, upd_ne h7.symm]; exact h4, paired_imp (fun _ _ z => z.off h1 h3 h4 o) h5⟩, h6.off hne h1 h3 h4 o, h7, hl, h9⟩
/-- the rests are kept -/
theorem KpAt.setr {q : Addr} (hne : ∀ z ∈ [c.wy, c.md, c.kg], z ≠ Ck) (h : KpAt c Ck H A b ps y ls past) (hq : H q = some (.lst ((rsts y b (num ps) ls).map V.int))) (n1 : q ≠ A.l) (n2 : q ≠ A.p) :
    Off A H (upd H A.k (.ins Ck A.dx (kpF A.l A.w A.p (.ref q)))) ∧ KpAt c Ck (upd H A.k (.ins Ck A.dx (kpF A.l A.w A.p (.ref q)))) A b ps y ls past := by
  have kp := h.kpp
  have kl := h.kl
  obtain ⟨⟨r, h1, h2⟩, h3, ⟨ts, h4, h5⟩, h6, h7, h8, h9⟩ := h
  have o : Off A H (upd H A.k (.ins Ck A.dx (kpF A.l A.w A.p (.ref q)))) := fun x o n1 n2 _ e => by rw [upd_ne n1]; exact e
  have nq : q ≠ A.k := fun e => by rw [e, h1] at hq; cases hq
  refine ⟨o, ⟨.ref q, upd_same, .inr ⟨q, rfl, by rw [upd_ne nq]; exact hq, n1, n2⟩⟩, by rw [upd_ne kl.symm]; exact h3, ⟨ts, by rw [upd_ne kp.symm]; exact h4, paired_imp (fun _ _ z => z.off h1 h3 h4 o) h5⟩, h6.off hne h1 h3 h4 o, h7, h8, h9⟩
theorem KpAt.pop {ts : List Addr} {t : Addr} {q : Pst} {pre : List Pst} (hne : ∀ z ∈ [c.wy, c.md, c.kg], z ≠ Ck) (h : KpAt c Ck H A b ps y ls (pre ++ [q])) (hts : H A.p = some (.lst ((ts ++ [t]).map V.ref))) (pts : Paired (PsT H A) (pre ++ [q]) (ts ++ [t])) :
    Off A H (upd H A.p (.lst (ts.map V.ref))) ∧ KpAt c Ck (upd H A.p (.lst (ts.map V.ref))) A b ps y ls pre ∧ PsT (upd H A.p (.lst (ts.map V.ref))) A q t := by
  have kp := h.kpp
  obtain ⟨⟨r, h1, h2⟩, h3, _, h6, h7, h8, h9⟩ := h
  have o : Off A H (upd H A.p (.lst (ts.map V.ref))) := fun x o _ _ n e => by rw [upd_ne n]; exact e
  obtain ⟨p1, p2⟩ := paired_unsnoc pts
  refine ⟨o, ⟨⟨r, by rw [upd_ne kp]; exact h1, ?_⟩, by rw [upd_ne h7]; exact h3, ⟨ts, upd_same, paired_imp (fun _ _ z => z.off h1 h3 hts o) p1⟩, h6.off hne h1 h3 hts o, h7, h8, by rw [List.length_append, List.length_singleton] at h9; omega⟩, p2.off h1 h3 hts o⟩
  rcases h2 with h2 | ⟨z, e, hz, n1, n2⟩
  · exact .inl h2
  · exact .inr ⟨z, e, by rw [upd_ne n2]; exact hz, n1, n2⟩
end
theorem Gr_snoc (b s n x : Int) (xs : List Int) : Gr b s n (xs ++ [x]) = (Gr b s n xs * b + x + s) % n := by unfold Gr; rw [List.foldl_append]; rfl
theorem Gr_hv {b s n : Int} (hn : 0 < n) : ∀ xs : List Int, ∃ k, Gr b s n xs = hv (xs.map (· + s)) b + n * k := by
  refine snocI ⟨0, by rw [Int.mul_zero]; rfl⟩ fun xs x ih => ?_
  · obtain ⟨k, ih⟩ := ih
    rw [Gr_snoc, ih, List.map_append, hv_app]
    obtain ⟨k2, e2⟩ := self_mod n ((hv (xs.map (· + s)) b + n * k) * b + x + s)
    rw [e2]
    refine ⟨k * b + k2, ?_⟩
    show _ = hv (xs.map (· + s)) b * b ^ 1 + hv [x + s] b + _
    rw [Int.pow_succ, Int.pow_zero, Int.one_mul, show hv [x + s] b = x + s by unfold hv; simp]
    grind
theorem Gr_range {b s n : Int} (hn : 0 < n) (xs : List Int) : 0 ≤ Gr b s n xs ∧ Gr b s n xs < n := by
  refine snocI (P := fun xs => 0 ≤ Gr b s n xs ∧ Gr b s n xs < n) ⟨Int.le_refl _, hn⟩ (fun xs x ih => ?_) xs
  · rw [Gr_snoc]; exact ⟨Int.emod_nonneg _ (by omega), Int.emod_lt_of_pos _ hn⟩
section
variable {K : PySem.W.Frag} {mg : Str → Option Value} {c : CA} {Ck Ct : Addr} {e : ES} {H : Hp} {A : KpA} {b : Int} {ps : List (Int × Int)} {y : Sty} {ls : List Int} {past : List Pst}
theorem w_insP {m : Str} {P : Prop} (h : KpAt c Ck H A b ps y ls past) (q : P) (h1 : m ≠ ("letters" : Str) := by decide +kernel) (h2 : m ≠ ("way" : Str) := by decide +kernel) (h3 : m ≠ ("past" : Str) := by decide +kernel) (h4 : m ≠ ("rests" : Str) := by decide +kernel) : ∃ a dx fs, V.ref A.k = .ref a ∧ H a = some (.ins Ck dx fs) ∧ fs.lookup m = none ∧ P := by
  obtain ⟨⟨r, e1, _⟩, _⟩ := h
  exact ⟨A.k, A.dx, _, rfl, e1, (lkS h1).trans ((lkS h2).trans ((lkS h3).trans ((lkS h4).trans rfl))), q⟩
theorem w_insO {sp : Sp} {E : XK} {vs : List V} {Q : VK} (h : KpAt c Ck H A b ps y ls past) (q : sp vs H Q E) : ∃ a dx fs, V.ref A.k = .ref a ∧ H a = some (.ins Ck dx fs) ∧ sp vs H Q E := by
  obtain ⟨⟨r, e1, _⟩, _⟩ := h
  exact ⟨A.k, A.dx, _, rfl, e1, q⟩
theorem w_insQ {P : Addr → Prop} (h : KpAt c Ck H A b ps y ls past) (q : P A.k) : ∃ a dx fs, V.ref A.k = .ref a ∧ H a = some (.ins Ck dx fs) ∧ P a := by
  obtain ⟨⟨r, e1, _⟩, _⟩ := h
  exact ⟨A.k, A.dx, _, rfl, e1, q⟩
theorem use_kp {v : V} {w : Addr} {E : XK} {PP : Addr → Hp → Prop} (ht : TextAt H v ls) (hl : ls.length ≤ 1000) (hw : WayAt c H w b ps y) (q : ∀ (A : KpA) H', H A.k = none → H A.l = none → H A.p = none → A.w = w → Same H H' → KpAt c Ck H' A b ps y ls [] → PP A.k H') :
    ∀ x dx, H x = none → H dx = none → dx ≠ x → spKpInit K c Ck Ct e (.ref x :: ([v, .ref w] ++ [])) (upd (upd H dx (.own x)) x (.ins Ck dx [])) (fun v H2 => v = .non ∧ PP x H2) E := fun x dx nx nd ne => by
  have s : Same H (upd (upd H dx (.own x)) x (.ins Ck dx [])) := fun b o h => by rw [upd_ne (ne_of_none h nx), upd_ne (ne_of_none h nd)]; exact h
  have s2 : Same H (rm x (upd (upd H dx (.own x)) x (.ins Ck dx []))) := fun b o h => rm_of (ne_of_none h nx) (s b o h)
  refine ⟨x, dx, v, .ref w, rfl, upd_same, .inr ⟨ls, ht.same s, hl, .inr ⟨w, b, ps, y, rfl, hw.same s2, fun A H' ek _ ew nl np sm hk => ⟨rfl, ?_⟩⟩⟩⟩
  rw [← ek]
  exact q A H' (by rw [ek]; exact nx) (s.free nl) (s.free np) ew (Same.trans s2 (Same.trans sm rm_le)) hk
end
theorem same_up {H H' : Hp} {a : Addr} {o : HO} (n : H a = none) (s : Same H H') : Same H (upd H' a o) := fun b u h => by rw [upd_ne (ne_of_none h n)]; exact s _ _ h
theorem mark_cut {b n s L : Int} (hn : 0 < n) (us vs : List Int) : (Gr b s n (us ++ vs) + b ^ vs.length % n * (L - Gr b s n us)) % n = hv (L :: vs.map (· + s)) b % n := by
  obtain ⟨k1, e1⟩ := Gr_hv (b := b) (s := s) hn (us ++ vs)
  obtain ⟨k2, e2⟩ := Gr_hv (b := b) (s := s) hn us
  obtain ⟨k3, e3⟩ := self_mod n (b ^ vs.length)
  rw [e1, e2, e3, List.map_append, hv_app, hv_cons, List.length_map]
  generalize hv (us.map (· + s)) b = x
  generalize hv (vs.map (· + s)) b = z
  generalize b ^ vs.length = p
  refine Int.emod_eq_emod_iff_emod_sub_eq_zero.mpr (Int.emod_eq_zero_of_dvd ⟨k1 + k3 * (L - (x + n * k2)) - p * k2, by grind⟩)
theorem rsts_get {y : Sty} {b n : Int} {ls : List Int} {i : Nat} (hi : i ≤ ls.length) : (rsts y b n ls)[i]? = some (Gr b y.shift n (if y.low then (ls.drop i).reverse else ls.take i)) := by
  unfold rsts
  cases y.low with
  | false =>
    rw [if_neg (by decide), if_neg (by decide)]
    unfold rsU
    rw [List.getElem?_map, List.getElem?_range (by omega)]
    rfl
  | true =>
    rw [if_pos rfl, if_pos rfl]
    have hl : (rsU b y.shift n ls.reverse).length = ls.length + 1 := by unfold rsU; rw [List.length_map, List.length_range, List.length_reverse]
    rw [List.getElem?_reverse (by rw [hl]; omega), hl]
    unfold rsU
    rw [List.getElem?_map, List.getElem?_range (by rw [List.length_reverse]; omega), show ls.length + 1 - 1 - i = ls.length - i by omega]
    show some (Gr b y.shift n (ls.reverse.take (ls.length - i))) = _
    have e : ls.reverse.take (ls.length - i) = (ls.drop i).reverse := by
      have h := List.reverse_drop (l := ls) (i := i)
      rw [h]
    rw [e]
theorem kp_mark {y : Sty} {b n : Int} {ls : List Int} (hn : 0 < n) {i j : Nat} (hij : i ≤ j) (hj : j ≤ ls.length) :
    (Gr b y.shift n (if y.low then (ls.drop (if y.low then i else j)).reverse else ls.take (if y.low then i else j)) + b ^ (j - i) % n * ((if y.lead then 1 else 0) - Gr b y.shift n (if y.low then (ls.drop (if y.low then j else i)).reverse else ls.take (if y.low then j else i)))) % n = mark y b n ((ls.take j).drop i) := by
  have hlen : ((ls.take j).drop i).length = j - i := by rw [List.length_drop, List.length_take]; omega
  unfold mark
  rw [rest_hv]
  cases hlow : y.low with
  | false =>
    simp only [Bool.false_eq_true, if_false]
    have e2 : ls.take j = ls.take i ++ (ls.take j).drop i := by
      conv => lhs; rw [← List.take_append_drop i (ls.take j)]
      rw [List.take_take, Nat.min_eq_left hij]
    have e3 := mark_cut (b := b) (s := y.shift) (L := if y.lead then 1 else 0) hn (ls.take i) ((ls.take j).drop i)
    rw [← e2, hlen] at e3
    rw [e3]
    unfold hf
    rw [hlow]
    rfl
  | true =>
    simp only [if_true]
    have e2 : (ls.drop i).reverse = (ls.drop j).reverse ++ ((ls.take j).drop i).reverse := by
      rw [← List.reverse_append]
      congr 1
      conv => lhs; rw [← List.take_append_drop j ls, List.drop_append_of_le_length (by rw [List.length_take]; omega)]
    have e3 := mark_cut (b := b) (s := y.shift) (L := if y.lead then 1 else 0) hn (ls.drop j).reverse ((ls.take j).drop i).reverse
    rw [← e2, List.length_reverse, hlen] at e3
    rw [e3]
    unfold hf
    rw [hlow, if_pos rfl, List.map_reverse]
/-! ### k88: deeds that are refused -/
def EqE (C : Addr) (f wd : Str) (u : V) (C' : Addr) (f' wd' : Str) (u' : V) : Prop := C = C' ∧ f = f' ∧ wd = wd' ∧ u = u'
def RefK (K : PySem.W.Frag) (c : CA) (Ct : Addr) (e : ES) (H : Hp) (n k : Nat) (v1 v2 v3 : V) (C : Addr) (f wd : Str) (u : V) : Prop := match k with
  | 0 => NumB K H (plC 0 ((n : Int) - 1)) v1 ∧ EqE C f wd u e.pl "place" "place" v1
  | 1 => (NumB K H (plC 0 ((n : Int) - 1)) v1 ∧ EqE C f wd u e.pl "place" "place" v1) ∨ (∃ m, v1 = .int m ∧ plC 0 ((n : Int) - 1) m ∧ NumB K H ltC v2 ∧ EqE C f wd u e.lt "thing" "letter" v2)
  | 2 => (NumB K H (plC 0 n) v1 ∧ EqE C f wd u e.pl "place" "place" v1) ∨ (∃ m, v1 = .int m ∧ plC 0 n m ∧ ((NumB K H (plC m n) v2 ∧ EqE C f wd u e.pl "place" "place" v2) ∨ (∃ l, v2 = .int l ∧ plC m n l ∧ TextB K H v3 false ∧ EqE C f wd u Ct "thing" "text" v3)))
  | 3 => TextB K H v1 false ∧ EqE C f wd u Ct "thing" "text" v1
  | 4 => (NumB K H (plC 0 n) v1 ∧ EqE C f wd u e.pl "place" "place" v1) ∨ (∃ m, v1 = .int m ∧ plC 0 n m ∧ v2 ≠ .non ∧ NumB K H (plC m n) v2 ∧ EqE C f wd u e.pl "place" "place" v2)
  | 5 => NumB K H lnC v1 ∧ EqE C f wd u e.ln "length" "length" v1
  | 6 => (TextB K H v1 false ∧ EqE C f wd u Ct "thing" "text" v1) ∨ (∃ ls, TextAt H v1 ls ∧ ls.length ≤ 1000 ∧ WayB K c H v2 ∧ EqE C f wd u e.wy "thing" "way" v2)
  | _ => False
inductive ErrK (e : ES) (Ct : Addr) : Addr → Str → Str → Prop
  | pl : ErrK e Ct e.pl "place" "place"
  | lt : ErrK e Ct e.lt "thing" "letter"
  | tx : ErrK e Ct Ct "thing" "text"
  | wy : ErrK e Ct e.wy "thing" "way"
  | ln : ErrK e Ct e.ln "length" "length"
theorem RefK.err {K : PySem.W.Frag} {c : CA} {Ct : Addr} {e : ES} {H : Hp} {n k : Nat} {v1 v2 v3 : V} {C : Addr} {f wd : Str} {u : V} (h : RefK K c Ct e H n k v1 v2 v3 C f wd u) : ErrK e Ct C f wd := by
  match k with
  | 0 =>
    obtain ⟨_, rfl, rfl, rfl, _⟩ := h
    exact .pl
  | 1 =>
    rcases h with ⟨_, rfl, rfl, rfl, _⟩ | ⟨_, _, _, _, rfl, rfl, rfl, _⟩
    · exact .pl
    · exact .lt
  | 2 =>
    rcases h with ⟨_, rfl, rfl, rfl, _⟩ | ⟨_, _, _, ⟨_, rfl, rfl, rfl, _⟩ | ⟨_, _, _, _, rfl, rfl, rfl, _⟩⟩
    · exact .pl
    · exact .pl
    · exact .tx
  | 3 =>
    obtain ⟨_, rfl, rfl, rfl, _⟩ := h
    exact .tx
  | 4 =>
    rcases h with ⟨_, rfl, rfl, rfl, _⟩ | ⟨_, _, _, _, _, rfl, rfl, rfl, _⟩
    · exact .pl
    · exact .pl
  | 5 =>
    obtain ⟨_, rfl, rfl, rfl, _⟩ := h
    exact .ln
  | 6 =>
    rcases h with ⟨_, rfl, rfl, rfl, _⟩ | ⟨_, _, _, _, rfl, rfl, rfl, _⟩
    · exact .tx
    · exact .wy
  | k + 7 => exact False.elim h
def UndoC (c : CA) (Ck : Addr) (H : Hp) (A : KpA) (b : Int) (ps : List (Int × Int)) (y : Sty) (ls : List Int) (past : List Pst) (no : Prop) (go : Hp → Prop) : Prop :=
  (past = [] ∧ no) ∨ (∃ pre q, past = pre ++ [q] ∧ q.f ≤ q.e ∧ q.e ≤ ls.length ∧ ls.length + q.ls.length ≤ 1000 ∧ ∀ H', Off A H H' → KpAt c Ck H' A b ps y (ls.take q.f ++ q.ls ++ ls.drop q.e) pre → go H')
def spAsked88 (K : PySem.W.Frag) (c : CA) (Ck Ct Cn : Addr) (e : ES) : Sp := fun vs H Q E => ∃ (A : KpA) (b : Int) (ps : List (Int × Int)) (y : Sty) (ls : List Int) (past : List Pst) (k : Nat) (v1 v2 v3 : V), vs = [.int k, .ref A.k, v1, v2, v3] ∧ k < 8 ∧ KpAt c Ck H A b ps y ls past ∧ past.length < 1000 ∧ ls.length < 1000 ∧
  ((∃ C f wd u, RefK K c Ct e H ls.length k v1 v2 v3 C f wd u ∧ ErrTo E C f u H) ∨ (k = 7 ∧ UndoC c Ck H A b ps y ls past (Er0To E Cn H) (Q .non)))
def spCaught88 (K : PySem.W.Frag) (c : CA) (Ck Ct : Addr) (e : ES) : Sp := fun vs H Q _ => ∃ (A : KpA) (b : Int) (ps : List (Int × Int)) (y : Sty) (ls : List Int) (past : List Pst) (k : Nat) (v1 v2 v3 : V), vs = [.int k, .ref A.k, v1, v2, v3] ∧ k < 8 ∧ KpAt c Ck H A b ps y ls past ∧ past.length < 1000 ∧ ls.length < 1000 ∧
  ((∃ C f wd u, RefK K c Ct e H ls.length k v1 v2 v3 C f wd u ∧ ∀ p H', H p = none → Same H H' → H' p = some (.lst [.str wd, u]) → Q (.ref p) H') ∨ (k = 7 ∧ UndoC c Ck H A b ps y ls past (∀ p H', H p = none → Same H H' → H' p = some (.lst [.str "nothing"]) → Q (.ref p) H') (Q .non)))
/-! ### k88: the law's own parts -/
def PlB (K : PySem.W.Frag) (H : Hp) (lo hi : Int) (v : V) : Prop := NumB K H (plC lo hi) v ∧ plainV v = true
theorem NumB.same {K : PySem.W.Frag} {H H' : Hp} {C : Int → Prop} {v : V} (h : NumB K H C v) (s : Same H H') : NumB K H' C v := by
  rcases h with h | h
  · exact .inl (h.same s)
  · exact .inr h
theorem WayB.same {K : PySem.W.Frag} {c : CA} {H H' : Hp} {v : V} (h : WayB K c H v) (s : Same H H') : WayB K c H' v := by
  obtain ⟨t, h1, h2⟩ := h
  exact ⟨t, tyx_same h1 s, h2⟩
theorem RefK.same {K : PySem.W.Frag} {c : CA} {Ct : Addr} {e : ES} {H H' : Hp} {n k : Nat} {v1 v2 v3 : V} {C : Addr} {f wd : Str} {u : V} (h : RefK K c Ct e H n k v1 v2 v3 C f wd u) (s : Same H H') : RefK K c Ct e H' n k v1 v2 v3 C f wd u := by
  match k with
  | 0 => exact ⟨h.1.same s, h.2⟩
  | 1 =>
    rcases h with ⟨h, r⟩ | ⟨m, e, hm, h, r⟩
    · exact .inl ⟨h.same s, r⟩
    · exact .inr ⟨m, e, hm, h.same s, r⟩
  | 2 =>
    rcases h with ⟨h, r⟩ | ⟨m, e, hm, ⟨h, r⟩ | ⟨l, e2, hl, h, r⟩⟩
    · exact .inl ⟨h.same s, r⟩
    · exact .inr ⟨m, e, hm, .inl ⟨h.same s, r⟩⟩
    · exact .inr ⟨m, e, hm, .inr ⟨l, e2, hl, h.same s, r⟩⟩
  | 3 => exact ⟨h.1.same s, h.2⟩
  | 4 =>
    rcases h with ⟨h, r⟩ | ⟨m, e, hm, hn, h, r⟩
    · exact .inl ⟨h.same s, r⟩
    · exact .inr ⟨m, e, hm, hn, h.same s, r⟩
  | 5 => exact ⟨h.1.same s, h.2⟩
  | 6 =>
    rcases h with ⟨h, r⟩ | ⟨ls, tx, hl, h, r⟩
    · exact .inl ⟨h.same s, r⟩
    · exact .inr ⟨ls, tx.same s, hl, h.same s, r⟩
  | k + 7 => exact False.elim h
def spPlace88 (K : PySem.W.Frag) : Sp := fun vs H Q _ => ∃ (a : Addr) (lo hi c : Int), vs = [.ref a, .int lo, .int hi] ∧ c < 2 ^ 48 ∧ Purse H a c ∧ -(2 ^ 40) < lo ∧ lo < 2 ^ 40 ∧ -(2 ^ 40) < hi ∧ hi < 2 ^ 40 ∧ lo ≤ hi + 1 ∧ ∀ v H', Same (rm a H) (rm a H') → Purse H' a (c + 1) → PlB K (rm a H') lo hi v → Q v H'
/-- what the text was, by what is kept of it -/
inductive Hist (z : List Int) : List Int → List Pst → Prop
  | nil : Hist z z []
  | snoc {ls : List Int} {pre : List Pst} {q : Pst} (h1 : q.f ≤ q.e) (h2 : q.e ≤ ls.length) (h3 : ls.length + q.ls.length ≤ 990) (h : Hist z (ls.take q.f ++ q.ls ++ ls.drop q.e) pre) : Hist z ls (pre ++ [q])
theorem put_back {ls ms : List Int} {i j : Nat} (hij : i ≤ j) (hj : j ≤ ls.length) : (ls.take i ++ ms ++ ls.drop j).take i ++ (ls.take j).drop i ++ (ls.take i ++ ms ++ ls.drop j).drop (i + ms.length) = ls := by
  have l1 : (ls.take i).length = i := by rw [List.length_take]; omega
  rw [List.append_assoc (ls.take i), List.take_left' l1, show i + ms.length = (ls.take i ++ ms).length by rw [List.length_append, l1], ← List.append_assoc (ls.take i), List.drop_left]
  conv => rhs; rw [← List.take_append_drop j ls, ← List.take_append_drop i (ls.take j), List.take_take, Nat.min_eq_left hij]
theorem Hist.put {z ls ms : List Int} {past : List Pst} {i j : Nat} (h : Hist z ls past) (hij : i ≤ j) (hj : j ≤ ls.length) (hz : 2 * ls.length + ms.length ≤ 990) : Hist z (ls.take i ++ ms ++ ls.drop j) (past ++ [⟨i, i + ms.length, (ls.take j).drop i⟩]) := by
  refine .snoc (by show i ≤ i + ms.length; omega) ?_ ?_ ?_
  · show i + ms.length ≤ _
    simp only [List.length_append, List.length_take, List.length_drop]
    omega
  · show _ + ((ls.take j).drop i).length ≤ 990
    simp only [List.length_append, List.length_take, List.length_drop]
    omega
  · show Hist z (_ ++ (ls.take j).drop i ++ _) past
    rw [put_back hij hj]
    exact h
theorem Hist.back {z ls : List Int} {pre : List Pst} {q : Pst} (h : Hist z ls (pre ++ [q])) : q.f ≤ q.e ∧ q.e ≤ ls.length ∧ ls.length + q.ls.length ≤ 990 ∧ Hist z (ls.take q.f ++ q.ls ++ ls.drop q.e) pre := by
  generalize e : pre ++ [q] = past at h
  cases h with
  | nil => simp at e
  | snoc h1 h2 h3 h =>
    obtain ⟨rfl, e2⟩ := List.append_inj' e rfl
    cases e2
    exact ⟨h1, h2, h3, h⟩
theorem Hist.end' {z ls : List Int} (h : Hist z ls []) : ls = z := by
  generalize e : ([] : List Pst) = past at h
  cases h with
  | nil => rfl
  | snoc => simp at e
/-- what things are no texts, by their classes -/
structure NoT88 (K : PySem.W.Frag) (c : CA) (Ck : Addr) : Prop where
  ks : PySem.W.kitOne K (.ref Ck) (.type "str") = some false
  kl : PySem.W.kitAny K (.ref Ck) [.type "list", .type "tuple"] = some false
  ws : PySem.W.kitOne K (.ref c.wy) (.type "str") = some false
  wl : PySem.W.kitAny K (.ref c.wy) [.type "list", .type "tuple"] = some false
def spThings88 (c : CA) (Ck : Addr) : Sp := fun vs H Q _ => ∃ (A : KpA) (b : Int) (ps : List (Int × Int)) (y : Sty) (ls : List Int) (past : List Pst), vs = [.ref A.k, .int ls.length] ∧ KpAt c Ck H A b ps y ls past ∧ past.length < 900 ∧ ls.length < 900 ∧ ∀ H', Same H H' → Q (.bl true) H'
def spEnd88 (c : CA) (Ck : Addr) : Sp := fun vs H Q _ => ∃ (A : KpA) (b : Int) (ps : List (Int × Int)) (y : Sty) (ls z : List Int) (past : List Pst) (l : Addr) (d : Nat), vs = [.ref A.k, .ref l, .int d] ∧ KpAt c Ck H A b ps y ls past ∧ past.length = d ∧ d < 10 ∧ ls.length < 100 ∧ z.length < 100 ∧ H l = some (.lst (z.map V.int)) ∧ l ≠ A.l ∧ l ≠ A.p ∧ Hist z ls past ∧ ∀ H', Off A H H' → Q (.bl true) H'
/-- where the undoing stands -/
def UnI (c : CA) (Ck : Addr) (A : KpA) (b : Int) (ps : List (Int × Int)) (y : Sty) (z : List Int) (past : List Pst) (H1 : Hp) (i : Nat) (ys : List V) (G : Hp) : Prop :=
  ∃ (ls' : List Int) (qs : List Addr), KpAt c Ck G A b ps y ls' (past.take (past.length - i)) ∧ Hist z ls' (past.take (past.length - i)) ∧ Off A H1 G ∧ ys = List.replicate (min i past.length) .non ++ qs.map V.ref ∧ qs.length = i - past.length ∧ (∀ p ∈ qs, G p = some (.lst [.str "nothing"])) ∧ ls'.length ≤ 990
theorem UnI.call {K : PySem.W.Frag} {c : CA} {Ck Ct : Addr} {e : ES} {A : KpA} {b : Int} {ps : List (Int × Int)} {y : Sty} {z : List Int} {past : List Pst} {H1 : Hp} {i : Nat} {ys : List V} {G : Hp} {Q : VK} {E : XK} (h : UnI c Ck A b ps y z past H1 i ys G) (hp : past.length < 900) (hz : z.length < 900)
    (q : ∀ v G', UnI c Ck A b ps y z past H1 (i + 1) (ys ++ [v]) G' → Q v G') : spCaught88 K c Ck Ct e [.int (7 : Nat), .ref A.k, .non, .non, .non] G Q E := by
  obtain ⟨ls', qs, hk, hh, o1, hy, hq, hqs, hl⟩ := h
  by_cases ci : i < past.length
  · have hn : past.length - i = past.length - (i + 1) + 1 := by omega
    have hs : past.take (past.length - i) = past.take (past.length - (i + 1)) ++ [past[past.length - (i + 1)]] := by
      rw [hn, List.take_add_one, List.getElem?_eq_getElem (by omega)]
      rfl
    rw [hs] at hk hh
    obtain ⟨h1, h2, h3, h4⟩ := hh.back
    have q0 : qs = [] := List.eq_nil_of_length_eq_zero (by omega)
    refine ⟨A, b, ps, y, ls', _, 7, .non, .non, .non, rfl, by decide, hk, by simp only [List.length_append, List.length_take, List.length_singleton]; omega, by omega, .inr ⟨rfl, .inr ⟨_, _, rfl, h1, h2, by omega, fun H2 o2 hk2 => q _ _ ⟨_, [], hk2, h4, o1.trans o2, ?_, by rw [List.length_nil]; omega, (fun p h => by cases h), ?_⟩⟩⟩⟩
    · rw [hy, q0, Nat.min_eq_left (by omega), Nat.min_eq_left (by omega), List.replicate_succ', List.map_nil, List.append_nil, List.append_nil]
    · simp only [List.length_append, List.length_take, List.length_drop]
      omega
  · have e0 : past.length - i = 0 := by omega
    have e1 : past.length - (i + 1) = 0 := by omega
    rw [e0, List.take_zero] at hk hh
    refine ⟨A, b, ps, y, ls', [], 7, .non, .non, .non, rfl, by decide, hk, by decide, by omega, .inr ⟨rfl, .inl ⟨rfl, fun p H2 n2 s2 h2 => q _ _ ⟨ls', qs ++ [p], ?_, ?_, o1.trans (Off.of s2), ?_, ?_, ?_, hl⟩⟩⟩⟩
    · rw [e1, List.take_zero]; exact hk.same s2
    · rw [e1, List.take_zero]; exact hh
    · rw [hy, Nat.min_eq_right (by omega), Nat.min_eq_right (by omega), List.map_append, List.append_assoc]; rfl
    · rw [List.length_append, List.length_singleton]; omega
    · intro p' hp'
      rcases List.mem_append.mp hp' with h | h
      · exact s2 _ _ (hqs p' h)
      · rw [List.mem_singleton.mp h]; exact h2
theorem UnI.start {c : CA} {Ck : Addr} {A : KpA} {b : Int} {ps : List (Int × Int)} {y : Sty} {ls z : List Int} {past : List Pst} {H : Hp} (hk : KpAt c Ck H A b ps y ls past) (hh : Hist z ls past) (hl : ls.length ≤ 990) : UnI c Ck A b ps y z past H 0 [] H :=
  ⟨ls, [], by rw [Nat.sub_zero, List.take_length]; exact hk, by rw [Nat.sub_zero, List.take_length]; exact hh, Off.of (Same.refl _), by rw [Nat.zero_min]; rfl, by rw [List.length_nil]; omega, (fun p h => by cases h), hl⟩
theorem UnI.end' {c : CA} {Ck : Addr} {A : KpA} {b : Int} {ps : List (Int × Int)} {y : Sty} {z : List Int} {past : List Pst} {H1 : Hp} {n : Nat} {ys : List V} {G : Hp} (h : UnI c Ck A b ps y z past H1 n ys G) (hn : past.length ≤ n) : KpAt c Ck G A b ps y z [] ∧ Off A H1 G ∧ ∃ qs : List Addr, ys = List.replicate past.length .non ++ qs.map V.ref ∧ qs.length = n - past.length ∧ ∀ p ∈ qs, G p = some (.lst [.str "nothing"]) := by
  obtain ⟨ls', qs, hk, hh, o1, hy, hq, hqs, hl⟩ := h
  rw [show past.length - n = 0 by omega, List.take_zero] at hk hh
  rw [hh.end'] at hk
  rw [Nat.min_eq_right hn] at hy
  exact ⟨hk, o1, qs, hy, hq, hqs⟩
theorem paired_app2 {α β : Type} {R : α → β → Prop} : ∀ {as cs : List α} {bs ds : List β}, Paired R as bs → Paired R cs ds → Paired R (as ++ cs) (bs ++ ds)
  | _, _, _, _, .nil, h => h
  | _, _, _, _, .cons r t, h => .cons r (paired_app2 t h)

end Bc
namespace Bc
open PySem PySem.Spec PyProof.Rows L2
/-! ### a list that a call does not know stays -/
def frm (sp : Sp) : Sp := fun vs H Q _ => ∃ D xs, H D = some (.lst xs) ∧ sp vs (rm D H) (fun v H' => H' D = none → Q v (upd H' D (.lst xs))) L2.E0
section
variable {P : Program} {w : World} {K : PySem.W.Frag} {mg : Str → Option Value} {base : Heap} {CX : CXT} {k : Nat} {f : Addr} {fd : FuncData} {ps : List Str} {sp : Sp}
theorem rm_some {D b : Addr} {H : Hp} {o : HO} (h : rm D H b = some o) : b ≠ D ∧ H b = some o := by
  unfold rm at h
  split at h
  · cases h
  · rename_i n
    exact ⟨n, h⟩
theorem hok_rm {H : Hp} {h : Heap} {D : Addr} {xs : List V} (x : HOk P w H h) (hD : H D = some (.lst xs)) : HOk P w (rm D H) h := fun b o e => by
  obtain ⟨_, e⟩ := rm_some e
  exact (x b o e).stay (fun _ _ _ q => q) (fun c q => rm_of (fun e => by rw [e, hD] at q; cases q) q) fun c ys q => rm_of (fun e => by rw [e, hD] at q; cases q) q
theorem FnOk.frame (F : FnOk P w K mg base CX k f fd ps sp) (hx : ∀ outer H s e s', CX outer H s L2.E0 e s' → False) : FnOk P w K mg base CX k f fd ps (frm sp) where
  len := fun vs H Q E h => by
    obtain ⟨D, xs, _, h⟩ := h
    exact F.len _ _ _ _ h
  run := fun A outer s H args us vs Q E hr e hb hv h => by
    obtain ⟨D, xs, hD, h⟩ := h
    have e0 : Env0 P w K mg base A outer s (rm D H) := ⟨e.frames, e.mod, fun b o q => ⟨(e.bs b o q).1, rm_none (e.bs b o q).2⟩, e.bsz, e.funs, fun b hb => rm_none (e.frf b hb), hok_rm e.hok hD, e.bare⟩
    refine codeAny_mono (F.run A outer s (rm D H) args us vs _ L2.E0 hr e0 hb hv h) fun r s' hq => ?_
    cases r with
    | error er => exact (hx _ _ _ _ _ hq).elim
    | ok fl =>
      cases fl with
      | ret u =>
        obtain ⟨v, H', h1, h2, un, hok, hr', q⟩ := hq
        have oD := e.hok D _ hD
        obtain ⟨z, its, n, rv, eD⟩ := id oD
        have rD : rm D H D = none := by unfold rm; rw [if_pos rfl]
        have fD : H' D = none := un.free D _ eD rD (by simp)
        have nfr : D ∉ frs outer := fun q => by rw [e.frf D q] at hD; cases hD
        have kD := un.keep D _ eD rD nfr (by simp)
        refine ⟨v, upd H' D (.lst xs), h1, h2, ⟨fun b o q hn => un.keep b o q (rm_none hn), fun b o q hn => un.slot b o q (rm_none hn), fun b o q hn hx => ?_, un.there, fun b ys q => ?_, fun b o u q => ?_, fun b qs q => ?_⟩, fun b o q => ?_, hr', q fD⟩
        · rw [upd_ne (fun e => by rw [e, hD] at hn; cases hn)]
          exact un.free b o q (rm_none hn) hx
        · have nb : b ≠ D := fun e => by rw [e, hD] at q; cases q
          rw [upd_ne nb]
          exact un.tups b ys (rm_of nb q)
        · have nb : b ≠ D := fun e => by rw [e, hD] at q; cases q
          rw [upd_ne nb]
          exact un.frzs b o u (rm_of nb q)
        · have nb : b ≠ D := fun e => by rw [e, hD] at q; cases q
          rw [upd_ne nb]
          exact un.tbls b qs (rm_of nb q)
        · by_cases hb : b = D
          · subst hb
            rw [upd_same] at q
            cases q
            exact ⟨z, its, n, rv, kD⟩
          · rw [upd_ne hb] at q
            exact (hok b o q).stay (fun _ _ _ q => q) (fun c q => by rw [upd_ne (fun e => by rw [e, fD] at q; cases q)]; exact q) fun c ys q => by rw [upd_ne (fun e => by rw [e, fD] at q; cases q)]; exact q
      | next => exact hq.elim
      | brk => exact hq.elim
      | cont => exact hq.elim
theorem cx_no (outer : List Env) (H : Hp) (s : Shared) (e : Value) (s' : Shared) (h : L2.CX P w outer H s L2.E0 e s') : False := by
  obtain ⟨_, _, _, _, _, _, _, _, _, _, _, _, z⟩ := h
  exact z.elim
theorem FnOk.or {sp sp' : Sp} (F : FnOk P w K mg base CX k f fd ps sp) (F' : FnOk P w K mg base CX k f fd ps sp') : FnOk P w K mg base CX k f fd ps (fun vs H Q E => sp vs H Q E ∨ sp' vs H Q E) where
  len := fun vs H Q E h => h.elim (F.len _ _ _ _) (F'.len _ _ _ _)
  run := fun A outer s H args us vs Q E hr e hb hv h => h.elim (F.run A outer s H args us vs Q E hr e hb hv) (F'.run A outer s H args us vs Q E hr e hb hv)
end
/-- with a hidden list, or without -/
def fr (sp : Sp) : Sp := fun vs H Q E => sp vs H Q E ∨ frm sp vs H Q E
section
variable {P : Program} {w : World} {K : PySem.W.Frag} {mg : Str → Option Value} {base : Heap} {k : Nat} {C : Addr} {sp : Sp} {x : Str} {dvs : List V}
theorem calF (c : C8.Cal P w K mg base k x sp dvs) : C8.Cal P w K mg base k x (fr sp) dvs := by
  obtain ⟨f, fd, ps, ds, F, r⟩ := c
  exact ⟨f, fd, ps, ds, FnOk.or F (FnOk.frame F (fun _ _ _ _ _ h => h.elim)), r⟩
theorem metF (c : C8.Met P w K mg base k C x sp dvs) : C8.Met P w K mg base k C x (fr sp) dvs := by
  obtain ⟨f, fd, ps, ds, cl, hm, F, r⟩ := c
  exact ⟨f, fd, ps, ds, cl, hm, FnOk.or F (FnOk.frame F (fun _ _ _ _ _ h => h.elim)), r⟩
theorem metXF (c : MetX P w K mg base k C x sp dvs) : MetX P w K mg base k C x (fr sp) dvs := by
  obtain ⟨f, fd, ps, ds, cl, hm, F, r⟩ := c
  exact ⟨f, fd, ps, ds, cl, hm, FnOk.or F (FnOk.frame F cx_no), r⟩
end
section
variable {J : It} {G : Hp → Prop} {te : TE} {vs : List Nat} {σ : L2.St} {H : Hp} {D : Addr} {Qd : Hp → Prop} {j : Nat}
theorem rm_eq {D : Addr} {H : Hp} (h : H D = none) : rm D H = H := by
  funext b
  unfold rm
  by_cases e : b = D
  · rw [if_pos e, e, h]
  · rw [if_neg e]
theorem rm_updD {D : Addr} {H : Hp} {o : HO} : rm D (upd H D o) = rm D H := by
  funext b
  unfold rm upd
  by_cases e : b = D
  · rw [if_pos e, if_pos e]
  · rw [if_neg e, if_neg e, if_neg e]
theorem lc_gen (xs : List V) (I : Nat → List V → Hp → Prop) (w : Walk J xs.length G (YAt xs)) (hD : H D = none) (hI : I 0 [] H) (hG : ∀ i ys H', I i ys (rm D H') → G H') (sz : xs.length ≤ 100000)
    (wp : ∀ v, wipe ((wipe σ vs).set j v) vs = wipe σ vs)
    (step : ∀ (i : Nat) (x : V) (ys : List V) (H' : Hp), xs[i]? = some x → H' D = some (.lst ys) → I i ys (rm D H') → ∀ Q' : VK, (∀ (y : V) (H'' : Hp), H'' D = some (.lst ys) → I (i + 1) (ys ++ [y]) (rm D H'') → Q' y H'') → te ((wipe σ vs).set j (some x)) H' Q')
    (q : ∀ (H' : Hp) (ys : List V), H' D = some (.lst ys) → ys.length = xs.length → I xs.length ys (rm D H') → Qd H') :
    ∃ W : Nat → Nat → Hp → Prop, (∃ m, W 0 m (upd H D (.lst []))) ∧ ∀ i m H, W i m H →
      (J.stop i H ∧ Qd H) ∨ (J.go i H ∧ ∃ Nx : Hp → Prop, (∀ H', Nx H' → ∃ m', m' < m ∧ W (i + 1) m' H') ∧ ∀ x H', J.yld i H x H' → gName j x (wipe σ vs) H' fun σ2 H2 => wipe σ2 vs = wipe σ vs ∧ tYes σ2 H2 fun b H3 =>
        if b = true then te σ2 H3 fun y H4 => ∃ acc, H4 D = some (.lst acc) ∧ acc.length < sizeLine ∧ Nx (upd H4 D (.lst (acc ++ [y]))) else Nx H3) := by
  refine lc_it w (fun i H' => ∃ ys : List V, H' D = some (.lst ys) ∧ ys.length = i ∧ I i ys (rm D H')) ⟨[], upd_same, rfl, ?_⟩ (fun i H' _ h => by obtain ⟨ys, _, _, k⟩ := h; exact hG i ys H' k) ?_ ?_
  · rw [rm_updD, rm_eq hD]
    exact hI
  · rintro i x H1 H' hi ⟨ys, h1, h2, h3⟩ ⟨rfl, hx⟩
    refine ⟨wp _, w_yes ?_⟩
    rw [if_pos rfl]
    refine step i x ys _ hx h1 h3 _ fun y H'' e1 e2 => ?_
    have hz : (100000 : Nat) < sizeLine := by decide
    have hz2 : ys.length < sizeLine := by omega
    refine ⟨ys, e1, hz2, ys ++ [y], upd_same, by rw [List.length_append, h2]; rfl, ?_⟩
    rw [rm_updD]
    exact e2
  · rintro H' ⟨ys, h1, h2, h3⟩
    exact q H' ys h1 h2 h3
end
section
variable {P : Program} {w : World} {K : PySem.W.Frag} {mg : Str → Option Value} {base : Heap} {k : Nat} {C : Addr} {sp : Sp} {x : Str} {dvs : List V}
theorem mkXF (c : MakX P w K mg base k x C sp dvs) : MakX P w K mg base k x C (fr sp) dvs := by
  obtain ⟨f, fd, ps, ds, M, F, r⟩ := c
  exact ⟨f, fd, ps, ds, M, FnOk.or F (FnOk.frame F cx_no), r⟩
theorem Purse.up {H : Hp} {a : Addr} {c : Int} (u : Purse H a c) : ∃ pl, H a = some (.lst pl) ∧ ∀ H', H' a = none → rm a (upd H' a (.lst pl)) = H' ∧ Purse (upd H' a (.lst pl)) a c := by
  obtain ⟨x, y, z, h, r⟩ := u
  exact ⟨_, h, fun H' n => ⟨by rw [rm_updD, rm_eq n], x, y, z, upd_same, r⟩⟩
end
/-! ### kept texts beside a purse -/
section
variable {K : PySem.W.Frag} {mg : Str → Option Value} {c : CA} {Ck Ct : Addr} {e : ES} {H : Hp} {A : KpA} {b : Int} {ps : List (Int × Int)} {y : Sty} {ls : List Int} {past : List Pst}
theorem use_kpR {a : Addr} {cc : Int} {v : V} {w : Addr} {E : XK} {PP : Addr → Hp → Prop} (pu : Purse H a cc) (ht : TextAt (rm a H) v ls) (hl : ls.length ≤ 1000) (hw : WayAt c (rm a H) w b ps y)
    (q : ∀ (A : KpA) H', rm a H A.k = none → rm a H A.l = none → rm a H A.p = none → A.w = w → Same (rm a H) (rm a H') → Purse H' a cc → KpAt c Ck (rm a H') A b ps y ls [] → PP A.k H') :
    ∀ x dx, H x = none → H dx = none → dx ≠ x → fr (spKpInit K c Ck Ct e) (.ref x :: ([v, .ref w] ++ [])) (upd (upd H dx (.own x)) x (.ins Ck dx [])) (fun v H2 => v = .non ∧ PP x H2) E := fun x dx nx nd ne => by
  obtain ⟨pl, hpl, hup⟩ := pu.up
  have nxa := pu.fresh nx
  have nda := pu.fresh nd
  refine .inr ⟨a, pl, by rw [upd_ne nxa.symm, upd_ne nda.symm]; exact hpl, ?_⟩
  rw [rm_upd nxa, rm_upd nda]
  have nx' : rm a H x = none := rm_none nx
  have nd' : rm a H dx = none := rm_none nd
  have s : Same (rm a H) (upd (upd (rm a H) dx (.own x)) x (.ins Ck dx [])) := fun b o h => by rw [upd_ne (ne_of_none h nx'), upd_ne (ne_of_none h nd')]; exact h
  have s2 : Same (rm a H) (rm x (upd (upd (rm a H) dx (.own x)) x (.ins Ck dx []))) := fun b o h => rm_of (ne_of_none h nx') (s b o h)
  refine ⟨x, dx, v, .ref w, rfl, upd_same, .inr ⟨ls, ht.same s, hl, .inr ⟨w, b, ps, y, rfl, hw.same s2, fun A H' ek _ ew nl np sm hk na => ⟨rfl, ?_⟩⟩⟩⟩
  obtain ⟨e1, pu'⟩ := hup H' na
  rw [← ek]
  refine q A _ (by rw [ek]; exact nx') (s.free nl) (s.free np) ew ?_ pu' ?_
  · rw [e1]
    exact Same.trans s2 (Same.trans sm rm_le)
  · rw [e1]
    exact hk
theorem Off.purse {A : KpA} {H H' : Hp} {a : Addr} {c : Int} (o : Off A H H') (h1 : a ≠ A.k) (h2 : a ≠ A.l) (h3 : a ≠ A.p) (p : Purse H a c) : Purse H' a c := by
  obtain ⟨x, y, z, h, r⟩ := p
  exact ⟨x, y, z, o _ _ h1 h2 h3 h, r⟩
theorem Off.rm {A : KpA} {H H' : Hp} {a : Addr} (o : Off A H H') : Off A (rm a H) (Bc.rm a H') := fun x u n1 n2 n3 h => by
  by_cases e : x = a
  · rw [e, rm_self] at h; cases h
  · exact rm_of e (o _ _ n1 n2 n3 (rm_le _ _ h))
theorem KpAt.neR {a : Addr} (h : KpAt c Ck (rm a H) A b ps y ls past) : a ≠ A.k ∧ a ≠ A.l ∧ a ≠ A.p := by
  obtain ⟨⟨r, h1, _⟩, h3, ⟨ts, h4, _⟩, _⟩ := h
  exact ⟨(fun e => by rw [← e, rm_self] at h1; cases h1), (fun e => by rw [← e, rm_self] at h3; cases h3), (fun e => by rw [← e, rm_self] at h4; cases h4)⟩
/-- a change beside a purse -/
theorem use_kpChangeR {a : Addr} {cc : Int} {E : XK} {v u t : V} {Q : VK} (pu : Purse H a cc) (hk : KpAt c Ck (rm a H) A b ps y ls past) (hp : past.length < 1000) {i j : Nat} {ms : List Int} (hv : v = .int i) (hu : u = .int j) (hij : i ≤ j) (hj : j ≤ ls.length) (ht : TextAt (rm a H) t ms) (hz : ls.length + ms.length ≤ 1000)
    (q : ∀ H', Off A (rm a H) (rm a H') → Purse H' a cc → KpAt c Ck (rm a H') A b ps y (ls.take i ++ ms ++ ls.drop j) (past ++ [⟨i, i + ms.length, (ls.take j).drop i⟩]) → Q .non H') :
    fr (spKpChange K c Ck Ct e) [.ref A.k, v, u, t] H Q E := by
  subst hv
  subst hu
  obtain ⟨pl, hpl, hup⟩ := pu.up
  refine .inr ⟨a, pl, hpl, A, b, ps, y, ls, past, _, _, t, rfl, hk, hp, .inr ⟨_, rfl, ⟨by omega, by omega⟩, .inr ⟨_, rfl, ⟨by omega, by omega⟩, .inr ⟨ms, ht, by simpa using hz, fun H2 o2 hk2 na => ?_⟩⟩⟩⟩
  obtain ⟨e1, pu'⟩ := hup H2 na
  simp only [Int.toNat_natCast] at hk2
  exact q _ (by rw [e1]; exact o2) pu' (by rw [e1]; exact hk2)
theorem use_kpMarkR {a : Addr} {cc : Int} {E : XK} {v u : V} {Q : VK} (pu : Purse H a cc) (hk : KpAt c Ck (rm a H) A b ps y ls past) {i j : Nat} (hv : v = .int i) (hu : (if u = .non then .int ls.length else u) = .int j) (hij : i ≤ j) (hj : j ≤ ls.length) (hf : Fit b (num ps) y ls)
    (q : ∀ H', Off A (rm a H) (rm a H') → Purse H' a cc → KpAt c Ck (rm a H') A b ps y ls past → Q (.int (mark y b (num ps) ((ls.take j).drop i))) H') :
    fr (spKpMark K c Ck e) [.ref A.k, v, u] H Q E := by
  subst hv
  obtain ⟨pl, hpl, hup⟩ := pu.up
  refine .inr ⟨a, pl, hpl, A, b, ps, y, ls, past, _, _, rfl, hk, ?_⟩
  rw [hu]
  refine .inr ⟨_, rfl, ⟨by omega, by omega⟩, .inr ⟨_, rfl, ⟨by omega, by omega⟩, hf, fun H2 o2 hk2 na => ?_⟩⟩
  obtain ⟨e1, pu'⟩ := hup H2 na
  exact q _ (by rw [e1]; exact o2) pu' (by rw [e1]; exact hk2)
theorem use_kpEndR {a l : Addr} {cc : Int} {E : XK} {Q : VK} {z : List Int} {d : Nat} (pu : Purse H a cc) (hk : KpAt c Ck (rm a H) A b ps y ls past) (hpd : past.length = d) (hd : d < 10) (hl : ls.length < 100) (hz : z.length < 100) (hL : rm a H l = some (.lst (z.map V.int))) (nl : l ≠ A.l) (np : l ≠ A.p) (hh : Hist z ls past)
    (q : ∀ H', Off A (rm a H) (rm a H') → Purse H' a cc → Q (.bl true) H') : fr (spEnd88 c Ck) [.ref A.k, .ref l, .int d] H Q E := by
  obtain ⟨pl, hpl, hup⟩ := pu.up
  refine .inr ⟨a, pl, hpl, A, b, ps, y, ls, z, past, l, d, rfl, hk, hpd, hd, hl, hz, hL, nl, np, hh, fun H2 o2 na => ?_⟩
  obtain ⟨e1, pu'⟩ := hup H2 na
  exact q _ (by rw [e1]; exact o2) pu'
theorem Off.sameR {A : KpA} {H0 H H' : Hp} (k : H0 A.k = none) (l : H0 A.l = none) (p : H0 A.p = none) (s : Same H0 H) (o : Off A H H') : Same H0 H' := Off.same k l p s o
end
def spRight88 : Sp := fun vs H Q _ => ∃ (a : Addr) (c : Int), vs = [.ref a] ∧ c < 2 ^ 47 ∧ Purse H a c ∧ ∀ H', Same (rm a H) (rm a H') → Purse H' a (c + 60) → Q (.bl true) H'
def gLL (vs zs : List V) : List V := vs ++ zs.take 1 ++ [.int 0] ++ zs.drop 1
theorem cut_0j (ls : List Int) {j : Nat} (hj : j ≤ ls.length) : cutV (ls.map V.int) none (some (j : Int)) = (ls.take j).map V.int := by
  have e2 : HT.sIx ls.length ls.length (some (j : Int)) = j := by simp only [HT.sIx]; rw [if_neg (by omega), Int.toNat_natCast]; omega
  unfold cutV
  rw [List.length_map, show HT.sIx ls.length 0 none = 0 from rfl, e2, List.drop_zero, ← List.map_take, Nat.sub_zero]
theorem w_lenK {c : CA} {Ck : Addr} {H : Hp} {A : KpA} {b : Int} {ps : List (Int × Int)} {y : Sty} {ls : List Int} {past : List Pst} {Q : VK} {E : XK} (h : KpAt c Ck H A b ps y ls past) (q : Q (.int ls.length) H) : rLenO Ck (spKpLen c Ck) E [.ref A.k] H Q := by
  obtain ⟨⟨r, e1, _⟩, _⟩ := id h
  exact ⟨A.k, A.dx, _, rfl, e1, A, b, ps, y, ls, past, rfl, h, ls.length, rfl, by have := h.sz; omega, q⟩
/-- what the kinds of odd things are not -/
structure NoW88 (K : PySem.W.Frag) (c : CA) : Prop where
  non : PySem.W.kitOne K (.type "NoneType") (.ref c.wy) = some false
  int : PySem.W.kitOne K (.type "int") (.ref c.wy) = some false
  str : PySem.W.kitOne K (.type "str") (.ref c.wy) = some false
  tup : PySem.W.kitOne K (.type "tuple") (.ref c.wy) = some false
  lst : PySem.W.kitOne K (.type "list") (.ref c.wy) = some false
  dct : PySem.W.kitOne K (.type "dict") (.ref c.wy) = some false
def OddK (K : PySem.W.Frag) (c : CA) (H : Hp) (v : V) : Prop := TextB K H v false ∧ plainV v = true ∧ WayB K c H v
theorem OddK.same {K : PySem.W.Frag} {c : CA} {H H' : Hp} {v : V} (h : OddK K c H v) (s : Same H H') : OddK K c H' v := ⟨h.1.same s, h.2.1, h.2.2.same s⟩
section
variable {K : PySem.W.Frag} {c : CA} {H : Hp}
theorem ib_non : IntB K H .non false := ⟨_, false, false, .base .non, kit_ty (by decide +kernel), kit_ty (by decide +kernel), rfl⟩
theorem ib_bl (b : Bool) : IntB K H (.bl b) false := ⟨_, true, true, .base (.bl b), kit_ty (by decide +kernel), kit_ty (by decide +kernel), rfl⟩
theorem ib_str (z : Str) : IntB K H (.str z) false := ⟨_, false, false, .base (.str z), kit_ty (by decide +kernel), kit_ty (by decide +kernel), rfl⟩
theorem ib_tup {t : Addr} {xs : List V} (h : H t = some (.tup xs)) : IntB K H (.ref t) false := ⟨_, false, false, .base (.tup h), kit_ty (by decide +kernel), kit_ty (by decide +kernel), rfl⟩
theorem ib_lst {t : Addr} {xs : List V} (h : H t = some (.lst xs)) : IntB K H (.ref t) false := ⟨_, false, false, .base (.lst h), kit_ty (by decide +kernel), kit_ty (by decide +kernel), rfl⟩
theorem ib_dk {t : Addr} (h : H t = some (.dK [])) : IntB K H (.ref t) false := ⟨_, false, false, .base (.dK h), kit_ty (by decide +kernel), kit_ty (by decide +kernel), rfl⟩
theorem ib_int (m : Int) : IntB K H (.int m) true := ⟨_, true, false, .base (.int m), kit_ty (by decide +kernel), kit_ty (by decide +kernel), rfl⟩
theorem odd88 (W : NoW88 K c) {g1 g2 g3 t : Addr} (h1 : H g1 = some (.lst [.non])) (h2 : H g2 = some (.dK [])) (h3 : H g3 = some (.lst [.bl true])) (h4 : H t = some (.tup [.int 1, .str "1"])) {j : Int} (j0 : 0 ≤ j) (j1 : j < 7) :
    ∃ v : V, atI [V.non, .int 7, .str "a\n", .ref g1, .ref g2, .ref g3, .ref t] j = some v ∧ OddK K c H v := by
  have cj : j = 0 ∨ j = 1 ∨ j = 2 ∨ j = 3 ∨ j = 4 ∨ j = 5 ∨ j = 6 := by omega
  rcases cj with rfl | rfl | rfl | rfl | rfl | rfl | rfl
  · exact ⟨_, atI_nat (j := 0) rfl, .oth (.base .non) (kit_ty (by decide +kernel)) (kitA (by decide +kernel)), rfl, _, .base .non, W.non⟩
  · exact ⟨_, atI_nat (j := 1) rfl, .oth (.base (.int 7)) (kit_ty (by decide +kernel)) (kitA (by decide +kernel)), rfl, _, .base (.int _), W.int⟩
  · exact ⟨_, atI_nat (j := 2) rfl, (show TextB K H (.str "a\n") (("a\n" : Str).cps.toList.all sgn) from .str _ (by decide +kernel)), rfl, _, .base (.str _), W.str⟩
  · exact ⟨_, atI_nat (j := 3) rfl, .lst g1 _ [false] h1 (by decide) (.cons ib_non .nil), rfl, _, .base (.lst h1), W.lst⟩
  · exact ⟨_, atI_nat (j := 4) rfl, .oth (.base (.dK h2)) (kit_ty (by decide +kernel)) (kitA (by decide +kernel)), rfl, _, .base (.dK h2), W.dct⟩
  · exact ⟨_, atI_nat (j := 5) rfl, .lst g3 _ [false] h3 (by decide) (.cons (ib_bl _) .nil), rfl, _, .base (.lst h3), W.lst⟩
  · exact ⟨_, atI_nat (j := 6) rfl, .tup t _ [true, false] h4 (by decide) (.cons (ib_int _) (.cons (ib_str _) .nil)), rfl, _, .base (.tup h4), W.tup⟩
def LetK (K : PySem.W.Frag) (H : Hp) (v : V) : Prop := NumB K H ltC v ∧ plainV v = true
theorem let88 {g1 g2 t : Addr} (h1 : H t = some (.tup [.int 1])) (h2 : H g1 = some (.lst [.int 1])) (h3 : H g2 = some (.dK [])) {j : Int} (j0 : 0 ≤ j) (j1 : j < 6) :
    ∃ v : V, atI [V.non, .bl true, .str "1", .ref t, .ref g1, .ref g2] j = some v ∧ LetK K H v := by
  have cj : j = 0 ∨ j = 1 ∨ j = 2 ∨ j = 3 ∨ j = 4 ∨ j = 5 := by omega
  rcases cj with rfl | rfl | rfl | rfl | rfl | rfl
  · exact ⟨_, atI_nat (j := 0) rfl, .inl ib_non, rfl⟩
  · exact ⟨_, atI_nat (j := 1) rfl, .inl (ib_bl _), rfl⟩
  · exact ⟨_, atI_nat (j := 2) rfl, .inl (ib_str _), rfl⟩
  · exact ⟨_, atI_nat (j := 3) rfl, .inl (ib_tup h1), rfl⟩
  · exact ⟨_, atI_nat (j := 4) rfl, .inl (ib_lst h2), rfl⟩
  · exact ⟨_, atI_nat (j := 5) rfl, .inl (ib_dk h3), rfl⟩
def LenK (K : PySem.W.Frag) (H : Hp) (v : V) : Prop := NumB K H lnC v ∧ plainV v = true
theorem len88 {t : Addr} (h1 : H t = some (.tup [.int 2])) {j : Int} (j0 : 0 ≤ j) (j1 : j < 6) :
    ∃ v : V, atI [V.non, .bl true, .str "2", .int (-1), .ref t, .int (0 - 10 ^ 20)] j = some v ∧ LenK K H v := by
  have cj : j = 0 ∨ j = 1 ∨ j = 2 ∨ j = 3 ∨ j = 4 ∨ j = 5 := by omega
  rcases cj with rfl | rfl | rfl | rfl | rfl | rfl
  · exact ⟨_, atI_nat (j := 0) rfl, .inl ib_non, rfl⟩
  · exact ⟨_, atI_nat (j := 1) rfl, .inl (ib_bl _), rfl⟩
  · exact ⟨_, atI_nat (j := 2) rfl, .inl (ib_str _), rfl⟩
  · exact ⟨_, atI_nat (j := 3) rfl, .inr ⟨_, rfl, fun h => by unfold lnC at h; omega⟩, rfl⟩
  · exact ⟨_, atI_nat (j := 4) rfl, .inl (ib_tup h1), rfl⟩
  · exact ⟨_, atI_nat (j := 5) rfl, .inr ⟨_, rfl, fun h => by unfold lnC at h; omega⟩, rfl⟩
theorem PlB.same {H H' : Hp} {lo hi : Int} {v : V} (h : PlB K H lo hi v) (s : Same H H') : PlB K H' lo hi v := ⟨h.1.same s, h.2⟩
theorem LetK.same {H H' : Hp} {v : V} (h : LetK K H v) (s : Same H H') : LetK K H' v := ⟨h.1.same s, h.2⟩
theorem LenK.same {H H' : Hp} {v : V} (h : LenK K H v) (s : Same H H') : LenK K H' v := ⟨h.1.same s, h.2⟩
end
theorem Off.tup {c : CA} {Ck : Addr} {H H' : Hp} {A : KpA} {b : Int} {ps : List (Int × Int)} {y : Sty} {ls : List Int} {past : List Pst} {t : Addr} {xs : List V} (h : KpAt c Ck H A b ps y ls past) (o : Off A H H') (e : H t = some (.tup xs)) : H' t = some (.tup xs) := by
  obtain ⟨⟨r, h1, _⟩, h3, ⟨ts, h4, _⟩, _⟩ := h
  exact o _ _ (fun q => by rw [q, h1] at e; cases e) (fun q => by rw [q, h3] at e; cases e) (fun q => by rw [q, h4] at e; cases e) e
theorem w_iteV {p : Prop} [Decidable p] {t u : TE} {σ : L2.St} {H : Hp} {Q : VK} (R : V → Prop) (h1 : p → ∀ Q' : VK, (∀ v, R v → Q' v H) → t σ H Q') (h2 : ¬ p → ∀ Q' : VK, (∀ v, R v → Q' v H) → u σ H Q') (k : ∀ v, R v → Q v H) : if p then t σ H Q else u σ H Q := by
  by_cases h : p
  · rw [if_pos h]; exact h1 h Q k
  · rw [if_neg h]; exact h2 h Q k
/-! a table of deeds and what is due -/
def RowL (G : Hp) (q : Str × V) (y : V) : Prop := ∃ p, y = .ref p ∧ G p = some (.lst [.str q.1, q.2])
def DeedK (K : PySem.W.Frag) (c : CA) (Ct : Addr) (e : ES) (n : Nat) (H : Hp) (x : V) (q : Str × V) : Prop := ∃ (t : Addr) (k : Nat) (v1 v2 v3 : V) (C : Addr) (f : Str), x = .ref t ∧ H t = some (.tup [.int k, v1, v2, v3]) ∧ k < 7 ∧ RefK K c Ct e H n k v1 v2 v3 C f q.1 q.2
theorem RowL.same {G G' : Hp} {q : Str × V} {y : V} (h : RowL G q y) (s : Same G G') : RowL G' q y := by
  obtain ⟨p, e, h⟩ := h
  exact ⟨p, e, s _ _ h⟩
theorem alk_tab {K : PySem.W.Frag} {G : Hp} : ∀ {tab : List (Str × V)} {ys ds : List V}, Paired (RowL G) tab ys → Paired (RowL G) tab ds → (∀ q ∈ tab, plainV q.2 = true) → Paired (Alk K G 1) ys ds
  | _, _, _, .nil, .nil, _ => .nil
  | _, _, _, .cons h1 t1, .cons h2 t2, hp => by
    obtain ⟨p, rfl, e1⟩ := h1
    obtain ⟨d, rfl, e2⟩ := h2
    exact .cons (.inr ⟨_, _, _, _, rfl, rfl, sq e1, sq e2, .cons ⟨rfl, rfl⟩ (.cons ⟨rfl, hp _ (List.mem_cons_self ..)⟩ .nil)⟩) (alk_tab t1 t2 fun q h => hp q (List.mem_cons_of_mem _ h))
/-- what is asked, one by one -/
def AskI (H0 : Hp) (tab : List (Str × V)) (i : Nat) (ys : List V) (G : Hp) : Prop := Same H0 G ∧ Paired (RowL G) (tab.take i) ys
theorem use_kpL {K : PySem.W.Frag} {c : CA} {Ck Ct : Addr} {e : ES} {H : Hp} {b : Int} {ps : List (Int × Int)} {y : Sty} {ls : List Int} {v : V} {w : Addr} {E : XK} {PP : Addr → Hp → Prop} (ht : TextAt H v ls) (hl : ls.length ≤ 1000) (hw : WayAt c H w b ps y) (q : ∀ (A : KpA) H', H A.k = none → H A.l = none → H A.p = none → A.w = w → Same H H' → KpAt c Ck H' A b ps y ls [] → PP A.k H') :
    ∀ x dx, H x = none → H dx = none → dx ≠ x → fr (spKpInit K c Ck Ct e) (.ref x :: ([v, .ref w] ++ [])) (upd (upd H dx (.own x)) x (.ins Ck dx [])) (fun v H2 => v = .non ∧ PP x H2) E := fun x dx nx nd ne => .inl (use_kp ht hl hw q x dx nx nd ne)
theorem kit_noT {K : PySem.W.Frag} {C : Addr} {n : String} (hm : PySem.W.kitMeta n = true) (s : PySem.W.subIn K (.ref C) (.type n) = some false) : PySem.W.kitOne K (.ref C) (.type n) = some false := by
  have ne : (Value.ref C == Value.type n) = false := rfl
  unfold PySem.W.kitOne PySem.W.kitCls
  simp only [ne, hm, s, if_true, Bool.false_eq_true, if_false]
theorem kit_noT2 {K : PySem.W.Frag} {C : Addr} {m n : String} (h1 : PySem.W.kitOne K (.ref C) (.type m) = some false) (h2 : PySem.W.kitOne K (.ref C) (.type n) = some false) : PySem.W.kitAny K (.ref C) [.type m, .type n] = some false := by
  unfold PySem.W.kitAny
  rw [h1]
  show PySem.W.kitAny K (.ref C) [.type n] = some false
  unfold PySem.W.kitAny
  rw [h2]
  rfl
theorem ne_sub {K : PySem.W.Frag} {B C : Addr} (s : PySem.W.subIn K (.ref B) (.ref C) = some false) (s2 : PySem.W.subIn K (.ref C) (.ref C) = some true) : B ≠ C := fun e => by
  rw [e, s2] at s
  cases s
theorem vals_take {zs : List V} {ws : List Value} : ∀ n : Nat, Vals zs ws → Vals (zs.take n) (ws.take n) := fun n h => by
  induction h generalizing n with
  | nil => simp only [List.take_nil]; exact .nil
  | cons r _ ih => cases n with
    | zero => exact .nil
    | succ n => exact .cons r (ih n)
theorem vals_drop {zs : List V} {ws : List Value} : ∀ n : Nat, Vals zs ws → Vals (zs.drop n) (ws.drop n) := fun n h => by
  induction h generalizing n with
  | nil => simp only [List.drop_nil]; exact .nil
  | cons r t ih => cases n with
    | zero => exact .cons r t
    | succ n => exact ih n
theorem vals_midL {vs mz zs : List V} {us mv ws : List Value} (r1 : Vals vs us) (r2 : Vals mz mv) (r3 : Vals zs ws) : Vals (vs ++ zs.take 1 ++ mz ++ zs.drop 1) (us ++ ws.take 1 ++ mv ++ ws.drop 1) :=
  ((r1.append (vals_take 1 r3)).append r2).append (vals_drop 1 r3)

end Bc
namespace Bc
open PySem PySem.Spec PyProof.Rows L2
/-! ### comprehensions over pairs, with a test -/
section
variable {J : It} {G : Hp → Prop} {K : PySem.W.Frag} {tt : TT} {te : TE} {vs : List Nat} {σ : L2.St} {H : Hp} {D : Addr} {Qd : Hp → Prop} {i j : Nat}
theorem lc_pairsF (us : List (V × V)) (ts : List Addr) (p : V × V → Bool) (f : V × V → V) (w : Walk J (ts.map V.ref).length G (YAt (ts.map V.ref))) (hp : Paired (fun q t => H t = some (.tup [q.1, q.2])) us ts) (hD : H D = none) (hG : ∀ H', Same H H' → G H') (sz : us.length ≤ 100000)
    (wp : ∀ u v, wipe (((wipe σ vs).set i u).set j v) vs = wipe σ vs)
    (tst : ∀ (n : Nat) (q : V × V) (H' : Hp), us[n]? = some q → Same H H' → ∀ Q' : Bool → Hp → Prop, (∀ H'', Same H' H'' → Q' (p q) H'') → tt (((wipe σ vs).set i (some q.1)).set j (some q.2)) H' Q')
    (step : ∀ (n : Nat) (q : V × V) (H' : Hp), us[n]? = some q → p q = true → Same H H' → ∀ Q' : VK, (∀ H'', Same H' H'' → Q' (f q) H'') → te (((wipe σ vs).set i (some q.1)).set j (some q.2)) H' Q')
    (q : ∀ H', Same H H' → H' D = some (.lst ((us.filter p).map f)) → Qd H') :
    ∃ W : Nat → Nat → Hp → Prop, (∃ m, W 0 m (upd H D (.lst []))) ∧ ∀ n m H, W n m H →
      (J.stop n H ∧ Qd H) ∨ (J.go n H ∧ ∃ Nx : Hp → Prop, (∀ H', Nx H' → ∃ m', m' < m ∧ W (n + 1) m' H') ∧ ∀ x H', J.yld n H x H' → gTup K 2 (gCons (gName i) (gCons (gName j) gNil)) x (wipe σ vs) H' fun σ2 H2 => wipe σ2 vs = wipe σ vs ∧ tt σ2 H2 fun b H3 =>
        if b = true then te σ2 H3 fun y H4 => ∃ acc, H4 D = some (.lst acc) ∧ acc.length < sizeLine ∧ Nx (upd H4 D (.lst (acc ++ [y]))) else Nx H3) := by
  have hl := hp.length
  refine lc_it w (fun n H' => H' D = some (.lst (((us.take n).filter p).map f)) ∧ Same H H') ⟨upd_same, Same.new hD⟩ (fun n H' _ h => hG H' h.2) ?_ ?_
  · rintro n x H1 H' hn ⟨h1, h2⟩ ⟨rfl, hx⟩
    obtain ⟨t, ht, rfl⟩ := get_map hx
    obtain ⟨pr, hpr, htp⟩ := paired_get hp ht
    have hn' : n < us.length := (List.getElem?_eq_some_iff.mp hpr).1
    have e : us[n] = pr := by rw [List.getElem?_eq_getElem hn'] at hpr; exact Option.some.inj hpr
    have tk : us.take (n + 1) = us.take n ++ [pr] := by rw [List.take_succ_eq_append_getElem hn', e]
    refine w_gtup (sqt (h2 _ _ htp)) rfl (w_gcons (w_name (w_gcons (w_name (w_gnil ⟨wp _ _, ?_⟩)))))
    refine tst n pr H' hpr h2 _ fun H2 s2 => ?_
    by_cases hq : p pr = true
    · rw [hq]
      refine iteT ?_
      refine step n pr H2 hpr hq (h2.trans s2) _ fun H3 s3 => ?_
      refine ⟨_, s3 _ _ (s2 _ _ h1), ?_, ?_, ?_⟩
      · rw [List.length_map]
        have h5 := List.length_filter_le p (us.take n)
        rw [List.length_take] at h5
        have : (100000 : Nat) < sizeLine := by decide
        omega
      · rw [upd_same, tk, List.filter_append, List.map_append, List.filter_cons, if_pos hq]
        rfl
      · exact fun b o e => by
          rw [upd_ne (ne_of_none e hD)]
          exact s3 _ _ (s2 _ _ (h2 _ _ e))
    · have hq' : p pr = false := by simpa using hq
      rw [hq']
      refine iteF ?_
      refine ⟨?_, h2.trans s2⟩
      rw [s2 _ _ h1, tk, List.filter_append, List.map_append, List.filter_cons, if_neg hq]
      simp
  · rintro H' ⟨h1, h2⟩
    refine q H' h2 ?_
    rw [h1]
    rw [List.length_map, ← hl, List.take_length]
end
section
variable {J : It} {G : Hp → Prop} {te : TE} {tt : TT} {vs : List Nat} {σ : L2.St} {H : Hp} {D : Addr} {Qd : Hp → Prop} {j : Nat}
theorem lc_frelN (xs : List V) (p : V → Bool) (R : V → V → Hp → Prop) (mono : ∀ x y G G', Same G G' → R x y G → R x y G') (w : Walk J xs.length G (YAt xs)) (hD : H D = none) (hG : ∀ H', Same H H' → G H') (sz : xs.length ≤ 100000)
    (wp : ∀ v, wipe ((wipe σ vs).set j v) vs = wipe σ vs)
    (tst : ∀ (i : Nat) (x : V) (H' : Hp), xs[i]? = some x → Same H H' → ∀ Q' : Bool → Hp → Prop, (∀ H'', Same H' H'' → Q' (p x) H'') → tt ((wipe σ vs).set j (some x)) H' Q')
    (step : ∀ (i : Nat) (x : V) (H' : Hp), xs[i]? = some x → p x = true → Same H H' → (∃ acc, H' D = some (.lst acc)) → ∀ Q' : VK, (∀ (y : V) (H'' : Hp), Same H' H'' → R x y (rm D H'') → Q' y H'') → te ((wipe σ vs).set j (some x)) H' Q')
    (q : ∀ (H' : Hp) (ys : List V), Same H H' → H' D = some (.lst ys) → Paired (fun x y => R x y H') (xs.filter p) ys → Qd H') :
    ∃ W : Nat → Nat → Hp → Prop, (∃ m, W 0 m (upd H D (.lst []))) ∧ ∀ i m H, W i m H →
      (J.stop i H ∧ Qd H) ∨ (J.go i H ∧ ∃ Nx : Hp → Prop, (∀ H', Nx H' → ∃ m', m' < m ∧ W (i + 1) m' H') ∧ ∀ x H', J.yld i H x H' → gName j x (wipe σ vs) H' fun σ2 H2 => wipe σ2 vs = wipe σ vs ∧ tt σ2 H2 fun b H3 =>
        if b = true then te σ2 H3 fun y H4 => ∃ acc, H4 D = some (.lst acc) ∧ acc.length < sizeLine ∧ Nx (upd H4 D (.lst (acc ++ [y]))) else Nx H3) := by
  refine lc_it w (fun i H' => ∃ ys : List V, Same H (rm D H') ∧ H' D = some (.lst ys) ∧ Paired (fun x y => R x y (rm D H')) ((xs.take i).filter p) ys) ⟨[], ?_, upd_same, .nil⟩ (fun i H' _ h => by obtain ⟨_, k, _⟩ := h; exact hG H' (k.trans rm_le)) ?_ ?_
  · rw [rm_updS]
    exact rm_in hD (Same.refl _)
  · rintro i x H1 H' hi ⟨ys, h1, h3, h4⟩ ⟨rfl, hx⟩
    refine ⟨wp _, tst i x H' hx (h1.trans rm_le) _ fun H2 s2 => ?_⟩
    have e : xs[i] = x := by rw [List.getElem?_eq_getElem hi] at hx; exact Option.some.inj hx
    have tk : (xs.take (i + 1)).filter p = (xs.take i).filter p ++ [x].filter p := by rw [List.take_succ_eq_append_getElem hi, e, List.filter_append]
    cases hp : p x with
    | true =>
      refine iteT (step i x H2 hx hp ((h1.trans rm_le).trans s2) ⟨_, s2 _ _ h3⟩ _ fun y H3 s3 r => ?_)
      have s23 := s2.trans s3
      have el := h4.length
      have h5 := List.length_filter_le p (xs.take i)
      rw [List.length_take] at h5
      refine ⟨ys, s23 _ _ h3, ?_, ys ++ [y], ?_, upd_same, ?_⟩
      · have : (100000 : Nat) < sizeLine := by decide
        omega
      · rw [rm_updS]
        exact h1.trans s23.rm
      · rw [rm_updS, tk, List.filter_cons, if_pos hp]
        exact Paired.snoc (paired_imp (fun _ _ z => mono _ _ _ _ s23.rm z) h4) r
    | false =>
      refine iteF ⟨ys, h1.trans s2.rm, s2 _ _ h3, ?_⟩
      rw [tk, List.filter_cons, if_neg (by rw [hp]; decide), List.filter_nil, List.append_nil]
      exact paired_imp (fun _ _ z => mono _ _ _ _ s2.rm z) h4
  · rintro H' ⟨ys, h1, h3, h4⟩
    rw [List.take_length] at h4
    exact q H' ys (h1.trans rm_le) h3 (paired_imp (fun _ _ z => mono _ _ _ _ rm_le z) h4)
end
/-! ### kept texts, right deeds only -/
def spKnInit (c : CA) (Ck : Addr) : Sp := fun vs H Q _ => ∃ (x dx : Addr) (v : V) (w : Addr) (ls : List Int) (b : Int) (ps : List (Int × Int)) (y : Sty), vs = [.ref x, v, .ref w] ∧ H x = some (.ins Ck dx []) ∧ TextAt H v ls ∧ ls.length ≤ 1000 ∧ WayAt c (rm x H) w b ps y ∧
  ∀ (A : KpA) H', A.k = x → A.dx = dx → A.w = w → H A.l = none → H A.p = none → Same (rm x H) (rm x H') → KpAt c Ck H' A b ps y ls [] → H' A.k = some (.ins Ck A.dx (kpF A.l A.w A.p .non)) → Q .non H'
def spKnGet (c : CA) (Ck : Addr) : Sp := fun vs H Q _ => ∃ (A : KpA) (b : Int) (ps : List (Int × Int)) (y : Sty) (ls : List Int) (past : List Pst) (m : Nat) (z : Int), vs = [.ref A.k, .int m] ∧ KpAt c Ck H A b ps y ls past ∧ ls[m]? = some z ∧ Q (.int z) H
def spKnSet (c : CA) (Ck : Addr) : Sp := fun vs H Q _ => ∃ (A : KpA) (b : Int) (ps : List (Int × Int)) (y : Sty) (ls : List Int) (past : List Pst) (m : Nat) (z : Int), vs = [.ref A.k, .int m, .int z] ∧ KpAt c Ck H A b ps y ls past ∧ past.length < 1000 ∧ ls.length < 1000 ∧ m < ls.length ∧
  Put c Ck H A b ps y ls past m (m + 1) [z] (Q .non)
def spKnIadd (c : CA) (Ck : Addr) : Sp := fun vs H Q _ => ∃ (A : KpA) (b : Int) (ps : List (Int × Int)) (y : Sty) (ls : List Int) (past : List Pst) (v : V) (ms : List Int), vs = [.ref A.k, v] ∧ KpAt c Ck H A b ps y ls past ∧ past.length < 1000 ∧
  TextAt H v ms ∧ ls.length + ms.length ≤ 1000 ∧ Put c Ck H A b ps y ls past ls.length ls.length ms fun H' => Q (.ref A.k) H'
def spKnStr (c : CA) (Ck : Addr) : Sp := fun vs H Q _ => ∃ (A : KpA) (b : Int) (ps : List (Int × Int)) (y : Sty) (ls : List Int) (past : List Pst) (i j : Nat), vs = [.ref A.k, .int i, .int j] ∧ KpAt c Ck H A b ps y ls past ∧ i ≤ j ∧ j ≤ ls.length ∧ Q .non H
def spKnChange (c : CA) (Ck : Addr) : Sp := fun vs H Q _ => ∃ (A : KpA) (b : Int) (ps : List (Int × Int)) (y : Sty) (ls : List Int) (past : List Pst) (i j : Nat) (t : V) (ms : List Int), vs = [.ref A.k, .int i, .int j, t] ∧ KpAt c Ck H A b ps y ls past ∧ past.length < 1000 ∧
  i ≤ j ∧ j ≤ ls.length ∧ TextAt H t ms ∧ ls.length + ms.length ≤ 1000 ∧ Put c Ck H A b ps y ls past i j ms (Q .non)
def spKnUndo (c : CA) (Ck : Addr) : Sp := fun vs H Q _ => ∃ (A : KpA) (b : Int) (ps : List (Int × Int)) (y : Sty) (ls : List Int) (pre : List Pst) (q : Pst), vs = [.ref A.k] ∧ KpAt c Ck H A b ps y ls (pre ++ [q]) ∧ q.f ≤ q.e ∧ q.e ≤ ls.length ∧ ls.length + q.ls.length ≤ 1000 ∧
  ∀ H', Off A H H' → KpAt c Ck H' A b ps y (ls.take q.f ++ q.ls ++ ls.drop q.e) pre → Q .non H'
def spKnMark (c : CA) (Ck : Addr) : Sp := fun vs H Q _ => ∃ (A : KpA) (b : Int) (ps : List (Int × Int)) (y : Sty) (ls : List Int) (past : List Pst) (i j : Nat) (u : V), vs = [.ref A.k, .int i, u] ∧ (if u = .non then .int ls.length else u) = .int j ∧ KpAt c Ck H A b ps y ls past ∧ i ≤ j ∧ j ≤ ls.length ∧ Fit b (num ps) y ls ∧
  ∀ H', Off A H H' → KpAt c Ck H' A b ps y ls past → Q (.int (mark y b (num ps) ((ls.take j).drop i))) H'
/-- a list of pairs of places -/
def PrsAt (H : Hp) (l : Addr) (prs : List (Nat × Nat)) : Prop := ∃ ts : List Addr, H l = some (.lst (ts.map V.ref)) ∧ Paired (fun (p : Nat × Nat) t => H t = some (.tup [.int p.1, .int p.2])) prs ts
theorem PrsAt.same {H H' : Hp} {l : Addr} {prs : List (Nat × Nat)} (h : PrsAt H l prs) (s : Same H H') : PrsAt H' l prs := by
  obtain ⟨ts, h1, h2⟩ := h
  exact ⟨ts, s _ _ h1, paired_imp (fun _ _ z => s _ _ z) h2⟩
/-- the stretch of a length at a place -/
def strch (ls : List Int) (n i : Nat) : List Int := (ls.take (i + n)).drop i
def clP (y : Sty) (b n : Int) (ls : List Int) (k i j : Nat) : Bool := decide (mark y b n (strch ls k i) = mark y b n (strch ls k j)) && !decide (strch ls k i = strch ls k j)
/-- the places with a stretch of a length -/
def nSt (ls : List Int) (k : Nat) : Nat := ls.length + 1 - k
def clRow (y : Sty) (b n : Int) (ls : List Int) (k i : Nat) (js : List Nat) : List (Nat × Nat) := (js.filter (clP y b n ls k i)).map fun j => (i, j)
def clashP (y : Sty) (b n : Int) (ls : List Int) (k : Nat) : List (Nat × Nat) := (List.range (nSt ls k)).flatMap fun i => clRow y b n ls k i ((List.range (nSt ls k)).drop (i + 1))
def spKnClash (c : CA) (Ck : Addr) : Sp := fun vs H Q _ => ∃ (A : KpA) (b : Int) (ps : List (Int × Int)) (y : Sty) (ls : List Int) (past : List Pst) (k : Nat), vs = [.ref A.k, .int k] ∧ KpAt c Ck H A b ps y ls past ∧ Fit b (num ps) y ls ∧ k < 1000 ∧ ls.length ≤ 200 ∧
  ∀ q H', H q = none → Off A H H' → KpAt c Ck (rm q H') A b ps y ls past → PrsAt H' q (clashP y b (num ps) ls k) → Q (.ref q) H'
def spKnTwin (c : CA) (Ck : Addr) : Sp := spKpTwin c Ck
section
variable {c : CA} {Ck : Addr} {H : Hp} {A : KpA} {b : Int} {ps : List (Int × Int)} {y : Sty} {ls : List Int} {past : List Pst}
theorem use_kn {v : V} {w : Addr} {E : XK} {PP : Addr → Hp → Prop} (ht : TextAt H v ls) (hl : ls.length ≤ 1000) (hw : WayAt c H w b ps y) (q : ∀ (A : KpA) H', H A.k = none → H A.l = none → H A.p = none → A.w = w → Same H H' → KpAt c Ck H' A b ps y ls [] → PP A.k H') :
    ∀ x dx, H x = none → H dx = none → dx ≠ x → spKnInit c Ck (.ref x :: ([v, .ref w] ++ [])) (upd (upd H dx (.own x)) x (.ins Ck dx [])) (fun v H2 => v = .non ∧ PP x H2) E := fun x dx nx nd ne => by
  have s : Same H (upd (upd H dx (.own x)) x (.ins Ck dx [])) := fun b o h => by rw [upd_ne (ne_of_none h nx), upd_ne (ne_of_none h nd)]; exact h
  have s2 : Same H (rm x (upd (upd H dx (.own x)) x (.ins Ck dx []))) := fun b o h => rm_of (ne_of_none h nx) (s b o h)
  refine ⟨x, dx, v, w, ls, b, ps, y, rfl, upd_same, ht.same s, hl, hw.same s2, fun A H' ek _ ew nl np sm hk _ => ⟨rfl, ?_⟩⟩
  rw [← ek]
  exact q A H' (by rw [ek]; exact nx) (s.free nl) (s.free np) ew (Same.trans s2 (Same.trans sm rm_le)) hk
/-! beside a purse, by a frame -/
theorem use_knR {a : Addr} {cc : Int} {v : V} {w : Addr} {E : XK} {PP : Addr → Hp → Prop} (pu : Purse H a cc) (ht : TextAt (rm a H) v ls) (hl : ls.length ≤ 1000) (hw : WayAt c (rm a H) w b ps y)
    (q : ∀ (A : KpA) H', rm a H A.k = none → rm a H A.l = none → rm a H A.p = none → A.w = w → Same (rm a H) (rm a H') → Purse H' a cc → KpAt c Ck (rm a H') A b ps y ls [] → PP A.k H') :
    ∀ x dx, H x = none → H dx = none → dx ≠ x → fr (spKnInit c Ck) (.ref x :: ([v, .ref w] ++ [])) (upd (upd H dx (.own x)) x (.ins Ck dx [])) (fun v H2 => v = .non ∧ PP x H2) E := fun x dx nx nd ne => by
  obtain ⟨pl, hpl, hup⟩ := pu.up
  have nxa := pu.fresh nx
  have nda := pu.fresh nd
  refine .inr ⟨a, pl, by rw [upd_ne nxa.symm, upd_ne nda.symm]; exact hpl, ?_⟩
  rw [rm_upd nxa, rm_upd nda]
  have nx' : rm a H x = none := rm_none nx
  have nd' : rm a H dx = none := rm_none nd
  have s : Same (rm a H) (upd (upd (rm a H) dx (.own x)) x (.ins Ck dx [])) := fun b o h => by rw [upd_ne (ne_of_none h nx'), upd_ne (ne_of_none h nd')]; exact h
  have s2 : Same (rm a H) (rm x (upd (upd (rm a H) dx (.own x)) x (.ins Ck dx []))) := fun b o h => rm_of (ne_of_none h nx') (s b o h)
  refine ⟨x, dx, v, w, ls, b, ps, y, rfl, upd_same, ht.same s, hl, hw.same s2, fun A H' ek _ ew nl np sm hk _ na => ⟨rfl, ?_⟩⟩
  obtain ⟨e1, pu'⟩ := hup H' na
  rw [← ek]
  refine q A _ (by rw [ek]; exact nx') (s.free nl) (s.free np) ew ?_ pu' ?_
  · rw [e1]
    exact Same.trans s2 (Same.trans sm rm_le)
  · rw [e1]
    exact hk
theorem use_knRi {a : Addr} {cc : Int} {v : V} {w : Addr} {E : XK} {PP : Addr → Hp → Prop} (pu : Purse H a cc) (ht : TextAt (rm a H) v ls) (hl : ls.length ≤ 1000) (hw : WayAt c (rm a H) w b ps y)
    (q : ∀ (A : KpA) H', rm a H A.k = none → rm a H A.l = none → rm a H A.p = none → A.w = w → Same (rm a H) (rm a H') → Purse H' a cc → KpAt c Ck (rm a H') A b ps y ls [] → rm a H' A.k = some (.ins Ck A.dx (kpF A.l A.w A.p .non)) → PP A.k H') :
    ∀ x dx, H x = none → H dx = none → dx ≠ x → fr (spKnInit c Ck) (.ref x :: ([v, .ref w] ++ [])) (upd (upd H dx (.own x)) x (.ins Ck dx [])) (fun v H2 => v = .non ∧ PP x H2) E := fun x dx nx nd ne => by
  obtain ⟨pl, hpl, hup⟩ := pu.up
  have nxa := pu.fresh nx
  have nda := pu.fresh nd
  refine .inr ⟨a, pl, by rw [upd_ne nxa.symm, upd_ne nda.symm]; exact hpl, ?_⟩
  rw [rm_upd nxa, rm_upd nda]
  have nx' : rm a H x = none := rm_none nx
  have nd' : rm a H dx = none := rm_none nd
  have s : Same (rm a H) (upd (upd (rm a H) dx (.own x)) x (.ins Ck dx [])) := fun b o h => by rw [upd_ne (ne_of_none h nx'), upd_ne (ne_of_none h nd')]; exact h
  have s2 : Same (rm a H) (rm x (upd (upd (rm a H) dx (.own x)) x (.ins Ck dx []))) := fun b o h => rm_of (ne_of_none h nx') (s b o h)
  refine ⟨x, dx, v, w, ls, b, ps, y, rfl, upd_same, ht.same s, hl, hw.same s2, fun A H' ek _ ew nl np sm hk hi na => ⟨rfl, ?_⟩⟩
  obtain ⟨e1, pu'⟩ := hup H' na
  rw [← ek]
  refine q A _ (by rw [ek]; exact nx') (s.free nl) (s.free np) ew ?_ pu' ?_ ?_
  · rw [e1]
    exact Same.trans s2 (Same.trans sm rm_le)
  · rw [e1]
    exact hk
  · rw [e1]
    exact hi
theorem use_knChangeR {a : Addr} {cc : Int} {E : XK} {t : V} {Q : VK} (pu : Purse H a cc) (hk : KpAt c Ck (rm a H) A b ps y ls past) (hp : past.length < 1000) {i j : Nat} {ms : List Int} (hij : i ≤ j) (hj : j ≤ ls.length) (ht : TextAt (rm a H) t ms) (hz : ls.length + ms.length ≤ 1000)
    (q : ∀ H', Off A (rm a H) (rm a H') → Purse H' a cc → KpAt c Ck (rm a H') A b ps y (ls.take i ++ ms ++ ls.drop j) (past ++ [⟨i, i + ms.length, (ls.take j).drop i⟩]) → Q .non H') :
    fr (spKnChange c Ck) [.ref A.k, .int i, .int j, t] H Q E := by
  obtain ⟨pl, hpl, hup⟩ := pu.up
  refine .inr ⟨a, pl, hpl, A, b, ps, y, ls, past, i, j, t, ms, rfl, hk, hp, hij, hj, ht, hz, fun H2 o2 hk2 na => ?_⟩
  obtain ⟨e1, pu'⟩ := hup H2 na
  exact q _ (by rw [e1]; exact o2) pu' (by rw [e1]; exact hk2)
theorem use_knSetR {a : Addr} {cc : Int} {E : XK} {Q : VK} (pu : Purse H a cc) (hk : KpAt c Ck (rm a H) A b ps y ls past) (hp : past.length < 1000) (hl : ls.length < 1000) {m : Nat} {z : Int} (hm : m < ls.length)
    (q : ∀ H', Off A (rm a H) (rm a H') → Purse H' a cc → KpAt c Ck (rm a H') A b ps y (ls.take m ++ [z] ++ ls.drop (m + 1)) (past ++ [⟨m, m + 1, (ls.take (m + 1)).drop m⟩]) → Q .non H') :
    fr (spKnSet c Ck) [.ref A.k, .int m, .int z] H Q E := by
  obtain ⟨pl, hpl, hup⟩ := pu.up
  refine .inr ⟨a, pl, hpl, A, b, ps, y, ls, past, m, z, rfl, hk, hp, hl, hm, fun H2 o2 hk2 na => ?_⟩
  obtain ⟨e1, pu'⟩ := hup H2 na
  exact q _ (by rw [e1]; exact o2) pu' (by rw [e1]; exact hk2)
theorem use_knIaddR {a : Addr} {cc : Int} {E : XK} {v : V} {ms : List Int} {Q : VK} (pu : Purse H a cc) (hk : KpAt c Ck (rm a H) A b ps y ls past) (hp : past.length < 1000) (ht : TextAt (rm a H) v ms) (hz : ls.length + ms.length ≤ 1000)
    (q : ∀ H', Off A (rm a H) (rm a H') → Purse H' a cc → KpAt c Ck (rm a H') A b ps y (ls.take ls.length ++ ms ++ ls.drop ls.length) (past ++ [⟨ls.length, ls.length + ms.length, (ls.take ls.length).drop ls.length⟩]) → Q (.ref A.k) H') :
    fr (spKnIadd c Ck) [.ref A.k, v] H Q E := by
  obtain ⟨pl, hpl, hup⟩ := pu.up
  refine .inr ⟨a, pl, hpl, A, b, ps, y, ls, past, v, ms, rfl, hk, hp, ht, hz, fun H2 o2 hk2 na => ?_⟩
  obtain ⟨e1, pu'⟩ := hup H2 na
  exact q _ (by rw [e1]; exact o2) pu' (by rw [e1]; exact hk2)
theorem use_knMarkR {a : Addr} {cc : Int} {E : XK} {u : V} {Q : VK} (pu : Purse H a cc) (hk : KpAt c Ck (rm a H) A b ps y ls past) {i j : Nat} (hu : (if u = .non then .int ls.length else u) = .int j) (hij : i ≤ j) (hj : j ≤ ls.length) (hf : Fit b (num ps) y ls)
    (q : ∀ H', Off A (rm a H) (rm a H') → Purse H' a cc → KpAt c Ck (rm a H') A b ps y ls past → Q (.int (mark y b (num ps) ((ls.take j).drop i))) H') :
    fr (spKnMark c Ck) [.ref A.k, .int i, u] H Q E := by
  obtain ⟨pl, hpl, hup⟩ := pu.up
  refine .inr ⟨a, pl, hpl, A, b, ps, y, ls, past, i, j, u, rfl, hu, hk, hij, hj, hf, fun H2 o2 hk2 na => ?_⟩
  obtain ⟨e1, pu'⟩ := hup H2 na
  exact q _ (by rw [e1]; exact o2) pu' (by rw [e1]; exact hk2)
theorem use_knClashR {a : Addr} {cc : Int} {E : XK} {k : Nat} {Q : VK} (pu : Purse H a cc) (hk : KpAt c Ck (rm a H) A b ps y ls past) (hf : Fit b (num ps) y ls) (hk0 : k < 1000) (hl : ls.length ≤ 200)
    (q : ∀ p H', rm a H p = none → Off A (rm a H) (rm a H') → Purse H' a cc → KpAt c Ck (rm a H') A b ps y ls past → PrsAt (rm a H') p (clashP y b (num ps) ls k) → Q (.ref p) H') :
    fr (spKnClash c Ck) [.ref A.k, .int k] H Q E := by
  obtain ⟨pl, hpl, hup⟩ := pu.up
  refine .inr ⟨a, pl, hpl, A, b, ps, y, ls, past, k, rfl, hk, hf, hk0, hl, fun p H2 np o2 hk2 hp2 na => ?_⟩
  obtain ⟨e1, pu'⟩ := hup H2 na
  exact q p _ np (by rw [e1]; exact o2) pu' (by rw [e1]; exact hk2.same rm_le) (by rw [e1]; exact hp2)
theorem use_knClashS {a : Addr} {cc : Int} {E : XK} {k : Nat} {Q : VK} (pu : Purse H a cc) (hk : KpAt c Ck (rm a H) A b ps y ls past) (hf : Fit b (num ps) y ls) (hk0 : k < 1000) (hl : ls.length ≤ 200)
    (q : ∀ p H', rm a H p = none → Off A (rm a H) (rm a H') → Purse H' a cc → KpAt c Ck (rm p (rm a H')) A b ps y ls past → PrsAt (rm a H') p (clashP y b (num ps) ls k) → Q (.ref p) H') :
    fr (spKnClash c Ck) [.ref A.k, .int k] H Q E := by
  obtain ⟨pl, hpl, hup⟩ := pu.up
  refine .inr ⟨a, pl, hpl, A, b, ps, y, ls, past, k, rfl, hk, hf, hk0, hl, fun p H2 np o2 hk2 hp2 na => ?_⟩
  obtain ⟨e1, pu'⟩ := hup H2 na
  exact q p _ np (by rw [e1]; exact o2) pu' (by rw [e1]; exact hk2) (by rw [e1]; exact hp2)
end

/-! ### rolled, by all ways; places -/
def spRolledN (c : CA) : Sp := fun vs H Q _ => ∃ (x : Addr) (b o z : Int) (t : List Int) (ps : List (Int × Int)) (y : Sty), vs = [.ref x, .int (mark y b (num ps) (o :: t)), .int ((t.length + 1 : Nat) : Int), .int o, .int z] ∧ WayAt c H x b ps y ∧ (num ps).natAbs < 2 ^ 8000 ∧ t.length < 2 ^ 30 ∧ (o.natAbs < 2 ^ 1000 ∧ z.natAbs < 2 ^ 1000 ∧ y.shift.natAbs < 2 ^ 1000) ∧
  ¬ OpenR y b (num ps) t ∧ ∀ H', Same H H' → Q (.int (mark y b (num ps) (t ++ [z]))) H'
/-- the stretches of a length, with their places -/
def StrAt (H : Hp) (l : Addr) (ls : List Int) (k : Nat) : Prop := ∃ ts : List Addr, H l = some (.lst (ts.map V.ref)) ∧ Paired (fun (i : Nat) t => ∃ u, H t = some (.tup [.int i, .ref u]) ∧ H u = some (.tup ((strch ls k i).map V.int))) (List.range (nSt ls k)) ts
theorem pairs_us {H : Hp} {P : Nat → Addr → Prop} : ∀ {is : List Nat} {ts : List Addr}, Paired (fun (i : Nat) t => ∃ u, H t = some (.tup [.int i, .ref u]) ∧ P i u) is ts →
    ∃ us : List (V × V), Paired (fun q t => H t = some (.tup [q.1, q.2])) us ts ∧ us.map Prod.fst = is.map (fun i : Nat => V.int i) ∧ ∀ (n : Nat) (q : V × V), us[n]? = some q → ∃ (i : Nat) (u : Addr), is[n]? = some i ∧ q = (V.int i, V.ref u) ∧ P i u
  | _, _, .nil => ⟨[], .nil, rfl, fun n q h => by simp at h⟩
  | i :: is, _, .cons ⟨u, h1, h2⟩ t => by
    obtain ⟨us, p1, p2, p3⟩ := pairs_us t
    refine ⟨(V.int i, V.ref u) :: us, .cons h1 p1, by rw [List.map_cons, List.map_cons, p2], fun n q h => ?_⟩
    cases n with
    | zero => cases h; exact ⟨i, u, rfl, rfl, h2⟩
    | succ n => exact p3 n q (by simpa using h)
theorem filt_fst {us : List (V × V)} {is : List Nat} {p : V → Bool} {p' : Nat → Bool} (e : us.map Prod.fst = is.map (fun i : Nat => V.int i)) (hp : ∀ i : Nat, p (.int i) = p' i) : (us.filter fun q => p q.1).map (fun q => q.1) = (is.filter p').map (fun i : Nat => V.int i) := by
  have e1 : (us.filter fun q => p q.1).map (fun q => q.1) = (us.map Prod.fst).filter p := by
    rw [List.filter_map]
    rfl
  rw [e1, e, List.filter_map]
  congr 1
  exact List.filter_congr fun i _ => hp i
def natV : V → Nat
  | .int i => i.toNat
  | _ => 0
def spStretches : Sp := fun vs H Q _ => ∃ (t : Addr) (ls : List Int) (k : Nat), vs = [.ref t, .int k] ∧ H t = some (.tup (ls.map V.int)) ∧ ls.length ≤ 1000 ∧ k ≤ 1000 ∧ ∀ q H', H q = none → Same H H' → StrAt H' q ls k → Q (.ref q) H'
def plcs (y : Sty) (b n : Int) (ms ls : List Int) : List Nat := (List.range (nSt ls ms.length)).filter fun i => decide (mark y b n (strch ls ms.length i) = mark y b n ms)
def spPlaces (c : CA) : Sp := fun vs H Q _ => ∃ (x : Addr) (b : Int) (ps : List (Int × Int)) (y : Sty) (v u : V) (ms ls : List Int), vs = [.ref x, v, u] ∧ WayAt c H x b ps y ∧ TextAt H v ms ∧ TextAt H u ls ∧ ms.length ≤ 1000 ∧ ls.length ≤ 1000 ∧ ∀ q H', H q = none → Same H H' → H' q = some (.lst ((plcs y b (num ps) ms ls).map fun i : Nat => V.int i)) → Q (.ref q) H'
def flsP (y : Sty) (b n : Int) (ms ls : List Int) : List Nat := (plcs y b n ms ls).filter fun i => !decide (strch ls ms.length i = ms)
def spFalse (c : CA) : Sp := fun vs H Q _ => ∃ (x : Addr) (b : Int) (ps : List (Int × Int)) (y : Sty) (v u : V) (ms ls : List Int), vs = [.ref x, v, u] ∧ WayAt c H x b ps y ∧ TextAt H v ms ∧ TextAt H u ls ∧ ms.length ≤ 1000 ∧ ls.length ≤ 1000 ∧ ∀ q H', H q = none → Same H H' → H' q = some (.lst ((flsP y b (num ps) ms ls).map fun i : Nat => V.int i)) → Q (.ref q) H'
theorem ne_of_none' {H : Hp} {x y : Addr} {o : HO} (h : H y = some o) (n : H x = none) : x ≠ y := fun e => by rw [e, h] at n; cases n
theorem refs_of {f : Nat → V} {P : Nat → Addr → Prop} : ∀ {is : List Nat} {ys : List V}, Paired (fun x y => ∃ t, y = V.ref t ∧ ∀ i : Nat, x = V.int i → P i t) (is.map f) ys → (∀ i : Nat, f i = .int i) → ∃ ts : List Addr, ys = ts.map V.ref ∧ Paired P is ts
  | [], _, .nil, _ => ⟨[], rfl, .nil⟩
  | i :: is, _, .cons ⟨t, e, h⟩ r, hf => by
    obtain ⟨ts, e2, p⟩ := refs_of r hf
    exact ⟨t :: ts, by rw [e, e2]; rfl, .cons (h i (hf i)) p⟩
theorem w_slA {K : PySem.W.Frag} {H : Hp} {t : Addr} {ls : List Int} {i k : Nat} {Q : VK} (h : H t = some (.tup (ls.map V.int))) (hik : i + k ≤ ls.length) (q : ∀ u H', Same H H' → H' u = some (.tup ((strch ls k i).map V.int)) → (u = t ∨ H u = none) → Q (.ref u) H') : rSlA K (.ref t) (some (i : Int)) (some ((i : Int) + (k : Int))) H Q := by
  rw [← Int.natCast_add]
  refine ⟨t, ls.map V.int, rfl, sqt h, fun hw => ?_, fun hw u hu => ?_⟩
  · rw [HT.sIx_nat, HT.sIx_nat, List.length_map] at hw
    refine q t H (Same.refl _) ?_ (.inl rfl)
    rw [h]
    unfold strch
    rw [show i = 0 by omega, show 0 + k = ls.length by omega, List.take_length, List.drop_zero]
  · have e : cutV (ls.map V.int) (some (i : Int)) (some ((i + k : Nat) : Int)) = (strch ls k i).map V.int := cut_ij ls (by omega) hik
    rw [e]
    exact q u _ (Same.new hu) upd_same (.inr hu)
theorem paired_id {α : Type} : ∀ {xs ys : List α}, Paired (fun x y => y = x) xs ys → ys = xs
  | _, _, .nil => rfl
  | _, _, .cons e t => by rw [e, paired_id t]
theorem paired_idH {xs ys : List V} {G : Hp} (h : Paired (fun x y => (fun (x y : V) (_ : Hp) => y = x) x y G) xs ys) : ys = xs := paired_id h
theorem rgV_nat {j : Int} {m : Nat} (h : j.toNat = m) : rgV 0 j = (List.range m).map fun i : Nat => V.int i := by
  unfold rgV
  rw [Int.sub_zero, h]
  exact List.map_congr_left fun i _ => by rw [Int.zero_add]
def spKnIaddS (c : CA) (Ck : Addr) : Sp := fun vs H Q _ => ∃ (A : KpA) (b : Int) (ps : List (Int × Int)) (y : Sty) (ls : List Int) (past : List Pst) (p : Addr) (ms : List Int), vs = [.ref A.k, .ref p] ∧ KpAt c Ck (rm p H) A b ps y ls past ∧ past.length < 1000 ∧
  H p = some (.lst (ms.map V.int)) ∧ ls.length + ms.length ≤ 1000 ∧ ∀ H', Off A (rm p H) (rm p H') → H' p = some (.lst (ms.map V.int)) → KpAt c Ck (rm p H') A b ps y (ls.take ls.length ++ ms ++ ls.drop ls.length) (past ++ [⟨ls.length, ls.length + ms.length, (ls.take ls.length).drop ls.length⟩]) → Q (.ref A.k) H'
def spKnChangeS (c : CA) (Ck : Addr) : Sp := fun vs H Q _ => ∃ (A : KpA) (b : Int) (ps : List (Int × Int)) (y : Sty) (ls : List Int) (past : List Pst) (i j : Nat) (p : Addr) (ms : List Int), vs = [.ref A.k, .int i, .int j, .ref p] ∧ KpAt c Ck (rm p H) A b ps y ls past ∧ past.length < 1000 ∧
  i ≤ j ∧ j ≤ ls.length ∧ H p = some (.lst (ms.map V.int)) ∧ ls.length + ms.length ≤ 1000 ∧ ∀ H', Off A (rm p H) (rm p H') → H' p = some (.lst (ms.map V.int)) → KpAt c Ck (rm p H') A b ps y (ls.take i ++ ms ++ ls.drop j) (past ++ [⟨i, i + ms.length, (ls.take j).drop i⟩]) → Q .non H'

end Bc
namespace Bc
open PySem PySem.Spec PyProof.Rows L2
/-! ### k94: moduli to 10^9 -/
def PL2 : List Int := [2, 3, 5, 7, 11, 13, 31, 97, 331, 997]
theorem PL2_pr (i : Fin 10) : Pr (PL2.getD i.val 0) ∧ 2 ≤ PL2.getD i.val 0 ∧ PL2.getD i.val 0 < 1024 ∧ PL2.getD i.val 0 < PL2.getD (i.val + 1) 10000 := by
  revert i; decide +kernel
def spMod9 : Sp := fun vs H Q _ => ∃ (a : Addr) (n c : Int), vs = [.ref a, .int n] ∧ 1 ≤ n ∧ n ≤ 1000000000 ∧ c < 2 ^ 48 ∧ Purse H a c ∧
  ∀ r l H' ps, Same (rm a H) (rm a H') → Purse H' a (c + 1000000010) → rm a H' r = some (.lst [.ref l, .int (num ps)]) → PrL (rm a H') l ps → Asc 0 ps → Small ps → num ps ≤ n → Q (.ref r) H'
theorem pow_small9 {p n x : Int} {k : Nat} (hp : 2 ≤ p) (hx : 1 ≤ x) (h : x * p ^ k ≤ n) (hn : n ≤ 1000000000) : k ≤ 30 := by
  refine Nat.le_of_not_lt fun z => ?_
  have h1 : (2 : Int) ^ 31 ≤ p ^ 31 := by
    have := Nat.pow_le_pow_left (show 2 ≤ p.toNat by omega) 31
    have e : p ^ 31 = ((p.toNat ^ 31 : Nat) : Int) := by rw [Int.natCast_pow, Int.toNat_of_nonneg (by omega)]
    rw [e]
    exact Int.ofNat_le.mpr this
  have h2 : p ^ 31 ≤ p ^ k := by
    have := Nat.pow_le_pow_right (show 0 < p.toNat by omega) z
    have e : ∀ m : Nat, p ^ m = ((p.toNat ^ m : Nat) : Int) := fun m => by rw [Int.natCast_pow, Int.toNat_of_nonneg (by omega)]
    rw [e, e]
    exact Int.ofNat_le.mpr this
  have h3 : 1 * p ^ k ≤ x * p ^ k := Int.mul_le_mul_of_nonneg_right hx (by omega)
  omega
/-! ### k94: what the law asks of a kept text -/
def SmL (ls : List Int) : Prop := ∀ z ∈ ls, z.natAbs < 2 ^ 20
def FitN (n : Int) (y : Sty) : Prop := n.natAbs < 2 ^ 40 ∧ y.shift.natAbs < 10 ^ 31
theorem FitN.fit {b n : Int} {y : Sty} {ls : List Int} (h : FitN n y) (hs : SmL ls) : Fit b n y ls :=
  ⟨Nat.lt_of_lt_of_le h.1 (Nat.pow_le_pow_right (by decide) (by decide)), Nat.lt_trans h.2 (by decide +kernel), fun z hz => Nat.lt_of_lt_of_le (hs z hz) (Nat.pow_le_pow_right (by decide) (by decide))⟩
theorem SmL.take {ls : List Int} (h : SmL ls) (k : Nat) : SmL (ls.take k) := fun z hz => h z (List.mem_of_mem_take hz)
theorem SmL.drop {ls : List Int} (h : SmL ls) (k : Nat) : SmL (ls.drop k) := fun z hz => h z (List.mem_of_mem_drop hz)
theorem SmL.app {ls ms : List Int} (h : SmL ls) (h2 : SmL ms) : SmL (ls ++ ms) := fun z hz => (List.mem_append.mp hz).elim (h z) (h2 z)
/-- a kept text beside a purse -/
structure KB (c : CA) (Ck a : Addr) (cc : Int) (H : Hp) (A : KpA) (b : Int) (ps : List (Int × Int)) (y : Sty) (ls : List Int) (past : List Pst) : Prop where
  u : Purse H a cc
  k : KpAt c Ck (rm a H) A b ps y ls past
  f : FitN (num ps) y
  s : SmL ls
def spJn (c : CA) (Ck : Addr) : Sp := fun vs H Q _ => ∃ (a : Addr) (cc : Int) (A : KpA) (b : Int) (ps : List (Int × Int)) (y : Sty) (ls : List Int) (past : List Pst), vs = [.ref a, .ref A.k, .ref A.w] ∧ cc < 2 ^ 47 ∧ KB c Ck a cc H A b ps y ls past ∧ ls.length ≤ 100 ∧
  ∀ H', Off A (rm a H) (rm a H') → KB c Ck a (cc + 10) H' A b ps y ls past → Q (.bl true) H'
def spSt (c : CA) (Ck : Addr) : Sp := fun vs H Q _ => ∃ (a : Addr) (cc : Int) (A : KpA) (b : Int) (ps : List (Int × Int)) (y : Sty) (ls : List Int) (past : List Pst), vs = [.ref a, .ref A.k, .ref A.w] ∧ cc < 2 ^ 47 ∧ KB c Ck a cc H A b ps y ls past ∧ 1 ≤ ls.length ∧ ls.length ≤ 100 ∧ past.length ≤ 100 ∧
  ∀ ls' past' H', ls'.length = ls.length → past'.length = past.length + 1 → Off A (rm a H) (rm a H') → KB c Ck a (cc + 10) H' A b ps y ls' past' → Q (.bl true) H'
def spRl (c : CA) (Ck : Addr) : Sp := fun vs H Q _ => ∃ (a : Addr) (cc : Int) (A : KpA) (b : Int) (ps : List (Int × Int)) (y : Sty) (ls : List Int) (past : List Pst), vs = [.ref a, .ref A.k, .ref A.w, .bl (decide (Int.gcd b (num ps) = 1))] ∧ cc < 2 ^ 47 ∧ KB c Ck a cc H A b ps y ls past ∧ 1 ≤ ls.length ∧ ls.length ≤ 100 ∧
  ∀ H', Off A (rm a H) (rm a H') → KB c Ck a (cc + 10) H' A b ps y ls past → Q (.bl true) H'
section
variable {P : Program} {w : World} {K : PySem.W.Frag} {mg : Str → Option Value} {base : Heap} {k : Nat} {C : Addr} {sp : Sp} {x : Str} {dvs : List V}
theorem ownF (c : OwnM P w K mg base L2.CX0 k C x sp) : OwnM P w K mg base L2.CX0 k C x (fr sp) := by
  obtain ⟨f, fd, ps, h1, h2, h3, F, b⟩ := c.ex
  exact ⟨f, fd, ps, h1, h2, h3, FnOk.or F (FnOk.frame F (fun _ _ _ _ _ h => h.elim)), b⟩
theorem makF (c : C8.Mak P w K mg base k x C sp dvs) : C8.Mak P w K mg base k x C (fr sp) dvs := by
  obtain ⟨f, fd, ps, ds, M, F, r⟩ := c
  exact ⟨f, fd, ps, ds, M, FnOk.or F (FnOk.frame F (fun _ _ _ _ _ h => h.elim)), r⟩
end
theorem w_getK {c : CA} {Ck : Addr} {H : Hp} {A : KpA} {b : Int} {ps : List (Int × Int)} {y : Sty} {ls : List Int} {past : List Pst} {Q : VK} {E : XK} {m : Nat} {z : Int} (h : KpAt c Ck H A b ps y ls past) (hz : ls[m]? = some z) (q : Q (.int z) H) : rIxO Ck (spKnGet c Ck) E (.ref A.k) (.int m) H Q := by
  obtain ⟨⟨r, e1, _⟩, _⟩ := id h
  exact ⟨A.k, A.dx, _, rfl, e1, A, b, ps, y, ls, past, m, z, rfl, h, hz, q⟩
theorem cat_strch (ls : List Int) {i j k : Nat} (h1 : i ≤ j) (h2 : j ≤ k) (h3 : k ≤ ls.length) : (ls.take j).drop i ++ (ls.take k).drop j = (ls.take k).drop i := by
  have e : ls.take j = (ls.take k).take j := by rw [List.take_take, Nat.min_eq_left h2]
  have e2 : (ls.take k).drop i = ((ls.take k).take j ++ (ls.take k).drop j).drop i := by rw [List.take_append_drop]
  rw [e2, List.drop_append_of_le_length (by simp only [List.length_take]; omega), e]
section
variable {c : CA} {Ck : Addr} {H H' : Hp} {A : KpA} {b : Int} {ps : List (Int × Int)} {y : Sty} {ls : List Int} {past : List Pst}
theorem KpAt.fresh {p : Addr} (h : KpAt c Ck H A b ps y ls past) (n : H p = none) : p ≠ A.k ∧ p ≠ A.l ∧ p ≠ A.p := by
  obtain ⟨⟨r, h1, _⟩, h3, ⟨ts, h4, _⟩, _⟩ := h
  exact ⟨(fun e => by rw [e, h1] at n; cases n), (fun e => by rw [e, h3] at n; cases n), (fun e => by rw [e, h4] at n; cases n)⟩
theorem Off.at {p : Addr} {o : HO} (s : Off A H H') (n : p ≠ A.k ∧ p ≠ A.l ∧ p ≠ A.p) (h : H p = some o) : H' p = some o := s _ _ n.1 n.2.1 n.2.2 h
end
theorem put_set {ls : List Int} {m : Nat} {z : Int} (h : m < ls.length) : ls.take m ++ [z] ++ ls.drop (m + 1) = ls.set m z := by
  rw [List.set_eq_take_append_cons_drop, if_pos h, List.append_assoc]
  rfl
theorem strch_set {ls : List Int} {i j m : Nat} {z : Int} (h1 : i ≤ m) (h2 : m < j) : ((ls.set m z).take j).drop i = ((ls.take j).drop i).set (m - i) z := by
  rw [List.take_set, List.drop_set, if_neg (by omega)]
theorem strch_cons {ls : List Int} {i j : Nat} {o : Int} (hi : ls[i]? = some o) (h : i < j) : (ls.take j).drop i = o :: (ls.take j).drop (i + 1) := by
  have hl := (List.getElem?_eq_some_iff.mp hi)
  obtain ⟨h1, h2⟩ := hl
  have h3 : i < (ls.take j).length := by rw [List.length_take]; omega
  rw [List.drop_eq_getElem_cons h3, List.getElem_take, h2]
theorem strch_snoc {ls : List Int} {i j : Nat} {z : Int} (hj : ls[j]? = some z) (h : i ≤ j) : (ls.take (j + 1)).drop i = (ls.take j).drop i ++ [z] := by
  obtain ⟨h1, h2⟩ := List.getElem?_eq_some_iff.mp hj
  rw [List.take_succ_eq_append_getElem h1, h2, List.drop_append_of_le_length (by rw [List.length_take]; omega)]
section
variable {c : CA} {Ck : Addr} {H : Hp} {A : KpA} {b : Int} {ps : List (Int × Int)} {y : Sty} {ls : List Int} {past : List Pst}
theorem w_setK {a : Addr} {cc : Int} {E : XK} {m : Nat} {z : Int} {Q : Hp → Prop} (pu : Purse H a cc) (hk : KpAt c Ck (rm a H) A b ps y ls past) (hp : past.length < 1000) (hl : ls.length < 1000) (hm : m < ls.length)
    (q : ∀ H', Off A (rm a H) (rm a H') → Purse H' a cc → KpAt c Ck (rm a H') A b ps y (ls.set m z) (past ++ [⟨m, m + 1, (ls.take (m + 1)).drop m⟩]) → Q H') :
    tSetO Ck (fr (spKnSet c Ck)) E (.ref A.k) (.int m) (.int z) H Q := by
  obtain ⟨⟨r, e1, _⟩, _⟩ := id hk
  exact ⟨A.k, A.dx, _, rfl, rm_le _ _ e1, use_knSetR pu hk hp hl hm fun H' o u h => q H' o u (by rw [← put_set hm]; exact h)⟩
theorem KpAt.waz {a : Addr} (h : KpAt c Ck (rm a H) A b ps y ls past) : WayAt c H A.w b ps y := h.way.same rm_le
theorem SmL.set {ls : List Int} {m : Nat} {z : Int} (h : SmL ls) (hz : z.natAbs < 2 ^ 20) : SmL (ls.set m z) := fun x hx => by
  rcases List.mem_or_eq_of_mem_set hx with h' | rfl
  · exact h x h'
  · exact hz
end

end Bc
namespace Bc
open PySem PySem.Spec PyProof.Rows L2
/-! ### k94: clashing stretches are false places of one another -/
theorem drop_rng (N i : Nat) : (List.range N).drop i = List.range' i (N - i) := by
  apply List.ext_getElem
  · simp
  · intro n h1 h2; simp
theorem rng_cut {N s i : Nat} (h : s < N) (hi : i ≤ s) : List.range' i (N - i) = List.range' i (s - i) ++ s :: List.range' (s + 1) (N - (s + 1)) := by
  rw [show N - i = (s - i) + ((N - (s + 1)) + 1) by omega, ← List.range'_append_1, show i + (s - i) = s by omega, List.range'_succ]
theorem fil_s {N s i : Nat} (h : s < N) (hi : i ≤ s) (f : Nat → Bool) : (List.range' i (N - i)).filter (fun j => decide (j = s) && f j) = if f s then [s] else [] := by
  have e1 : (List.range' i (s - i)).filter (fun j => decide (j = s) && f j) = [] := List.filter_eq_nil_iff.mpr fun j hj => by
    have := List.mem_range'_1.mp hj
    simp only [Bool.and_eq_true, decide_eq_true_eq, not_and]
    intro e
    omega
  have e2 : (List.range' (s + 1) (N - (s + 1))).filter (fun j => decide (j = s) && f j) = [] := List.filter_eq_nil_iff.mpr fun j hj => by
    have := List.mem_range'_1.mp hj
    simp only [Bool.and_eq_true, decide_eq_true_eq, not_and]
    intro e
    omega
  rw [rng_cut h hi, List.filter_append, List.filter_cons, e1, e2, List.nil_append]
  cases hf : f s with
  | true => rw [if_pos (by simp), if_pos rfl]
  | false => rw [if_neg (by simp), if_neg (by decide)]
theorem clP_comm {y : Sty} {b n : Int} {ls : List Int} {k i j : Nat} : clP y b n ls k i j = clP y b n ls k j i := by
  unfold clP
  have e1 : decide (mark y b n (strch ls k i) = mark y b n (strch ls k j)) = decide (mark y b n (strch ls k j) = mark y b n (strch ls k i)) := decide_eq_decide.mpr ⟨fun h => h.symm, fun h => h.symm⟩
  have e2 : decide (strch ls k i = strch ls k j) = decide (strch ls k j = strch ls k i) := decide_eq_decide.mpr ⟨fun h => h.symm, fun h => h.symm⟩
  rw [e1, e2]
theorem clP_self {y : Sty} {b n : Int} {ls : List Int} {k i : Nat} : clP y b n ls k i i = false := by
  unfold clP
  rw [decide_eq_true (rfl : strch ls k i = strch ls k i), Bool.not_true, Bool.and_false]
def bsd (s : Nat) (p : Nat × Nat) : Bool := decide (s = p.1) || decide (s = p.2)
theorem row_lt {y : Sty} {b n : Int} {ls : List Int} {k i s : Nat} (h : i < s) (hs : s < nSt ls k) : ((clRow y b n ls k i ((List.range (nSt ls k)).drop (i + 1))).filter (bsd s)).map (fun p => p.1 + p.2 - s) = if clP y b n ls k i s then [i] else [] := by
  unfold clRow
  rw [List.filter_map, List.filter_filter, drop_rng]
  have e : (fun a => (bsd s ∘ fun j => (i, j)) a && clP y b n ls k i a) = fun j => decide (j = s) && clP y b n ls k i j := by
    funext j
    show ((decide (s = i) || decide (s = j)) && clP y b n ls k i j) = (decide (j = s) && clP y b n ls k i j)
    rw [decide_eq_false (show ¬ s = i by omega), Bool.false_or, show decide (s = j) = decide (j = s) from decide_eq_decide.mpr ⟨fun h => h.symm, fun h => h.symm⟩]
  rw [e, fil_s hs h]
  by_cases hc : clP y b n ls k i s = true
  · rw [if_pos hc, if_pos hc]
    show [i + s - s] = [i]
    rw [Nat.add_sub_cancel]
  · rw [if_neg hc, if_neg hc]
    rfl
theorem row_eq {y : Sty} {b n : Int} {ls : List Int} {k s : Nat} : ((clRow y b n ls k s ((List.range (nSt ls k)).drop (s + 1))).filter (bsd s)).map (fun p => p.1 + p.2 - s) = (List.range' (s + 1) (nSt ls k - (s + 1))).filter (fun j => clP y b n ls k j s) := by
  unfold clRow
  rw [List.filter_map, List.filter_filter, drop_rng, List.map_map]
  have e : (fun a => (bsd s ∘ fun j => (s, j)) a && clP y b n ls k s a) = fun j => clP y b n ls k j s := by
    funext j
    show ((decide (s = s) || decide (s = j)) && clP y b n ls k s j) = clP y b n ls k j s
    rw [decide_eq_true (rfl : s = s), Bool.true_or, Bool.true_and, clP_comm]
  rw [e]
  conv => rhs; rw [← List.map_id (List.filter _ _)]
  refine List.map_congr_left fun j _ => ?_
  show s + j - s = j
  omega
theorem row_gt {y : Sty} {b n : Int} {ls : List Int} {k i s : Nat} (h : s < i) : ((clRow y b n ls k i ((List.range (nSt ls k)).drop (i + 1))).filter (bsd s)).map (fun p => p.1 + p.2 - s) = [] := by
  unfold clRow
  rw [List.filter_map, drop_rng, List.map_map, List.map_eq_nil_iff, List.filter_eq_nil_iff]
  intro j hj
  have := List.mem_range'_1.mp (List.mem_filter.mp hj).1
  show ¬ (decide (s = i) || decide (s = j)) = true
  simp only [Bool.or_eq_true, decide_eq_true_eq]
  omega
theorem beside_false {y : Sty} {b n : Int} {ls : List Int} {k s : Nat} (hs : s < nSt ls k) (hk : (strch ls k s).length = k) : ((clashP y b n ls k).filter (bsd s)).map (fun p => p.1 + p.2 - s) = flsP y b n (strch ls k s) ls := by
  have e0 : flsP y b n (strch ls k s) ls = (List.range (nSt ls k)).filter fun j => clP y b n ls k j s := by
    unfold flsP plcs
    rw [hk, List.filter_filter]
    refine List.filter_congr fun j _ => ?_
    unfold clP
    rw [Bool.and_comm]
  rw [e0]
  unfold clashP
  rw [List.filter_flatMap, List.map_flatMap]
  have er : List.range (nSt ls k) = List.range' 0 s ++ s :: List.range' (s + 1) (nSt ls k - (s + 1)) := by
    rw [List.range_eq_range', show nSt ls k = nSt ls k - 0 by omega, rng_cut hs (Nat.zero_le _), Nat.sub_zero]
    rfl
  have e1 : ∀ l : List Nat, (∀ i ∈ l, i < s) → l.flatMap (fun i => ((clRow y b n ls k i ((List.range (nSt ls k)).drop (i + 1))).filter (bsd s)).map (fun p => p.1 + p.2 - s)) = l.filter fun j => clP y b n ls k j s := by
    intro l
    induction l with
    | nil => intro _; rfl
    | cons x l ih =>
      intro h
      rw [List.flatMap_cons, ih fun i hi => h i (List.mem_cons_of_mem _ hi), row_lt (h x (List.mem_cons_self ..)) hs, List.filter_cons]
      split <;> rfl
  have e2 : ∀ l : List Nat, (∀ i ∈ l, s < i) → l.flatMap (fun i => ((clRow y b n ls k i ((List.range (nSt ls k)).drop (i + 1))).filter (bsd s)).map (fun p => p.1 + p.2 - s)) = [] := by
    intro l
    induction l with
    | nil => intro _; rfl
    | cons x l ih =>
      intro h
      rw [List.flatMap_cons, ih fun i hi => h i (List.mem_cons_of_mem _ hi), row_gt (h x (List.mem_cons_self ..))]
      rfl
  have key : ∀ l : List Nat, l = List.range' 0 s ++ s :: List.range' (s + 1) (nSt ls k - (s + 1)) → l.flatMap (fun i => ((clRow y b n ls k i ((List.range (nSt ls k)).drop (i + 1))).filter (bsd s)).map (fun p => p.1 + p.2 - s)) = l.filter fun j => clP y b n ls k j s := by
    intro l hl
    rw [hl, List.flatMap_append, List.flatMap_cons, e1 _ (fun i hi => by have := List.mem_range'_1.mp hi; omega), row_eq, e2 _ (fun i hi => by have := List.mem_range'_1.mp hi; omega), List.filter_append, List.filter_cons, if_neg (by rw [clP_self]; decide), List.append_nil]
  exact key _ er

end Bc
namespace Bc
open PySem PySem.Spec PyProof.Rows L2
/-! ### k94: slices, comprehensions over pairs -/
theorem cut_str (ls : List Int) {i k : Nat} (hi : i ≤ ls.length) : cutV (ls.map V.int) (some (i : Int)) (some ((i + k : Nat) : Int)) = (strch ls k i).map V.int := by
  unfold cutV strch
  rw [List.length_map, HT.sIx_nat, HT.sIx_nat, Nat.min_eq_left hi, ← List.map_drop, ← List.map_take]
  congr 1
  rw [← List.drop_take]
  by_cases h : i + k ≤ ls.length
  · rw [Nat.min_eq_left h]
  · rw [Nat.min_eq_right (by omega), List.take_length, List.take_of_length_le (by omega)]
theorem w_slAt {K : PySem.W.Frag} {H : Hp} {t : Addr} {ls : List Int} {i k : Nat} {Q : VK} (h : H t = some (.tup (ls.map V.int))) (hi : i ≤ ls.length) (q : ∀ u H', Same H H' → H' u = some (.tup ((strch ls k i).map V.int)) → Q (.ref u) H') : rSlA K (.ref t) (some (i : Int)) (some ((i : Int) + (k : Int))) H Q := by
  rw [← Int.natCast_add]
  refine ⟨t, ls.map V.int, rfl, sqt h, fun hw => ?_, fun hw u hu => ?_⟩
  · rw [HT.sIx_nat, HT.sIx_nat, List.length_map] at hw
    refine q t H (Same.refl _) ?_
    rw [h]
    unfold strch
    rw [show i = 0 by omega, List.drop_zero, List.take_of_length_le (by omega)]
  · rw [cut_str ls hi]
    exact q u _ (Same.new hu) upd_same
theorem w_neNN {K : PySem.W.Frag} {H : Hp} {a b : Addr} {ms ns : List Nat} {Q : VK} (ha : SqL K H a (ms.map fun i : Nat => V.int i)) (hb : SqL K H b (ns.map fun i : Nat => V.int i)) (e : ms = ns) (q : Q (.bl false) H) : rNeD K (.ref a) (.ref b) H Q := by
  have em : ∀ zs : List Nat, (zs.map fun i : Nat => V.int i) = (zs.map fun i : Nat => (i : Int)).map V.int := fun zs => by rw [List.map_map]; rfl
  rw [em] at ha hb
  refine w_neLL ha hb ?_
  rw [e, decide_eq_true rfl]
  exact q
theorem w_eqNN {K : PySem.W.Frag} {H : Hp} {a b : Addr} {ms ns : List Nat} {Q : VK} (ha : SqL K H a (ms.map fun i : Nat => V.int i)) (hb : SqL K H b (ns.map fun i : Nat => V.int i)) (e : ms = ns) (q : Q (.bl true) H) : rEqD K (.ref a) (.ref b) H Q := by
  have em : ∀ zs : List Nat, (zs.map fun i : Nat => V.int i) = (zs.map fun i : Nat => (i : Int)).map V.int := fun zs => by rw [List.map_map]; rfl
  rw [em] at ha hb
  refine w_eqLL ha hb ?_
  rw [e, decide_eq_true rfl]
  exact q
section
variable {J : It} {G : Hp → Prop} {K : PySem.W.Frag} {tt : TT} {te : TE} {vs : List Nat} {σ : L2.St} {H : Hp} {D : Addr} {Qd : Hp → Prop} {i j : Nat}
theorem lc_pairsQ (us : List (V × V)) (ts : List Addr) (p : V × V → Bool) (R : V × V → V → Hp → Prop) (mono : ∀ x y G G', Same G G' → R x y G → R x y G') (w : Walk J (ts.map V.ref).length G (YAt (ts.map V.ref))) (hp : Paired (fun q t => H t = some (.tup [q.1, q.2])) us ts) (hD : H D = none) (hG : ∀ H', Same H H' → G H') (sz : us.length ≤ 100000)
    (wp : ∀ u v, wipe (((wipe σ vs).set i u).set j v) vs = wipe σ vs)
    (tst : ∀ (n : Nat) (q : V × V) (H' : Hp), us[n]? = some q → Same H H' → ∀ Q' : Bool → Hp → Prop, (∀ H'', Same H' H'' → Q' (p q) H'') → tt (((wipe σ vs).set i (some q.1)).set j (some q.2)) H' Q')
    (step : ∀ (n : Nat) (q : V × V) (H' : Hp), us[n]? = some q → p q = true → Same H H' → (∃ acc, H' D = some (.lst acc)) → ∀ Q' : VK, (∀ (y : V) (H'' : Hp), Same H' H'' → R q y (rm D H'') → Q' y H'') → te (((wipe σ vs).set i (some q.1)).set j (some q.2)) H' Q')
    (q : ∀ (H' : Hp) (ys : List V), Same H H' → H' D = some (.lst ys) → Paired (fun x y => R x y H') (us.filter p) ys → Qd H') :
    ∃ W : Nat → Nat → Hp → Prop, (∃ m, W 0 m (upd H D (.lst []))) ∧ ∀ n m H, W n m H →
      (J.stop n H ∧ Qd H) ∨ (J.go n H ∧ ∃ Nx : Hp → Prop, (∀ H', Nx H' → ∃ m', m' < m ∧ W (n + 1) m' H') ∧ ∀ x H', J.yld n H x H' → gTup K 2 (gCons (gName i) (gCons (gName j) gNil)) x (wipe σ vs) H' fun σ2 H2 => wipe σ2 vs = wipe σ vs ∧ tt σ2 H2 fun b H3 =>
        if b = true then te σ2 H3 fun y H4 => ∃ acc, H4 D = some (.lst acc) ∧ acc.length < sizeLine ∧ Nx (upd H4 D (.lst (acc ++ [y]))) else Nx H3) := by
  have hl := hp.length
  refine lc_it w (fun n H' => ∃ ys : List V, Same H (rm D H') ∧ H' D = some (.lst ys) ∧ Paired (fun x y => R x y (rm D H')) ((us.take n).filter p) ys) ⟨[], ?_, upd_same, .nil⟩ (fun n H' _ h => by obtain ⟨_, k, _⟩ := h; exact hG H' (k.trans rm_le)) ?_ ?_
  · rw [rm_updS]
    exact rm_in hD (Same.refl _)
  · rintro n x H1 H' hn ⟨ys, h1, h3, h4⟩ ⟨rfl, hx⟩
    obtain ⟨t, ht, rfl⟩ := get_map hx
    obtain ⟨pr, hpr, htp⟩ := paired_get hp ht
    have hn' : n < us.length := (List.getElem?_eq_some_iff.mp hpr).1
    have e : us[n] = pr := by rw [List.getElem?_eq_getElem hn'] at hpr; exact Option.some.inj hpr
    have tk : (us.take (n + 1)).filter p = (us.take n).filter p ++ [pr].filter p := by rw [List.take_succ_eq_append_getElem hn', e, List.filter_append]
    refine w_gtup (sqt ((h1.trans rm_le) _ _ htp)) rfl (w_gcons (w_name (w_gcons (w_name (w_gnil ⟨wp _ _, ?_⟩)))))
    refine tst n pr H' hpr (h1.trans rm_le) _ fun H2 s2 => ?_
    cases hq : p pr with
    | true =>
      refine iteT (step n pr H2 hpr hq ((h1.trans rm_le).trans s2) ⟨_, s2 _ _ h3⟩ _ fun y H3 s3 r => ?_)
      have s23 := s2.trans s3
      have el := h4.length
      have h5 := List.length_filter_le p (us.take n)
      rw [List.length_take] at h5
      refine ⟨ys, s23 _ _ h3, ?_, ys ++ [y], ?_, upd_same, ?_⟩
      · have : (100000 : Nat) < sizeLine := by decide
        omega
      · rw [rm_updS]
        exact h1.trans s23.rm
      · rw [rm_updS, tk, List.filter_cons, if_pos hq]
        exact Paired.snoc (paired_imp (fun _ _ z => mono _ _ _ _ s23.rm z) h4) r
    | false =>
      refine iteF ⟨ys, h1.trans s2.rm, s2 _ _ h3, ?_⟩
      rw [tk, List.filter_cons, if_neg (by rw [hq]; decide), List.filter_nil, List.append_nil]
      exact paired_imp (fun _ _ z => mono _ _ _ _ s2.rm z) h4
  · rintro H' ⟨ys, h1, h3, h4⟩
    rw [List.length_map, ← hl, List.take_length] at h4
    exact q H' ys (h1.trans rm_le) h3 (paired_imp (fun _ _ z => mono _ _ _ _ rm_le z) h4)
end
/-- marks of the stretches of a length, with their places -/
def CutAt (G : Hp) (y : Sty) (b n : Int) (ls : List Int) (k : Nat) (is : List Nat) (ts : List Addr) : Prop := Paired (fun (i : Nat) t => G t = some (.tup [.int i, .int (mark y b n (strch ls k i))])) is ts
section
variable {c : CA} {Ck : Addr} {H H' : Hp} {A : KpA} {b : Int} {ps : List (Int × Int)} {y : Sty} {ls : List Int} {past : List Pst}
/-- where the marks of the stretches are gathered -/
def CutI (c : CA) (Ck a : Addr) (cc : Int) (H0 : Hp) (A : KpA) (b : Int) (ps : List (Int × Int)) (y : Sty) (ls : List Int) (past : List Pst) (k i : Nat) (ys : List V) (G : Hp) : Prop :=
  Off A (rm a H0) (rm a G) ∧ Purse G a cc ∧ KpAt c Ck (rm a G) A b ps y ls past ∧ ∃ ts : List Addr, ys = ts.map V.ref ∧ CutAt (rm a G) y b (num ps) ls k (List.range i) ts
theorem use_knMarkRD {a D : Addr} {cc : Int} {E : XK} {u : V} {Q : VK} {acc : List V} (hD : H D = some (.lst acc)) (pu : Purse (rm D H) a cc) (hk : KpAt c Ck (rm a (rm D H)) A b ps y ls past) {i j : Nat} (hu : (if u = .non then .int ls.length else u) = .int j) (hij : i ≤ j) (hj : j ≤ ls.length) (hf : Fit b (num ps) y ls)
    (q : ∀ H', Off A (rm a (rm D H)) (rm a H') → Purse H' a cc → KpAt c Ck (rm a H') A b ps y ls past → H' D = none → Q (.int (mark y b (num ps) ((ls.take j).drop i))) (upd H' D (.lst acc))) :
    fr (fr (spKnMark c Ck)) [.ref A.k, .int i, u] H Q E :=
  .inr ⟨D, acc, hD, use_knMarkR pu hk hu hij hj hf fun H' o u k n => q H' o u k n⟩
end
theorem paired_mapL {α β γ : Type} {P : β → γ → Prop} {f : α → β} : ∀ {xs : List α} {ys : List γ}, Paired (fun x y => P (f x) y) xs ys → Paired P (xs.map f) ys
  | _, _, .nil => .nil
  | _, _, .cons h t => .cons h (paired_mapL t)
def cutU (y : Sty) (b n : Int) (ls : List Int) (k : Nat) : List (V × V) := (List.range (nSt ls k)).map fun i : Nat => (V.int i, V.int (mark y b n (strch ls k i)))
theorem cutU_len {y : Sty} {b n : Int} {ls : List Int} {k : Nat} : (cutU y b n ls k).length = nSt ls k := by unfold cutU; rw [List.length_map, List.length_range]
theorem CutAt.us {G : Hp} {y : Sty} {b n : Int} {ls : List Int} {k : Nat} {ts : List Addr} (h : CutAt G y b n ls k (List.range (nSt ls k)) ts) : Paired (fun q t => G t = some (.tup [q.1, q.2])) (cutU y b n ls k) ts := paired_mapL h
theorem cut_fil {y : Sty} {b n : Int} {ls M : List Int} : (((cutU y b n ls M.length).filter fun q => decide (q.2 = V.int (mark y b n M))).map fun q => q.1) = (plcs y b n M ls).map fun i : Nat => V.int i := by
  unfold cutU plcs
  rw [List.filter_map, List.map_map]
  have e : ((fun q : V × V => decide (q.2 = V.int (mark y b n M))) ∘ fun i : Nat => (V.int i, V.int (mark y b n (strch ls M.length i)))) = fun i : Nat => decide (mark y b n (strch ls M.length i) = mark y b n M) := by
    funext i
    exact decI
  rw [e]
  rfl
def inB (st : Nat) (q : V × V) : Bool := inV (V.int st) [q.1, q.2]
theorem inB_bsd {st : Nat} {p : Nat × Nat} : inB st (V.int p.1, V.int p.2) = bsd st p := by
  have e1 : ∀ a b : Nat, eqV (V.int a) (V.int b) = decide (b = a) := fun a b => by
    show ((a : Int) == b) = _
    by_cases h : b = a
    · rw [h, decide_eq_true rfl]
      exact beq_self_eq_true _
    · rw [decide_eq_false h]
      exact beq_eq_false_iff_ne.mpr fun e => h (by omega)
  unfold inB inV bsd
  rw [List.any_cons, List.any_cons, List.any_nil, Bool.or_false, e1, e1]
def prU (prs : List (Nat × Nat)) : List (V × V) := prs.map fun p => (V.int p.1, V.int p.2)
theorem prU_fil {st : Nat} {prs : List (Nat × Nat)} : (prU prs).filter (inB st) = prU (prs.filter (bsd st)) := by
  unfold prU
  rw [List.filter_map]
  congr 1
  exact List.filter_congr fun p _ => inB_bsd
theorem clashP_len {y : Sty} {b n : Int} {ls : List Int} {k : Nat} : (clashP y b n ls k).length ≤ nSt ls k * nSt ls k := by
  have key : ∀ l : List Nat, (l.flatMap fun i => clRow y b n ls k i ((List.range (nSt ls k)).drop (i + 1))).length ≤ l.length * nSt ls k := by
    intro l
    induction l with
    | nil => exact Nat.zero_le _
    | cons x l ih =>
      rw [List.flatMap_cons, List.length_append, List.length_cons, Nat.succ_mul]
      have h1 : (clRow y b n ls k x ((List.range (nSt ls k)).drop (x + 1))).length ≤ nSt ls k := by
        unfold clRow
        rw [List.length_map]
        have h2 := List.length_filter_le (clP y b n ls k x) ((List.range (nSt ls k)).drop (x + 1))
        rw [List.length_drop, List.length_range] at h2
        omega
      omega
  have h := key (List.range (nSt ls k))
  rwa [List.length_range] at h
def SumR (q : V × V) (v : V) (G : Hp) : Prop := ∀ i j : Nat, q = (V.int i, V.int j) → ∃ (t : Addr) (ns : List Int), v = .ref t ∧ G t = some (.lst (ns.map V.int)) ∧ ns.sum = i + j
theorem perm_sum {xs ys : List Int} (h : xs.Perm ys) : xs.sum = ys.sum := by
  induction h with
  | nil => rfl
  | cons x _ ih => rw [List.sum_cons, List.sum_cons, ih]
  | swap x y l => simp only [List.sum_cons]; omega
  | trans _ _ h1 h2 => rw [h1, h2]
theorem bsd_le {st : Nat} {p : Nat × Nat} (h : bsd st p = true) : st ≤ p.1 + p.2 := by
  unfold bsd at h
  simp only [Bool.or_eq_true, decide_eq_true_eq] at h
  omega
/-! ### a text times a number -/
def rMulS : R2 := fun x y H Q => ∃ (z : Str) (k : Int), x = .str z ∧ y = .int k ∧ MulOk z k ∧ Q (.str (Txt.mul z k)) H
theorem op_mulStr {X : Cx} : OpR X (binaryOp .Mult) rMulS := by
  intro pins s σ H x y v u Q I rx ry h
  obtain ⟨z, k, rfl, rfl, hm, q⟩ := h
  obtain ⟨t, rfl⟩ := rx
  obtain ⟨t', rfl⟩ := ry
  exact SB.mul hm fun t' tk => ⟨.str _, H, I.tok _, ⟨_, rfl⟩, q⟩
theorem w_mulB {z : Str} {b : Bool} {H : Hp} {Q : VK} (h0 : b = false → Q (.str "") H) (h1 : b = true → Q (.str z) H) : rMulS (.str z) (.int (if b then 1 else 0)) H Q := by
  cases b with
  | false => exact ⟨z, 0, rfl, rfl, ⟨by decide, fun h => absurd (by decide) h, fun h => absurd (by decide) h⟩, h0 rfl⟩
  | true => exact ⟨z, 1, rfl, rfl, ⟨by decide, fun _ h => absurd h (by simp), fun _ h => absurd h (by simp)⟩, h1 rfl⟩
section
variable {c : CA} {Ck : Addr} {H : Hp} {A : KpA} {b : Int} {ps : List (Int × Int)} {y : Sty} {ls : List Int} {past : List Pst}
theorem w_iaddK {a : Addr} {cc : Int} {E : XK} {v : V} {ms : List Int} {Q : VK} (pu : Purse H a cc) (hk : KpAt c Ck (rm a H) A b ps y ls past) (hp : past.length < 1000) (ht : TextAt (rm a H) v ms) (hz : ls.length + ms.length ≤ 1000)
    (q : ∀ H', Off A (rm a H) (rm a H') → Purse H' a cc → KpAt c Ck (rm a H') A b ps y (ls ++ ms) (past ++ [⟨ls.length, ls.length + ms.length, (ls.take ls.length).drop ls.length⟩]) → Q (.ref A.k) H') :
    tIpO Ck (fr (spKnIadd c Ck)) E (.ref A.k) v H Q := by
  obtain ⟨⟨r, e1, _⟩, _⟩ := id hk
  refine ⟨A.k, A.dx, _, rfl, rm_le _ _ e1, use_knIaddR pu hk hp ht hz fun H' o u h => ⟨⟨_, rfl⟩, q H' o u ?_⟩⟩
  rw [List.take_length, List.drop_length, List.append_nil] at h
  rw [List.take_length, List.drop_length]
  exact h
end
def spRight94 : Sp := fun vs H Q _ => ∃ (a : Addr) (c : Int), vs = [.ref a] ∧ c < 2 ^ 46 ∧ Purse H a c ∧ ∀ H', Same (rm a H) (rm a H') → Purse H' a (c + 2000000000) → Q (.bl true) H'
theorem rep_flat {α : Type} (x : α) (n : Nat) : (List.replicate n [x]).flatten = List.replicate n x := by
  induction n with
  | zero => rfl
  | succ n ih => rw [List.replicate_succ, List.flatten_cons, ih, List.replicate_succ]; rfl
theorem dec_gcd {b n : Int} : decide (V.int ((Int.gcd b n : Nat) : Int) = V.int 1) = decide (Int.gcd b n = 1) := by
  rw [decI]
  exact decide_eq_decide.mpr ⟨fun h => by omega, fun h => by omega⟩
theorem pick3 {x y z lo hi r : Int} (r0 : 0 ≤ r) (r1 : r < 3) (hx : lo ≤ x ∧ x ≤ hi) (hy : lo ≤ y ∧ y ≤ hi) (hz : lo ≤ z ∧ z ≤ hi) : ∃ w, ([x, y, z] : List Int).getD r.toNat 0 = w ∧ lo ≤ w ∧ w ≤ hi := by
  have hr : r = 0 ∨ r = 1 ∨ r = 2 := by omega
  rcases hr with rfl | rfl | rfl
  · exact ⟨x, rfl, hx⟩
  · exact ⟨y, rfl, hy⟩
  · exact ⟨z, rfl, hz⟩

end Bc
namespace Bc
open PySem PySem.Spec PyProof.Rows L2
/-! #### tuples of pairs, compared (as in k04lib) -/
def fP (q : Int × Int) : PyData := .tuple [.int q.1, .int q.2]
theorem dp_prs {K : PySem.W.Frag} {H : Hp} : ∀ {ps : List (Int × Int)} {ts : List Addr}, Paired (Tp H) ps ts → DpAll K H (ts.map V.ref) (ps.map fP)
  | _, _, .nil => .nil
  | _, _, .cons r t => .cons (.tup (sqt r) (.cons (.int _) (.cons (.int _) .nil))) (dp_prs t)
theorem lay_prs : ∀ ps : List (Int × Int), PyData.canLayAll0 (ps.map fP) = true
  | [] => rfl
  | q :: r => by
    rw [List.map_cons, PyData.canLayAll0, lay_prs r]
    rfl
theorem dep_prs : ∀ ps : List (Int × Int), PyData.depthAll (ps.map fP) ≤ 1
  | [] => Nat.zero_le _
  | q :: r => by
    rw [List.map_cons, PyData.depthAll]
    exact Nat.max_le.mpr ⟨Nat.le_refl _, dep_prs r⟩
theorem eqv_prs : ∀ ps qs : List (Int × Int), PyData.eqvAll (ps.map fP) (qs.map fP) = decide (ps = qs)
  | [], [] => rfl
  | [], _ :: _ => rfl
  | _ :: _, [] => rfl
  | (a, b) :: r, (c, d) :: t => by
    rw [List.map_cons, List.map_cons, PyData.eqvAll, eqv_prs r t]
    show (((a == c) && ((b == d) && true)) && decide (r = t)) = _
    by_cases h1 : a = c <;> by_cases h2 : b = d <;> by_cases h3 : r = t <;> simp [h1, h2, h3]
theorem shp_lst (ps : List (Int × Int)) : SeqAt.shaped (.list (ps.map fP)) = true := by
  unfold SeqAt.shaped
  rw [PyData.canLay0, lay_prs, PyData.depth]
  have := dep_prs ps
  simp only [Bool.true_and, decide_eq_true_eq]
  omega
theorem shp_tup (ps : List (Int × Int)) : SeqAt.shaped (.tuple (ps.map fP)) = true := by
  unfold SeqAt.shaped
  rw [PyData.canLay0, lay_prs, PyData.depth]
  have := dep_prs ps
  simp only [Bool.true_and, decide_eq_true_eq]
  omega
def PrT (H : Hp) (l : Addr) (ps : List (Int × Int)) : Prop := ∃ ts : List Addr, H l = some (.tup (ts.map V.ref)) ∧ Paired (Tp H) ps ts
theorem PrT.same {H H' : Hp} {l : Addr} {ps : List (Int × Int)} (h : PrT H l ps) (s : Same H H') : PrT H' l ps := by
  obtain ⟨ts, h1, h2⟩ := h
  exact ⟨ts, s _ _ h1, paired_imp (fun _ _ z => s _ _ z) h2⟩
theorem w_nePT {K : PySem.W.Frag} {H : Hp} {a b : Addr} {ps qs : List (Int × Int)} {Q : VK} (ha : PrT H a ps) (hb : PrT H b qs) (q : Q (.bl (!decide (ps = qs))) H) : rNeD K (.ref a) (.ref b) H Q := by
  obtain ⟨ts, h1, h2⟩ := ha
  obtain ⟨us, h3, h4⟩ := hb
  exact ⟨_, _, .tup (sqt h1) (dp_prs h2), .tup (sqt h3) (dp_prs h4), shp_tup _, shp_tup _, by rw [PyData.eqv, eqv_prs]; exact q⟩
theorem w_eqPT0 {K : PySem.W.Frag} {H : Hp} {a b : Addr} {ps qs : List (Int × Int)} {Q : VK} (ha : PrT H a ps) (hb : PrT H b qs) (q : Q (.bl (decide (ps = qs))) H) : rEqD K (.ref a) (.ref b) H Q := by
  obtain ⟨ts, h1, h2⟩ := ha
  obtain ⟨us, h3, h4⟩ := hb
  exact ⟨_, _, .tup (sqt h1) (dp_prs h2), .tup (sqt h3) (dp_prs h4), shp_tup _, shp_tup _, by rw [PyData.eqv, eqv_prs]; exact q⟩

end Bc
namespace Bc
open PySem PySem.Spec PyProof.Rows L2
/-! ### lists that a call does not know stay, any number of them -/
def hide (Ds : List Addr) (H : Hp) : Hp := fun b => if b ∈ Ds then none else H b
def back (Ds : List Addr) (H H' : Hp) : Hp := fun b => if b ∈ Ds then H b else H' b
def frN : Nat → Sp → Sp
  | 0, sp => sp
  | n + 1, sp => frm (frN n sp)
def hid (sp : Sp) : Sp := fun vs H Q E => ∃ n, frN n sp vs H Q E
section
variable {P : Program} {w : World} {K : PySem.W.Frag} {mg : Str → Option Value} {base : Heap} {k : Nat} {C f : Addr} {fd : FuncData} {ps : List Str} {sp : Sp} {x : Str} {dvs : List V}
theorem FnOk.frN (F : FnOk P w K mg base L2.CX0 k f fd ps sp) : ∀ n, FnOk P w K mg base L2.CX0 k f fd ps (Bc.frN n sp)
  | 0 => F
  | n + 1 => FnOk.frame (FnOk.frN F n) (fun _ _ _ _ _ h => h.elim)
theorem FnOk.hid (F : FnOk P w K mg base L2.CX0 k f fd ps sp) : FnOk P w K mg base L2.CX0 k f fd ps (Bc.hid sp) where
  len := fun vs H Q E ⟨n, h⟩ => (FnOk.frN F n).len _ _ _ _ h
  run := fun A outer s H args us vs Q E hr e hb hv ⟨n, h⟩ => (FnOk.frN F n).run A outer s H args us vs Q E hr e hb hv h
theorem calH (c : C8.Cal P w K mg base k x sp dvs) : C8.Cal P w K mg base k x (hid sp) dvs := by
  obtain ⟨f, fd, ps, ds, F, r⟩ := c
  exact ⟨f, fd, ps, ds, FnOk.hid F, r⟩
theorem metH (c : C8.Met P w K mg base k C x sp dvs) : C8.Met P w K mg base k C x (hid sp) dvs := by
  obtain ⟨f, fd, ps, ds, cl, hm, F, r⟩ := c
  exact ⟨f, fd, ps, ds, cl, hm, FnOk.hid F, r⟩
theorem makH (c : C8.Mak P w K mg base k x C sp dvs) : C8.Mak P w K mg base k x C (hid sp) dvs := by
  obtain ⟨f, fd, ps, ds, M, F, r⟩ := c
  exact ⟨f, fd, ps, ds, M, FnOk.hid F, r⟩
theorem ownH (c : OwnM P w K mg base L2.CX0 k C x sp) : OwnM P w K mg base L2.CX0 k C x (hid sp) := by
  obtain ⟨f, fd, ps, h1, h2, h3, F, b⟩ := c.ex
  exact ⟨f, fd, ps, h1, h2, h3, FnOk.hid F, b⟩
end
section
variable {Ds : List Addr} {H H' : Hp} {D b : Addr} {o : HO}
theorem hide_in (h : b ∈ Ds) : hide Ds H b = none := if_pos h
theorem hide_out (h : b ∉ Ds) : hide Ds H b = H b := if_neg h
theorem back_in (h : b ∈ Ds) : back Ds H H' b = H b := if_pos h
theorem back_out (h : b ∉ Ds) : back Ds H H' b = H' b := if_neg h
theorem hide_nil : hide [] H = H := by
  funext b
  exact if_neg (by simp)
theorem back_nil : back [] H H' = H' := by
  funext b
  exact if_neg (by simp)
theorem hide_cons : hide Ds (rm D H) = hide (D :: Ds) H := by
  funext b
  unfold hide rm
  by_cases e : b = D
  · subst e
    simp
  · by_cases h : b ∈ Ds
    · simp [h]
    · simp [h, e]
theorem hide_le : Same (hide Ds H) H := fun b o h => by
  unfold hide at h
  split at h
  · cases h
  · exact h
theorem hide_some (h : hide Ds H b = some o) : b ∉ Ds ∧ H b = some o := by
  unfold hide at h
  split at h
  · cases h
  · rename_i n
    exact ⟨n, h⟩
theorem hide_of (n : b ∉ Ds) (h : H b = some o) : hide Ds H b = some o := by rw [hide_out n]; exact h
theorem hide_same {H' : Hp} (s : Same H H') : Same (hide Ds H) (hide Ds H') := fun b o h => by
  obtain ⟨n, h⟩ := hide_some h
  exact hide_of n (s _ _ h)
theorem hide_back (h : ∀ D ∈ Ds, H' D = none) : hide Ds (back Ds H H') = H' := by
  funext b
  by_cases e : b ∈ Ds
  · rw [hide_in e, h b e]
  · rw [hide_out e, back_out e]
theorem use_hid {sp : Sp} {vs : List V} : ∀ {Ds : List Addr} {H : Hp} {Q : VK} {E : XK}, (∀ D ∈ Ds, ∃ xs, H D = some (.lst xs)) → (∀ E', sp vs (hide Ds H) (fun v H' => (∀ D ∈ Ds, H' D = none) → Q v (back Ds H H')) E') → hid sp vs H Q E
  | [], H, Q, E, _, h => ⟨0, by
    have := h E
    rw [hide_nil] at this
    have e : (fun v H' => (∀ D ∈ ([] : List Addr), H' D = none) → Q v (back [] H H')) = fun v (H' : Hp) => (∀ D ∈ ([] : List Addr), H' D = none) → Q v H' := by
      funext v H'
      rw [back_nil]
    rw [e] at this
    have e2 : (fun v (H' : Hp) => (∀ D ∈ ([] : List Addr), H' D = none) → Q v H') = Q := by
      funext v H'
      exact propext ⟨fun h => h (fun _ h => by cases h), fun h _ => h⟩
    rw [e2] at this
    exact this⟩
  | D :: Ds, H, Q, E, hD, h => by
    obtain ⟨xs, hx⟩ := hD D (List.mem_cons_self ..)
    by_cases nD : D ∈ Ds
    · refine use_hid (Ds := Ds) (H := H) (Q := Q) (E := E) (sp := sp) (vs := vs) (fun D' h' => hD D' (List.mem_cons_of_mem _ h')) fun E' => ?_
      have e0 : ∀ b, b ∈ D :: Ds ↔ b ∈ Ds := fun b => ⟨fun h => (List.mem_cons.mp h).elim (fun e => by rw [e]; exact nD) id, List.mem_cons_of_mem _⟩
      have e1 : hide Ds H = hide (D :: Ds) H := by
        funext b
        unfold hide
        simp only [e0 b]
      have e2 : ∀ H', back Ds H H' = back (D :: Ds) H H' := fun H' => by
        funext b
        unfold back
        simp only [e0 b]
      have e3 : (fun v H' => (∀ D ∈ Ds, H' D = none) → Q v (back Ds H H')) = fun v H' => (∀ D' ∈ D :: Ds, H' D' = none) → Q v (back (D :: Ds) H H') := by
        funext v H'
        rw [e2]
        exact propext ⟨fun h h1 => h fun D' h' => h1 D' (List.mem_cons_of_mem _ h'), fun h h1 => h fun D' h' => h1 D' ((e0 D').mp h')⟩
      rw [e1, e3]
      exact h E'
    obtain ⟨n, r⟩ := use_hid (Ds := Ds) (H := rm D H) (Q := fun v H' => H' D = none → Q v (upd H' D (.lst xs))) (E := L2.E0) (sp := sp) (vs := vs) (fun D' h' => by
      obtain ⟨ys, hy⟩ := hD D' (List.mem_cons_of_mem _ h')
      exact ⟨ys, rm_of (fun e => nD (by rw [← e]; exact h')) hy⟩) (fun E' => by
      rw [hide_cons]
      have e : (fun v H' => (∀ D' ∈ D :: Ds, H' D' = none) → Q v (back (D :: Ds) H H')) = fun v H' => (∀ D' ∈ Ds, H' D' = none) → back Ds (rm D H) H' D = none → Q v (upd (back Ds (rm D H) H') D (.lst xs)) := by
        funext v H'
        have e1 : back Ds (rm D H) H' D = H' D := back_out nD
        have e2 : upd (back Ds (rm D H) H') D (.lst xs) = back (D :: Ds) H H' := by
          funext b
          by_cases eb : b = D
          · subst eb
            rw [upd_same, back_in (List.mem_cons_self ..), hx]
          · rw [upd_ne eb]
            by_cases hb : b ∈ Ds
            · rw [back_in hb, back_in (List.mem_cons_of_mem _ hb)]
              unfold rm
              rw [if_neg eb]
            · rw [back_out hb, back_out (fun h => (List.mem_cons.mp h).elim eb hb)]
        rw [e1, e2]
        exact propext ⟨fun h h1 h2 => h (fun D' hD' => (List.mem_cons.mp hD').elim (fun e => by rw [e]; exact h2) (h1 D')), fun h h1 => h (fun D' hD' => h1 D' (List.mem_cons_of_mem _ hD')) (h1 D (List.mem_cons_self ..))⟩
      rw [← e]
      exact h E')
    exact ⟨n + 1, D, xs, hx, r⟩
end
section
variable {c : CA} {Ck : Addr} {H H' : Hp} {A : KpA} {b : Int} {ps : List (Int × Int)} {y : Sty} {ls : List Int} {past : List Pst}
theorem WayAt.keepK {w : Addr} (hne : ∀ z ∈ [c.wy, c.md, c.kg], z ≠ Ck) (h : WayAt c H w b ps y) (k : ∀ x o, H x = some o → H' x = some o ∨ (x ≠ A.k ∧ ∃ dx fs, o = .ins Ck dx fs)) : WayAt c H' w b ps y := by
  have hi : ∀ {z C d : Addr} {gs : List (Str × V)}, C ∈ [c.wy, c.md, c.kg] → H z = some (.ins C d gs) → H' z = some (.ins C d gs) := fun {z C d gs} hC e => (k _ _ e).elim id fun ⟨_, dx, fs, e2⟩ => by
    injection e2 with e1
    exact absurd e1 (hne C hC)
  have ht : ∀ {z : Addr} {xs : List V}, H z = some (.tup xs) → H' z = some (.tup xs) := fun {z xs} e => (k _ _ e).elim id fun ⟨_, dx, fs, e2⟩ => by cases e2
  obtain ⟨dx, m, k, h1, ⟨d2, t, ts, h2, h3, h4, h5⟩, ⟨d3, h6⟩, h7⟩ := h
  exact ⟨dx, m, k, hi (by simp) h1, ⟨d2, t, ts, hi (by simp) h2, ht h3, paired_imp (fun _ _ z => ht z) h4, h5⟩, ⟨d3, hi (by simp) h6⟩, h7⟩
/-- a kept text stays when only other kept texts are changed -/
theorem KpAt.keepK (hne : ∀ z ∈ [c.wy, c.md, c.kg], z ≠ Ck) (h : KpAt c Ck H A b ps y ls past) (k : ∀ x o, H x = some o → H' x = some o ∨ (x ≠ A.k ∧ ∃ dx fs, o = .ins Ck dx fs)) : KpAt c Ck H' A b ps y ls past := by
  have ht : ∀ {z : Addr} {xs : List V}, H z = some (.tup xs) → H' z = some (.tup xs) := fun {z xs} e => (k _ _ e).elim id fun ⟨_, dx, fs, e2⟩ => by cases e2
  have hl : ∀ {z : Addr} {xs : List V}, H z = some (.lst xs) → H' z = some (.lst xs) := fun {z xs} e => (k _ _ e).elim id fun ⟨_, dx, fs, e2⟩ => by cases e2
  obtain ⟨⟨r, h1, h2⟩, h3, ⟨ts, h4, h5⟩, h6, h7, h8, h9⟩ := h
  refine ⟨⟨r, (k _ _ h1).elim id fun z => absurd rfl z.1, ?_⟩, hl h3, ⟨ts, hl h4, paired_imp (fun q t z => ?_) h5⟩, h6.keepK hne k, h7, h8, h9⟩
  · rcases h2 with h | ⟨q, e1, e2, e3⟩
    · exact .inl h
    · exact .inr ⟨q, e1, hl e2, e3⟩
  · obtain ⟨z1, e1, e2, e3⟩ := z
    exact ⟨z1, ht e1, hl e2, e3⟩
end

end Bc
namespace Bc
open PySem PySem.Spec PyProof.Rows L2
/-! ### k87: a kept text and the texts that it was -/
inductive HistL : List (List Int) → List Pst → Prop
  | one (t : List Int) : HistL [t] []
  | snoc {pre : List (List Int)} {t0 t : List Int} {past : List Pst} {q : Pst} (h : HistL (pre ++ [t0]) past) (h1 : q.f ≤ q.e) (h2 : q.e ≤ t.length) (e : t.take q.f ++ q.ls ++ t.drop q.e = t0) : HistL (pre ++ [t0] ++ [t]) (past ++ [q])
theorem HistL.len {ts : List (List Int)} {past : List Pst} (h : HistL ts past) : ts.length = past.length + 1 := by
  induction h with
  | one => rfl
  | snoc h _ _ _ ih => rw [List.length_append, ih, List.length_append]; rfl
theorem HistL.put {pre : List (List Int)} {t0 ms : List Int} {past : List Pst} {i j : Nat} (h : HistL (pre ++ [t0]) past) (hij : i ≤ j) (hj : j ≤ t0.length) : HistL (pre ++ [t0] ++ [t0.take i ++ ms ++ t0.drop j]) (past ++ [⟨i, i + ms.length, (t0.take j).drop i⟩]) := by
  refine .snoc h (by show i ≤ i + ms.length; omega) ?_ (put_back hij hj)
  show i + ms.length ≤ _
  simp only [List.length_append, List.length_take, List.length_drop]
  omega
theorem HistL.back {ts : List (List Int)} {past : List Pst} (h : HistL ts past) (h2 : 1 < ts.length) : ∃ pre t0 t past' q, ts = pre ++ [t0] ++ [t] ∧ past = past' ++ [q] ∧ HistL (pre ++ [t0]) past' ∧ q.f ≤ q.e ∧ q.e ≤ t.length ∧ t.take q.f ++ q.ls ++ t.drop q.e = t0 := by
  cases h with
  | one => simp at h2
  | snoc h h1 h3 e => exact ⟨_, _, _, _, _, rfl, rfl, h, h1, h3, e⟩
theorem HistL.ne {ts : List (List Int)} {past : List Pst} (h : HistL ts past) : ∃ pre t, ts = pre ++ [t] := by
  cases h with
  | one t => exact ⟨[], t, rfl⟩
  | snoc => exact ⟨_, _, rfl⟩
/-- the texts that are kept beside it -/
def PsA (H : Hp) (A : KpA) (P : Addr) (ts : List (List Int)) : Prop := ∃ rs : List Addr, H P = some (.lst (rs.map V.ref)) ∧ Paired (fun (t : List Int) r => r ≠ P ∧ H r = some (.lst (t.map V.int)) ∧ r ≠ A.l ∧ r ≠ A.p) ts rs
structure SW (c : CA) (Ck a : Addr) (cc : Int) (N : Nat) (H : Hp) (A : KpA) (P : Addr) (b : Int) (ps : List (Int × Int)) (y : Sty) (ts : List (List Int)) (past : List Pst) : Prop where
  u : Purse H a cc
  k : ∃ pre ls, ts = pre ++ [ls] ∧ KpAt c Ck (rm P (rm a H)) A b ps y ls past
  p : PsA (rm a H) A P ts
  h : HistL ts past
  n : ∀ t ∈ ts, t.length ≤ N ∧ SmL t
section
variable {c : CA} {Ck a P : Addr} {cc cc' : Int} {N N' : Nat} {H H' : Hp} {A : KpA} {b : Int} {ps : List (Int × Int)} {y : Sty} {ts : List (List Int)} {past : List Pst}
theorem PsA.keep (h : PsA H A P ts) (k : ∀ x xs, H x = some (.lst xs) → H' x = some (.lst xs)) : PsA H' A P ts := by
  obtain ⟨rs, h1, h2⟩ := h
  exact ⟨rs, k _ _ h1, paired_imp (fun _ _ z => ⟨z.1, k _ _ z.2.1, z.2.2⟩) h2⟩
theorem SW.keep (hne : ∀ z ∈ [c.wy, c.md, c.kg], z ≠ Ck) (h : SW c Ck a cc N H A P b ps y ts past) (u : Purse H' a cc') (hN : N ≤ N') (k : ∀ x o, x ≠ a → H x = some o → H' x = some o ∨ (x ≠ A.k ∧ ∃ dx fs, o = .ins Ck dx fs)) : SW c Ck a cc' N' H' A P b ps y ts past := by
  obtain ⟨_, ⟨pre, ls, e, hk⟩, hp, hh, hn⟩ := h
  have e1 : ∀ {D : Addr} {G : Hp} {x : Addr} {o : HO}, rm D G x = some o → x ≠ D ∧ G x = some o := fun h => rm_some h
  refine ⟨u, ⟨pre, ls, e, hk.keepK hne fun x o hx => ?_⟩, hp.keep fun x xs hx => ?_, hh, fun t ht => ⟨Nat.le_trans (hn t ht).1 hN, (hn t ht).2⟩⟩
  · obtain ⟨n1, hx⟩ := rm_some hx
    obtain ⟨n2, hx⟩ := rm_some hx
    exact (k x o n2 hx).imp (fun h => rm_of n1 (rm_of n2 h)) id
  · obtain ⟨n2, hx⟩ := rm_some hx
    exact (k x _ n2 hx).elim (fun h => rm_of n2 h) fun ⟨_, _, _, e⟩ => by cases e
theorem SW.same (hne : ∀ z ∈ [c.wy, c.md, c.kg], z ≠ Ck) (h : SW c Ck a cc N H A P b ps y ts past) (u : Purse H' a cc') (s : Same (rm a H) (rm a H')) : SW c Ck a cc' N H' A P b ps y ts past :=
  h.keep hne u (Nat.le_refl _) fun x o n hx => .inl (rm_le _ _ (s _ _ (rm_of n hx)))
end
/-! the world of the kept texts -/
def cellsK (s : KpA × Addr) : List Addr := [s.1.l, s.1.p, s.2]
def MK (K0 L0 : Addr) (sh : List (KpA × Addr)) : List Addr := K0 :: L0 :: sh.flatMap cellsK
def frn (M : List Addr) (s : KpA × Addr) : List Addr := M.filter fun D => decide (D ∉ cellsK s)
theorem mem_frn {M : List Addr} {s : KpA × Addr} {D : Addr} : D ∈ frn M s ↔ D ∈ M ∧ D ∉ cellsK s := by
  unfold frn
  rw [List.mem_filter]
  simp
structure Wd (c : CA) (Ck a : Addr) (cc : Int) (N : Nat) (K0 L0 : Addr) (b : Int) (ps : List (Int × Int)) (y : Sty) (Hb H : Hp) (sh : List (KpA × Addr)) (ts : Nat → List (List Int)) (past : Nat → List Pst) : Prop where
  u : Purse H a cc
  hK : H K0 = some (.lst (sh.map fun s => V.ref s.1.k))
  hL : H L0 = some (.lst (sh.map fun s => V.ref s.2))
  am : a ∉ MK K0 L0 sh
  kl : K0 ≠ L0
  kc : ∀ s ∈ sh, K0 ∉ cellsK s ∧ L0 ∉ cellsK s
  dj : ∀ (i j : Nat) (s t : KpA × Addr), i ≠ j → sh[i]? = some s → sh[j]? = some t → s.1.k ≠ t.1.k ∧ ∀ x ∈ cellsK s, x ∉ cellsK t
  base : Same Hb (hide (a :: MK K0 L0 sh) H)
  bk : ∀ s ∈ sh, Hb s.1.k = none
  w : ∀ (j : Nat) (s : KpA × Addr), sh[j]? = some s → SW c Ck a cc N (hide (frn (MK K0 L0 sh) s) H) s.1 s.2 b ps y (ts j) (past j)
theorem mem_MK {K0 L0 : Addr} {sh : List (KpA × Addr)} {j : Nat} {s : KpA × Addr} {D : Addr} (h : sh[j]? = some s) (hD : D ∈ cellsK s) : D ∈ MK K0 L0 sh :=
  List.mem_cons_of_mem _ (List.mem_cons_of_mem _ (List.mem_flatMap.mpr ⟨s, List.mem_of_getElem? h, hD⟩))
section
variable {c : CA} {Ck a K0 L0 : Addr} {cc cc' : Int} {N N' : Nat} {Hb H H' : Hp} {b : Int} {ps : List (Int × Int)} {y : Sty} {sh : List (KpA × Addr)} {ts : Nat → List (List Int)} {past : Nat → List Pst} {j : Nat} {s : KpA × Addr} {ts' : List (List Int)} {past' : List Pst}
theorem SW.cl {A : KpA} {P : Addr} {t : List (List Int)} {q : List Pst} (h : SW c Ck a cc N H A P b ps y t q) : ∀ x ∈ cellsK (A, P), x ≠ a ∧ ∃ xs, H x = some (.lst xs) := fun x hx => by
  obtain ⟨pu, ⟨pre, ls, e, hk⟩, ⟨rs, hp, _⟩, _, _⟩ := h
  unfold cellsK at hx
  simp only [List.mem_cons, List.not_mem_nil, or_false] at hx
  rcases hx with rfl | rfl | rfl
  · obtain ⟨n1, e1⟩ := rm_some hk.ltr
    obtain ⟨n2, e2⟩ := rm_some e1
    exact ⟨n2, _, e2⟩
  · obtain ⟨qs, e0, _⟩ := hk.pst
    obtain ⟨n1, e1⟩ := rm_some e0
    obtain ⟨n2, e2⟩ := rm_some e1
    exact ⟨n2, _, e2⟩
  · obtain ⟨n2, e2⟩ := rm_some hp
    exact ⟨n2, _, e2⟩
theorem Wd.lists (h : Wd c Ck a cc N K0 L0 b ps y Hb H sh ts past) : ∀ D ∈ MK K0 L0 sh, ∃ xs, H D = some (.lst xs) := fun D hD => by
  rcases List.mem_cons.mp hD with rfl | hD
  · exact ⟨_, h.hK⟩
  rcases List.mem_cons.mp hD with rfl | hD
  · exact ⟨_, h.hL⟩
  obtain ⟨s, hs, hD⟩ := List.mem_flatMap.mp hD
  obtain ⟨j, hj⟩ := List.getElem?_of_mem hs
  obtain ⟨_, xs, e⟩ := (h.w j s hj).cl D hD
  exact ⟨xs, hide_le _ _ e⟩
theorem Wd.lists' (h : Wd c Ck a cc N K0 L0 b ps y Hb H sh ts past) : ∀ D ∈ frn (MK K0 L0 sh) s, ∃ xs, H D = some (.lst xs) := fun D hD => h.lists D (mem_frn.mp hD).1
/-- a deed on one of the kept texts -/
theorem Wd.step (hne : ∀ z ∈ [c.wy, c.md, c.kg], z ≠ Ck) (h : Wd c Ck a cc N K0 L0 b ps y Hb H sh ts past) (hj : sh[j]? = some s) (hf : ∀ D ∈ frn (MK K0 L0 sh) s, H' D = H D) (hN : N ≤ N') (sw : SW c Ck a cc' N' (hide (frn (MK K0 L0 sh) s) H') s.1 s.2 b ps y ts' past')
    (o : Off s.1 (rm s.2 (rm a (hide (frn (MK K0 L0 sh) s) H))) (rm s.2 (rm a (hide (frn (MK K0 L0 sh) s) H')))) :
    Wd c Ck a cc' N' K0 L0 b ps y Hb H' sh (fun n => if n = j then ts' else ts n) (fun n => if n = j then past' else past n) := by
  have hs := List.mem_of_getElem? hj
  have kf : K0 ∈ frn (MK K0 L0 sh) s := mem_frn.mpr ⟨List.mem_cons_self .., (h.kc s hs).1⟩
  have lf : L0 ∈ frn (MK K0 L0 sh) s := mem_frn.mpr ⟨List.mem_cons_of_mem _ (List.mem_cons_self ..), (h.kc s hs).2⟩
  have pu : Purse H' a cc' := sw.u.same hide_le
  have cm : ∀ x ∈ cellsK s, x ∈ MK K0 L0 sh := fun x hx => mem_MK hj hx
  have kins : ∃ fs, H s.1.k = some (.ins Ck s.1.dx fs) := by
    obtain ⟨pre, ls, e, hk⟩ := (h.w j s hj).k
    obtain ⟨r, h1, _⟩ := hk.ins
    exact ⟨_, hide_le _ _ (rm_le _ _ (rm_le _ _ h1))⟩
  -- what is in none of the lists stays, but for the kept text itself
  have out : ∀ x o', x ≠ a → x ∉ MK K0 L0 sh → x ≠ s.1.k → H x = some o' → H' x = some o' := fun x o' n1 n2 n3 hx => by
    have nf : x ∉ frn (MK K0 L0 sh) s := fun h => n2 (mem_frn.mp h).1
    have n4 : x ≠ s.2 := fun e => n2 (cm x (by rw [e]; simp [cellsK]))
    have n5 : x ≠ s.1.l := fun e => n2 (cm x (by rw [e]; simp [cellsK]))
    have n6 : x ≠ s.1.p := fun e => n2 (cm x (by rw [e]; simp [cellsK]))
    exact hide_le _ _ (rm_le _ _ (rm_le _ _ (o x o' n3 n5 n6 (rm_of n4 (rm_of n1 (hide_of nf hx))))))
  refine ⟨pu, by rw [hf _ kf]; exact h.hK, by rw [hf _ lf]; exact h.hL, h.am, h.kl, h.kc, h.dj, fun x o' hx => ?_, h.bk, fun i t ht => ?_⟩
  · obtain ⟨n1, e1⟩ := hide_some (h.base x o' hx)
    have n2 : x ≠ s.1.k := fun e => by rw [e, h.bk s hs] at hx; cases hx
    exact hide_of n1 (out x o' (fun e => n1 (by rw [e]; exact List.mem_cons_self ..)) (fun e => n1 (List.mem_cons_of_mem _ e)) n2 e1)
  · by_cases hij : i = j
    · subst hij
      rw [hj] at ht
      cases ht
      rw [if_pos rfl, if_pos rfl]
      exact sw
    · rw [if_neg hij, if_neg hij]
      obtain ⟨nk, nc⟩ := h.dj i j t s hij ht hj
      have at' : a ∉ frn (MK K0 L0 sh) t := fun e => h.am (mem_frn.mp e).1
      refine (h.w i t ht).keep hne ?_ hN fun x o' na hx => ?_
      · obtain ⟨x, y, z, e, r⟩ := pu
        exact ⟨x, y, z, hide_of at' e, r⟩
      · obtain ⟨n1, e1⟩ := hide_some hx
        by_cases hm : x ∈ MK K0 L0 sh
        · have hxt : x ∈ cellsK t := by
            by_cases e : x ∈ cellsK t
            · exact e
            · exact absurd (mem_frn.mpr ⟨hm, e⟩) n1
          have hxs : x ∈ frn (MK K0 L0 sh) s := mem_frn.mpr ⟨hm, nc x hxt⟩
          exact .inl (hide_of n1 (by rw [hf x hxs]; exact e1))
        · by_cases ek : x = s.1.k
          · subst ek
            obtain ⟨fs, e2⟩ := kins
            rw [e1] at e2
            cases e2
            exact .inr ⟨nk.symm, _, _, rfl⟩
          · exact .inl (hide_of n1 (out x o' na hm ek e1))
/-- what is in none of the lists stays: draws and such -/
theorem Wd.same (hne : ∀ z ∈ [c.wy, c.md, c.kg], z ≠ Ck) (h : Wd c Ck a cc N K0 L0 b ps y Hb H sh ts past) (u : Purse H' a cc') (sm : Same (rm a H) (rm a H')) : Wd c Ck a cc' N K0 L0 b ps y Hb H' sh ts past := by
  have st : ∀ x o', x ≠ a → H x = some o' → H' x = some o' := fun x o' n hx => rm_le _ _ (sm _ _ (rm_of n hx))
  have ka : K0 ≠ a := fun e => h.am (by rw [← e]; exact List.mem_cons_self ..)
  have la : L0 ≠ a := fun e => h.am (by rw [← e]; exact List.mem_cons_of_mem _ (List.mem_cons_self ..))
  refine ⟨u, st _ _ ka h.hK, st _ _ la h.hL, h.am, h.kl, h.kc, h.dj, fun x o' hx => ?_, h.bk, fun i t ht => ?_⟩
  · obtain ⟨n1, e1⟩ := hide_some (h.base x o' hx)
    exact hide_of n1 (st _ _ (fun e => n1 (by rw [e]; exact List.mem_cons_self ..)) e1)
  · have at' : a ∉ frn (MK K0 L0 sh) t := fun e => h.am (mem_frn.mp e).1
    refine (h.w i t ht).same hne ?_ fun x o' hx => ?_
    · obtain ⟨x, y, z, e, r⟩ := u
      exact ⟨x, y, z, hide_of at' e, r⟩
    · obtain ⟨n1, e1⟩ := rm_some hx
      obtain ⟨n2, e2⟩ := hide_some e1
      exact rm_of n1 (hide_of n2 (st _ _ n1 e2))
end
/-- a text in one of three forms -/
def SomeAt (H0 H : Hp) (v : V) (ls : List Int) : Prop := (∃ z, v = .str z ∧ TextAt H v ls) ∨ (∃ p, v = .ref p ∧ H0 p = none ∧ H p = some (.lst (ls.map V.int))) ∨ (∃ p, v = .ref p ∧ H p = some (.tup (ls.map V.int)))
theorem SomeAt.text {H0 H : Hp} {v : V} {ls : List Int} (h : SomeAt H0 H v ls) (hl : ls.length ≤ 100000) : TextAt H v ls := by
  rcases h with ⟨z, _, t⟩ | ⟨p, rfl, _, h⟩ | ⟨p, rfl, h⟩
  · exact t
  · exact .lst p ls h hl
  · exact .tup p ls h hl
def spSome87 : Sp := fun vs H Q _ => ∃ (a : Addr) (cc : Int) (m : Nat), vs = [.ref a, .int m] ∧ m ≤ 40 ∧ cc < 2 ^ 48 ∧ Purse H a cc ∧ ∀ v ls H', Same (rm a H) (rm a H') → Purse H' a (cc + 3 + 2 * m) → SomeAt (rm a H) (rm a H') v ls → ls.length ≤ max m 4 → SmL ls → Q v H'
def spClsh : Sp := fun vs H Q _ => ∃ (l g : Addr) (k : Nat) (b : Int) (ps : List (Int × Int)) (y : Sty) (ls : List Int), vs = [.ref l, .int k, .int b, .ref g, .int (num ps)] ∧ H l = some (.lst (ls.map V.int)) ∧ H g = some (.lst [.bl y.low, .int y.shift, .bl y.lead]) ∧ ls.length ≤ 150 ∧ SmL ls ∧ y.shift.natAbs < 10 ^ 31 ∧ 0 ≤ b ∧ b < num ps ∧ num ps < 2 ^ 40 ∧ k < 1000 ∧
  ∀ q H', H q = none → Same H H' → PrsAt H' q (clashP y b (num ps) ls k) → Q (.ref q) H'
section
variable {P : Program} {w : World} {K : PySem.W.Frag} {mg : Str → Option Value} {base : Heap} {k n : Nat} {C : Addr} {sp : Sp} {x : Str} {ks : List Str} {gV : List V → List V → List V}
theorem metKF (c : MetK P w K mg base k C x n ks sp gV) : MetK P w K mg base k C x n ks (fr sp) gV := by
  obtain ⟨f, fd, ps, ds, cl, hm, F, r⟩ := c
  exact ⟨f, fd, ps, ds, cl, hm, FnOk.or F (FnOk.frame F (fun _ _ _ _ _ h => h.elim)), r⟩
theorem w_nePrs {H : Hp} {a b : Addr} {ps qs : List (Nat × Nat)} {Q : VK} (ha : PrsAt H a ps) (hb : PrsAt H b qs) (e : ps = qs) (q : Q (.bl false) H) : rNeD K (.ref a) (.ref b) H Q := by
  subst e
  obtain ⟨ts, h1, h2⟩ := ha
  obtain ⟨us, h3, h4⟩ := hb
  have g : ∀ {ts : List Addr}, Paired (fun (p : Nat × Nat) t => H t = some (.tup [.int p.1, .int p.2])) ps ts → Paired (Tp H) (ps.map fun p => ((p.1 : Int), (p.2 : Int))) ts := fun h => paired_mapL h
  refine ⟨_, _, .lst (sq h1) (dp_prs (g h2)), .lst (sq h3) (dp_prs (g h4)), shp_lst _, shp_lst _, ?_⟩
  rw [PyData.eqv, eqv_prs, decide_eq_true rfl]
  exact q
theorem w_eqPrs {H : Hp} {a b : Addr} {ps qs : List (Nat × Nat)} {Q : VK} (ha : PrsAt H a ps) (hb : PrsAt H b qs) (e : ps = qs) (q : Q (.bl true) H) : rEqD K (.ref a) (.ref b) H Q := by
  subst e
  obtain ⟨ts, h1, h2⟩ := ha
  obtain ⟨us, h3, h4⟩ := hb
  have g : ∀ {ts : List Addr}, Paired (fun (p : Nat × Nat) t => H t = some (.tup [.int p.1, .int p.2])) ps ts → Paired (Tp H) (ps.map fun p => ((p.1 : Int), (p.2 : Int))) ts := fun h => paired_mapL h
  refine ⟨_, _, .lst (sq h1) (dp_prs (g h2)), .lst (sq h3) (dp_prs (g h4)), shp_lst _, shp_lst _, ?_⟩
  rw [PyData.eqv, eqv_prs, decide_eq_true rfl]
  exact q
end
def NK (A : KpA) (p : Addr) : Prop := p ≠ A.k ∧ p ≠ A.l ∧ p ≠ A.p
def spAgr87 (c : CA) (Ck : Addr) : Sp := fun vs H Q _ => ∃ (a L g : Addr) (cc : Int) (A : KpA) (b : Int) (ps : List (Int × Int)) (y : Sty) (ls : List Int) (past : List Pst), vs = [.ref a, .ref A.k, .ref L, .ref g] ∧ cc < 2 ^ 47 ∧ KB c Ck a cc H A b ps y ls past ∧ ls.length ≤ 140 ∧ rm a H L = some (.lst (ls.map V.int)) ∧ NK A L ∧ rm a H g = some (.lst [.bl y.low, .int y.shift, .bl y.lead]) ∧ NK A g ∧
  ∀ H', Off A (rm a H) (rm a H') → KB c Ck a (cc + 10) H' A b ps y ls past → Q (.bl true) H'
theorem cut_m1 {xs : List V} {x : V} : cutV (xs ++ [x]) none (some (-1)) = xs := by
  have e1 : HT.sIx (xs ++ [x]).length 0 none = 0 := rfl
  have e2 : HT.sIx (xs ++ [x]).length (xs ++ [x]).length (some (-1)) = xs.length := by
    simp only [HT.sIx, List.length_append, List.length_singleton]
    rw [if_pos (by decide)]
    omega
  unfold cutV
  rw [e1, e2, List.drop_zero, Nat.sub_zero, List.take_left']
  rfl
theorem Purse.upd {H : Hp} {a t : Addr} {c : Int} {o : HO} (p : Purse H a c) (n : t ≠ a) : Purse (L2.upd H t o) a c := by
  obtain ⟨x, y, z, h, r⟩ := p
  exact ⟨x, y, z, by rw [upd_ne n.symm]; exact h, r⟩
/-! ### a list handed over stays apart from what is kept -/
theorem hide2 {a P : Addr} {H : Hp} : hide [a, P] H = rm P (rm a H) := by
  rw [← hide_cons, ← hide_cons, hide_nil]
theorem back2 {a P : Addr} {H H2 : Hp} {cc : Int} {xs : List V} (pu : Purse H a cc) (hP : H P = some (.lst xs)) (hn : ∀ D ∈ [a, P], H2 D = none) : rm P (rm a (back [a, P] H H2)) = H2 ∧ Purse (back [a, P] H H2) a cc ∧ back [a, P] H H2 P = some (.lst xs) := by
  refine ⟨by rw [← hide2, hide_back hn], ?_, by rw [back_in (by simp)]; exact hP⟩
  obtain ⟨x, y, z, h, r⟩ := pu
  exact ⟨x, y, z, by rw [back_in (by simp)]; exact h, r⟩
theorem lists2 {a P : Addr} {H : Hp} {cc : Int} {xs : List V} (pu : Purse H a cc) (hP : H P = some (.lst xs)) : ∀ D ∈ [a, P], ∃ xs, H D = some (.lst xs) := fun D hD => by
  simp only [List.mem_cons, List.not_mem_nil, or_false] at hD
  rcases hD with rfl | rfl
  · obtain ⟨x, y, z, h, r⟩ := pu
    exact ⟨_, h⟩
  · exact ⟨_, hP⟩
def spIaddB (c : CA) (Ck : Addr) : Sp := fun vs H Q E => spKnIadd c Ck vs H Q E ∨ spKnIaddS c Ck vs H Q E
def spChangeB (c : CA) (Ck : Addr) : Sp := fun vs H Q E => spKnChange c Ck vs H Q E ∨ spKnChangeS c Ck vs H Q E
theorem Off.add {A : KpA} {X Y : Hp} {p : Addr} {o : HO} (h : Off A (Bc.rm p X) (Bc.rm p Y)) (hx : X p = some o) (hy : Y p = some o) : Off A X Y := fun x u n1 n2 n3 e => by
  by_cases ep : x = p
  · subst ep
    rw [hx] at e
    rw [hy]
    exact e
  · exact rm_le _ _ (h x u n1 n2 n3 (rm_of ep e))
/-- a text handed over: a list stays apart from what is kept -/
def Hnd (c : CA) (Ck a P : Addr) (A : KpA) (b : Int) (ps : List (Int × Int)) (y : Sty) (ls : List Int) (past : List Pst) (H0 H : Hp) (v : V) (ms : List Int) : Prop :=
  (∃ z, v = .str z ∧ ∀ G, TextAt G v ms) ∨ (∃ p, v = .ref p ∧ p ≠ a ∧ p ≠ P ∧ H p = some (.tup (ms.map V.int))) ∨ (∃ p, v = .ref p ∧ p ≠ a ∧ p ≠ P ∧ rm a H0 p = none ∧ H p = some (.lst (ms.map V.int)) ∧ KpAt c Ck (rm p (rm P (rm a H))) A b ps y ls past)
section
variable {c : CA} {Ck a P : Addr} {A : KpA} {b : Int} {ps : List (Int × Int)} {y : Sty} {ls ms : List Int} {past : List Pst} {H0 H H' : Hp} {v : V} {cc : Int} {xs : List V} {Q : VK} {E : XK}
theorem Hnd.of (hs : SomeAt (rm a H0) (rm a H) v ms) (hk : KpAt c Ck (rm P (rm a H0)) A b ps y ls past) (sm : Same (rm a H0) (rm a H)) (hP : H0 P = some (.lst xs)) (nP : P ≠ a) (hr : ∃ r, xs = .ref r :: xs.tail) (hx : rm a H P = some (.lst xs)) : Hnd c Ck a P A b ps y ls past H0 H v ms := by
  rcases hs with ⟨z, rfl, t⟩ | ⟨p, rfl, n, h⟩ | ⟨p, rfl, h⟩
  · refine .inl ⟨z, rfl, fun G => ?_⟩
    generalize e : V.str z = w at t
    cases t with
    | str z h l => exact .str z h l
    | lst => cases e
    | tup => cases e
  · have na : p ≠ a := fun e => by rw [e, rm_self] at h; cases h
    have npP : p ≠ P := fun e => by rw [e] at n; rw [rm_of nP hP] at n; cases n
    exact .inr (.inr ⟨p, rfl, na, npP, n, rm_le _ _ h, hk.same (rm_in (rm_none n) (Same.rm sm))⟩)
  · have na : p ≠ a := fun e => by rw [e, rm_self] at h; cases h
    have npP : p ≠ P := fun e => by rw [e, hx] at h; cases h
    exact .inr (.inl ⟨p, rfl, na, npP, rm_le _ _ h⟩)
theorem Hnd.text (h : Hnd c Ck a P A b ps y ls past H0 H v ms) (hl : ms.length ≤ 100000) : TextAt H v ms := by
  rcases h with ⟨z, rfl, t⟩ | ⟨p, rfl, _, _, h⟩ | ⟨p, rfl, _, _, _, h, _⟩
  · exact t H
  · exact .tup p ms h hl
  · exact .lst p ms h hl
theorem Hnd.same (h : Hnd c Ck a P A b ps y ls past H0 H v ms) (s : Same H H') : Hnd c Ck a P A b ps y ls past H0 H' v ms := by
  rcases h with h | ⟨p, e, n1, n2, h⟩ | ⟨p, e, n1, n2, n3, h, k⟩
  · exact .inl h
  · exact .inr (.inl ⟨p, e, n1, n2, s _ _ h⟩)
  · exact .inr (.inr ⟨p, e, n1, n2, n3, s _ _ h, k.same s.rm.rm.rm⟩)
theorem use_iaddB (pu : Purse H a cc) (hP : H P = some (.lst xs)) (hk : KpAt c Ck (rm P (rm a H)) A b ps y ls past) (hn : Hnd c Ck a P A b ps y ls past H0 H v ms) (hp : past.length < 1000) (hz : ls.length + ms.length ≤ 1000)
    (q : ∀ H', Off A (rm P (rm a H)) (rm P (rm a H')) → Purse H' a cc → H' P = some (.lst xs) → KpAt c Ck (rm P (rm a H')) A b ps y (ls.take ls.length ++ ms ++ ls.drop ls.length) (past ++ [⟨ls.length, ls.length + ms.length, (ls.take ls.length).drop ls.length⟩]) →
      Hnd c Ck a P A b ps y (ls.take ls.length ++ ms ++ ls.drop ls.length) (past ++ [⟨ls.length, ls.length + ms.length, (ls.take ls.length).drop ls.length⟩]) H0 H' v ms → Q (.ref A.k) H') :
    hid (spIaddB c Ck) [.ref A.k, v] H Q E := by
  refine use_hid (lists2 pu hP) fun E' => ?_
  rw [hide2]
  rcases hn with ⟨z, rfl, t⟩ | ⟨p, rfl, n1, n2, h⟩ | ⟨p, rfl, n1, n2, n3, h, kk⟩
  · refine .inl ⟨A, b, ps, y, ls, past, _, ms, rfl, hk, hp, t _, hz, fun H2 o2 hk2 hn2 => ?_⟩
    obtain ⟨e1, u', hP'⟩ := back2 pu hP hn2
    exact q _ (by rw [e1]; exact o2) u' hP' (by rw [e1]; exact hk2) (.inl ⟨z, rfl, t⟩)
  · have hp1 := rm_of n2 (rm_of n1 h)
    refine .inl ⟨A, b, ps, y, ls, past, _, ms, rfl, hk, hp, .tup p ms hp1 (by omega), hz, fun H2 o2 hk2 hn2 => ?_⟩
    obtain ⟨e1, u', hP'⟩ := back2 pu hP hn2
    have h2 := Off.tup hk o2 hp1
    refine q _ (by rw [e1]; exact o2) u' hP' (by rw [e1]; exact hk2) (.inr (.inl ⟨p, rfl, n1, n2, ?_⟩))
    rw [back_out (by simp [n1, n2])]
    exact h2
  · have hp1 := rm_of n2 (rm_of n1 h)
    refine .inr ⟨A, b, ps, y, ls, past, p, ms, rfl, kk, hp, hp1, hz, fun H2 o2 h2 hk2 hn2 => ?_⟩
    obtain ⟨e1, u', hP'⟩ := back2 pu hP hn2
    refine q _ (by rw [e1]; exact o2.add hp1 h2) u' hP' (by rw [e1]; exact hk2.same rm_le) (.inr (.inr ⟨p, rfl, n1, n2, n3, ?_, by rw [e1]; exact hk2⟩))
    rw [back_out (by simp [n1, n2])]
    exact h2
theorem use_changeB {i j : Nat} (pu : Purse H a cc) (hP : H P = some (.lst xs)) (hk : KpAt c Ck (rm P (rm a H)) A b ps y ls past) (hn : Hnd c Ck a P A b ps y ls past H0 H v ms) (hp : past.length < 1000) (hij : i ≤ j) (hj : j ≤ ls.length) (hz : ls.length + ms.length ≤ 1000)
    (q : ∀ H', Off A (rm P (rm a H)) (rm P (rm a H')) → Purse H' a cc → H' P = some (.lst xs) → KpAt c Ck (rm P (rm a H')) A b ps y (ls.take i ++ ms ++ ls.drop j) (past ++ [⟨i, i + ms.length, (ls.take j).drop i⟩]) →
      Hnd c Ck a P A b ps y (ls.take i ++ ms ++ ls.drop j) (past ++ [⟨i, i + ms.length, (ls.take j).drop i⟩]) H0 H' v ms → Q .non H') :
    hid (spChangeB c Ck) [.ref A.k, .int i, .int j, v] H Q E := by
  refine use_hid (lists2 pu hP) fun E' => ?_
  rw [hide2]
  rcases hn with ⟨z, rfl, t⟩ | ⟨p, rfl, n1, n2, h⟩ | ⟨p, rfl, n1, n2, n3, h, kk⟩
  · refine .inl ⟨A, b, ps, y, ls, past, i, j, _, ms, rfl, hk, hp, hij, hj, t _, hz, fun H2 o2 hk2 hn2 => ?_⟩
    obtain ⟨e1, u', hP'⟩ := back2 pu hP hn2
    exact q _ (by rw [e1]; exact o2) u' hP' (by rw [e1]; exact hk2) (.inl ⟨z, rfl, t⟩)
  · have hp1 := rm_of n2 (rm_of n1 h)
    refine .inl ⟨A, b, ps, y, ls, past, i, j, _, ms, rfl, hk, hp, hij, hj, .tup p ms hp1 (by omega), hz, fun H2 o2 hk2 hn2 => ?_⟩
    obtain ⟨e1, u', hP'⟩ := back2 pu hP hn2
    have h2 := Off.tup hk o2 hp1
    refine q _ (by rw [e1]; exact o2) u' hP' (by rw [e1]; exact hk2) (.inr (.inl ⟨p, rfl, n1, n2, ?_⟩))
    rw [back_out (by simp [n1, n2])]
    exact h2
  · have hp1 := rm_of n2 (rm_of n1 h)
    refine .inr ⟨A, b, ps, y, ls, past, i, j, p, ms, rfl, kk, hp, hij, hj, hp1, hz, fun H2 o2 h2 hk2 hn2 => ?_⟩
    obtain ⟨e1, u', hP'⟩ := back2 pu hP hn2
    refine q _ (by rw [e1]; exact o2.add hp1 h2) u' hP' (by rw [e1]; exact hk2.same rm_le) (.inr (.inr ⟨p, rfl, n1, n2, n3, ?_, by rw [e1]; exact hk2⟩))
    rw [back_out (by simp [n1, n2])]
    exact h2
theorem use_setB {m : Nat} {z : Int} (pu : Purse H a cc) (hP : H P = some (.lst xs)) (hk : KpAt c Ck (rm P (rm a H)) A b ps y ls past) (hp : past.length < 1000) (hl : ls.length < 1000) (hm : m < ls.length)
    (q : ∀ H', Off A (rm P (rm a H)) (rm P (rm a H')) → Purse H' a cc → H' P = some (.lst xs) → KpAt c Ck (rm P (rm a H')) A b ps y (ls.take m ++ [z] ++ ls.drop (m + 1)) (past ++ [⟨m, m + 1, (ls.take (m + 1)).drop m⟩]) → Q .non H') :
    hid (spKnSet c Ck) [.ref A.k, .int m, .int z] H Q E := by
  refine use_hid (lists2 pu hP) fun E' => ?_
  rw [hide2]
  refine ⟨A, b, ps, y, ls, past, m, z, rfl, hk, hp, hl, hm, fun H2 o2 hk2 hn2 => ?_⟩
  obtain ⟨e1, u', hP'⟩ := back2 pu hP hn2
  exact q _ (by rw [e1]; exact o2) u' hP' (by rw [e1]; exact hk2)
theorem use_undoB {pre : List Pst} {qq : Pst} (pu : Purse H a cc) (hP : H P = some (.lst xs)) (hk : KpAt c Ck (rm P (rm a H)) A b ps y ls (pre ++ [qq])) (h1 : qq.f ≤ qq.e) (h2 : qq.e ≤ ls.length) (hz : ls.length + qq.ls.length ≤ 1000)
    (q : ∀ H', Off A (rm P (rm a H)) (rm P (rm a H')) → Purse H' a cc → H' P = some (.lst xs) → KpAt c Ck (rm P (rm a H')) A b ps y (ls.take qq.f ++ qq.ls ++ ls.drop qq.e) pre → Q .non H') :
    hid (spKnUndo c Ck) [.ref A.k] H Q E := by
  refine use_hid (lists2 pu hP) fun E' => ?_
  rw [hide2]
  refine ⟨A, b, ps, y, ls, pre, qq, rfl, hk, h1, h2, hz, fun H2 o2 hk2 hn2 => ?_⟩
  obtain ⟨e1, u', hP'⟩ := back2 pu hP hn2
  exact q _ (by rw [e1]; exact o2) u' hP' (by rw [e1]; exact hk2)
end
/-- behind a deed, ahead of putting the new text beside it -/
structure DJ (c : CA) (Ck a P : Addr) (cc : Int) (N : Nat) (H0 : Hp) (A : KpA) (b : Int) (ps : List (Int × Int)) (y : Sty) (pre : List (List Int)) (ls : List Int) (past : List Pst) (rs : List Addr) (L : Addr) (ls' : List Int) (qq : Pst) (H' : Hp) : Prop where
  u : Purse H' a cc
  hP : H' P = some (.lst (rs.map V.ref))
  k : KpAt c Ck (rm P (rm a H')) A b ps y ls' (past ++ [qq])
  h : HistL (pre ++ [ls] ++ [ls']) (past ++ [qq])
  o : Off A (rm P (rm a H0)) (rm P (rm a H'))
  l : rm P (rm a H') L = some (.lst (ls'.map V.int))
  nl : L ≠ A.l ∧ L ≠ A.p
  n : ls'.length ≤ N ∧ SmL ls'
theorem DJ.fin {c : CA} {Ck a P : Addr} {cc : Int} {N N0 : Nat} {H0 : Hp} {A : KpA} {b : Int} {ps : List (Int × Int)} {y : Sty} {pre : List (List Int)} {ls : List Int} {past : List Pst} {rs : List Addr} {L : Addr} {ls' : List Int} {qq : Pst} {H' : Hp}
    (h : DJ c Ck a P cc N H0 A b ps y pre ls past rs L ls' qq H') (nP : P ≠ a) (hk : KpAt c Ck (rm P (rm a H0)) A b ps y ls past) (hp : Paired (fun (t : List Int) r => r ≠ P ∧ rm a H0 r = some (.lst (t.map V.int)) ∧ r ≠ A.l ∧ r ≠ A.p) (pre ++ [ls]) rs) (hn : ∀ t ∈ pre ++ [ls], t.length ≤ N0 ∧ SmL t) (hN : N0 ≤ N) :
    SW c Ck a cc N (upd H' P (.lst ((rs ++ [L]).map V.ref))) A P b ps y (pre ++ [ls] ++ [ls']) (past ++ [qq]) ∧ Off A (rm P (rm a H0)) (rm P (rm a (upd H' P (.lst ((rs ++ [L]).map V.ref))))) := by
  have e : rm P (rm a (upd H' P (.lst ((rs ++ [L]).map V.ref)))) = rm P (rm a H') := by rw [rm_upd nP, rm_updD]
  have eP : rm a (upd H' P (.lst ((rs ++ [L]).map V.ref))) P = some (.lst ((rs ++ [L]).map V.ref)) := rm_of nP upd_same
  obtain ⟨lP, l2⟩ := rm_some h.l
  refine ⟨⟨h.u.upd nP, ⟨_, _, rfl, by rw [e]; exact h.k⟩, ⟨rs ++ [L], eP, ?_⟩, h.h, fun t ht => ?_⟩, by rw [e]; exact h.o⟩
  · have key : ∀ {x : Addr} {o : HO}, x ≠ P → rm a H' x = some o → rm a (upd H' P (.lst ((rs ++ [L]).map V.ref))) x = some o := fun n hx => by
      obtain ⟨na, hx⟩ := rm_some hx
      exact rm_of na (by rw [upd_ne n]; exact hx)
    refine Paired.snoc (paired_imp (fun t r z => ?_) hp) ⟨lP, key lP l2, h.nl⟩
    obtain ⟨z1, z2, z3, z4⟩ := z
    have nk : r ≠ A.k := fun e => by
      obtain ⟨q, hi, _⟩ := hk.ins
      rw [← e, rm_of z1 z2] at hi
      cases hi
    exact ⟨z1, key z1 (rm_some (h.o r _ nk z3 z4 (rm_of z1 z2))).2, z3, z4⟩
  · rcases List.mem_append.mp ht with h1 | h1
    · exact ⟨Nat.le_trans (hn t h1).1 hN, (hn t h1).2⟩
    · rw [List.mem_singleton.mp h1]
      exact h.n
def spDeed87 (c : CA) (Ck : Addr) : Sp := fun vs H Q _ => ∃ (a P : Addr) (cc : Int) (N : Nat) (A : KpA) (b : Int) (ps : List (Int × Int)) (y : Sty) (ts : List (List Int)) (past : List Pst), vs = [.ref a, .ref A.k, .ref P] ∧ cc < 2 ^ 47 ∧ N ≤ 130 ∧ ts.length ≤ 50 ∧ P ≠ a ∧ SW c Ck a cc N H A P b ps y ts past ∧
  ∀ ts' past' H', Off A (rm P (rm a H)) (rm P (rm a H')) → SW c Ck a (cc + 100) (N + 6) H' A P b ps y ts' past' → ts'.length ≤ ts.length + 1 → Q (.ref A.k) H'
theorem at_lastR (xs : List V) (r : V) : atI (xs ++ [r]) (-1) = some r := by
  unfold atI ixN
  rw [if_neg (by decide), List.length_append, List.length_cons, List.length_nil, if_pos (by omega), show (-1 + ((xs.length + (0 + 1) : Nat) : Int)).toNat = xs.length by omega]
  show (xs ++ [r])[xs.length]? = _
  rw [List.getElem?_append_right (Nat.le_refl _), Nat.sub_self]
  rfl
theorem w_if3 {c1 c2 c3 : TT} {t1 t2 t3 u : TS} {D : Ends} {σ : L2.St} {H : Hp} (E : Hp → Prop) (hE : ∀ H', E H' → u D σ H') (h : ∀ U : TS, (∀ H', E H' → U D σ H') → tIfS c1 t1 (tIfS c2 t2 (tIfS c3 t3 U)) D σ H) : tIfS c1 t1 (tIfS c2 t2 (tIfS c3 t3 u)) D σ H := h u hE
theorem ixN_nat' {n j : Nat} (hj : j < n) : ixN n (j : Int) = some j := by
  unfold ixN
  rw [if_pos (by omega), if_pos (by omega)]
  simp
section
variable {c : CA} {Ck a P : Addr} {cc : Int} {N N0 : Nat} {H0 : Hp} {A : KpA} {b : Int} {ps : List (Int × Int)} {y : Sty} {pre : List (List Int)} {ls : List Int} {past : List Pst} {rs : List Addr} {L : Addr} {ls' : List Int} {qq : Pst} {H' : Hp}
theorem DJ.app {p : Addr} {o : HO} (h : DJ c Ck a P cc N H0 A b ps y pre ls past rs L ls' qq H') (hp : KpAt c Ck (rm p (rm P (rm a H'))) A b ps y ls' (past ++ [qq])) (n0 : rm a H0 p = none) (na : p ≠ a) (nP : p ≠ P) (nL : L ≠ p) : DJ c Ck a P cc N H0 A b ps y pre ls past rs L ls' qq (upd H' p o) := by
  have e : rm P (rm a (upd H' p o)) = upd (rm P (rm a H')) p o := by rw [rm_upd na, rm_upd nP]
  refine ⟨h.u.upd na, by rw [upd_ne nP.symm]; exact h.hP, ?_, h.h, fun x u n1 n2 n3 hx => ?_, by rw [e, upd_ne nL]; exact h.l, h.nl, h.n⟩
  · rw [e]
    have : KpAt c Ck (rm p (upd (rm P (rm a H')) p o)) A b ps y ls' (past ++ [qq]) := by rw [rm_updD]; exact hp
    exact this.same rm_le
  · have nx : x ≠ p := fun e => by
      rw [e] at hx
      rw [(rm_some hx).2] at n0
      cases n0
    rw [e, upd_ne nx]
    exact h.o x u n1 n2 n3 hx
theorem SW.pop (nP : P ≠ a) {r0 : List Addr} {pre2 : List (List Int)} {t0 t : List Int} {past' : List Pst} (hk : KpAt c Ck (rm P (rm a H0)) A b ps y t past) (u : Purse H' a cc) (hk' : KpAt c Ck (rm P (rm a H')) A b ps y t0 past') (h : HistL (pre2 ++ [t0]) past') (o : Off A (rm P (rm a H0)) (rm P (rm a H'))) {r : Addr} (hp : Paired (fun (t : List Int) r => r ≠ P ∧ rm a H0 r = some (.lst (t.map V.int)) ∧ r ≠ A.l ∧ r ≠ A.p) (pre2 ++ [t0] ++ [t]) (r0 ++ [r])) (hn : ∀ t' ∈ pre2 ++ [t0] ++ [t], t'.length ≤ N0 ∧ SmL t') (hN : N0 ≤ N) :
    SW c Ck a cc N (upd H' P (.lst (r0.map V.ref))) A P b ps y (pre2 ++ [t0]) past' ∧ Off A (rm P (rm a H0)) (rm P (rm a (upd H' P (.lst (r0.map V.ref))))) := by
  have e : rm P (rm a (upd H' P (.lst (r0.map V.ref)))) = rm P (rm a H') := by rw [rm_upd nP, rm_updD]
  have eP : rm a (upd H' P (.lst (r0.map V.ref))) P = some (.lst (r0.map V.ref)) := rm_of nP upd_same
  refine ⟨⟨u.upd nP, ⟨_, _, rfl, by rw [e]; exact hk'⟩, ⟨r0, eP, ?_⟩, h, fun t ht => ?_⟩, by rw [e]; exact o⟩
  · have key : ∀ {x : Addr} {o : HO}, x ≠ P → rm a H' x = some o → rm a (upd H' P (.lst (r0.map V.ref))) x = some o := fun n hx => by
      obtain ⟨na, hx⟩ := rm_some hx
      exact rm_of na (by rw [upd_ne n]; exact hx)
    refine paired_imp (fun t r z => ?_) (paired_unsnoc hp).1
    obtain ⟨z1, z2, z3, z4⟩ := z
    have nk : r ≠ A.k := fun e => by
      obtain ⟨q, hi, _⟩ := hk.ins
      rw [← e, rm_of z1 z2] at hi
      cases hi
    exact ⟨z1, key z1 (rm_some (o r _ nk z3 z4 (rm_of z1 z2))).2, z3, z4⟩
  · have := hn t (List.mem_append_left _ ht)
    exact ⟨Nat.le_trans this.1 hN, this.2⟩
end

end Bc
namespace Bc
open PySem PySem.Spec PyProof.Rows L2
/-! ### == and != of things whose class has no == of its own -/
section
variable {prog : Program} {w : World} {A : Around} {E : Value → Shared → Prop} {s : Shared} {K : PySem.W.Frag} {x y C : Addr} {ox oy : Obj} {od od' : Option Obj} {b tb r : Value}
theorem ifBound_objEq {M : Model} {args : List Value} {Q : Option Value → Shared → Prop} (X : K.In s.heap) (I : PySem.W.InstAt s.heap x ox C od) (hs : PySem.W.findIn K (.ref C) "__eq__" = some (some (.builtin "object.__eq__")))
    (h : wpAny M A (call (.builtin "object.__eq__") (.ref x :: args)) (fun v => Q (some v)) E s) : wpAny M A (callSpecialIfBound? (.ref x) "__eq__" args) Q E s := by
  simp only [callSpecialIfBound?, bindSpecialIfBound?]
  refine wpAny_holding (wpAny_bind (wpAny_bind (wpAny_bind (I.type.here ((PySem.W.looks_findIn X hs).here ?_)))))
  refine wpAny_bind (wpAny_askSetting (wpAny_ite ?_))
  have fin : wpAny M A (call (.builtin "object.__eq__") ([.ref x] ++ args) >>= fun v => pure (some v)) Q E s := wpAny_bind (wpAny_mono h (fun v s' h' => wpAny_pure h') fun _ _ h' => h')
  split
  · exact wpAny_bind (wpAny_of_eq (F.cmp_object.eq.bind _) (wpAny_pure (by exact fin)))
  · exact wpAny_tryCatch (wpAny_bind (wpAny_of_eq (F.cmp_object.eq.bind _) (wpAny_pure (by exact fin))))
/-- a question by which one's own class's == is object's -/
theorem special_objEq {Q : Option Value → Shared → Prop} (X : K.In s.heap) (I : PySem.W.InstAt s.heap x ox C od) (hs : PySem.W.findIn K (.ref C) "__eq__" = some (some (.builtin "object.__eq__"))) (hm : PySem.W.mroIn K C (.type "object") = some true)
    (h : ∀ R : Fin → Shared → Prop, R (.done (.ret r)) s → wpAny (model prog w) A.in1 (Builtin.«object.__eq__» ⟨[.ref x, b], []⟩) R E s) (q : Q (some r) s) : wpAny (model prog w) A (callSpecialIfBound? (.ref x) "__eq__" [b]) Q E s := by
  refine ifBound_objEq X I hs (wpAny_call (codeAny_call_builtin F.cmp_object.eq.plain F.cmpEntry_eq (PySem.W.check_slot F.cmpKind_eq F.cmpSplit_eq (I.type.andThen (PySem.W.looks_mroIn X hm)) (F.cmpArgs_eq _ _) (h _ q))))
theorem try_objEq {Q : Option Value → Shared → Prop} (X : K.In s.heap) (I : PySem.W.InstAt s.heap x ox C od) (hs : PySem.W.findIn K (.ref C) "__eq__" = some (some (.builtin "object.__eq__"))) (hm : PySem.W.mroIn K C (.type "object") = some true)
    (h : ∀ R : Fin → Shared → Prop, R (.done (.ret r)) s → wpAny (model prog w) A.in1 (Builtin.«object.__eq__» ⟨[.ref x, b], []⟩) R E s) (q : Q (match r with | .notImplemented => none | v => some v) s) : wpAny (model prog w) A (tryCompare (.ref x) "__eq__" b) Q E s := by
  unfold tryCompare
  refine wpAny_bind (special_objEq X I hs hm h ?_)
  cases r <;> exact wpAny_pure q
theorem objEq_int {M : Model} {i : Int} {t : Tok} (R : Fin → Shared → Prop) (q : R (.done (.ret .notImplemented)) s) : wpAny M A (Builtin.«object.__eq__» ⟨[.ref x, .int i t], []⟩) R E s := by
  unfold Builtin.«object.__eq__»
  repeat (first | with_reducible refine wpAny_isSame_plain rfl ?_ | wp_step)
  exact q
theorem intEq_declines (i : Int) (u : Tok) (l : Addr) (dx : Addr) :
    Meets (Builtin.«int.__eq__» ⟨[.int i u, .ref l], []⟩) (fun _ R s => s.heap.get? l = some (PySem.W.instObj C dx) ∧ R (.ok (.ret .notImplemented)) s) :=
  .of_wp fun prog w A R s h => by obtain ⟨hp, g, d, tk, os⟩ := s; obtain ⟨hl, h⟩ := h; wp_walk using AutoSeq1.wpAny_loadPart' hl, wpAny_load hl; exact ⟨_, rfl, h⟩
theorem rc_obj_int {dx : Addr} {i : Int} {u : Tok} {Q : Value → Shared → Prop} (hu : A.units < cLine) (X : K.In s.heap) (I : PySem.W.InstAt s.heap x (PySem.W.instObj C dx) C od) (nf : PySem.W.notFirst K C (.type "int") = true) (hs : PySem.W.findIn K (.ref C) "__eq__" = some (some (.builtin "object.__eq__"))) (hm : PySem.W.mroIn K C (.type "object") = some true)
    (q : Q (.bool false) s) : wpAny (model prog w) A (richCompare .Eq (.ref x) (.int i u)) Q E s := by
  have fin : wpAny (model prog w) A (tryCompare (.ref x) (cmpInfo .Eq).2.1 (.int i u)) (fun r s' => r = none ∧ s' = s) E s := try_objEq X I hs hm (fun R => objEq_int R) ⟨rfl, rfl⟩
  have two : wpAny (model prog w) A (tryCompare (.int i u) (cmpInfo .Eq).2.2 (.ref x)) (fun r s' => r = none ∧ s' = s) E s :=
    wpAny_tryCompare_declines (typeIs_int s i u) F.slot_int_eq (call_meets F.slot_int_eq (typeIs_int s i u) F.entry_int_eq (F.args_int_eq_2 _ _) (intEq_declines i u x dx) ⟨I.at_, rfl, rfl, rfl⟩)
  unfold richCompare
  simp only [oneThing_ref]
  refine wpAny_holding (wpAny_bind (wpAny_cRoomFor hu ?_))
  refine wpAny_bind (I.type.here (wpAny_bind (wpAny_typeOf (typeIs_int s i u) ?_)))
  have last : ∀ s', s' = s → wpAny (model prog w) A (isSame (.ref x) (.int i u)) (fun r s' => Q (.bool r) s') E s' := fun s' e => by
    subst e
    exact wpAny_isSame_plain rfl q
  split
  · rename_i q
    have e : PySem.W.subIn K (.type "int") (.ref C) = some false := by
      rcases Bool.or_eq_true_iff.mp nf with e | e
      · rw [beq_iff_eq.mp e] at q; simp at q
      · exact beq_iff_eq.mp e
    refine wpAny_bind ((PySem.W.looks_subIn X e).here ?_)
    simp only [Bool.false_eq_true, if_false, Bool.not_false, if_true]
    refine wpAny_bind (wpAny_mono fin (fun r s' z => ?_) fun _ _ e => e)
    obtain ⟨rfl, rfl⟩ := z
    refine wpAny_bind (wpAny_mono two (fun r s' z => ?_) fun _ _ e => e)
    obtain ⟨rfl, rfl⟩ := z
    exact wpAny_bind (wpAny_rule (wpAny_bind (wpAny_mono (last _ rfl) (fun r s' z => wpAny_pure z) fun _ _ e => e)))
  · rename_i q
    exact (q (by simp)).elim
end
section
variable {prog : Program} {w : World} {A : Around} {E : Value → Shared → Prop} {s : Shared} {K : PySem.W.Frag} {x y C : Addr} {ox oy : Obj} {od od' : Option Obj} {b tb r : Value}
theorem rc_obj_same {Q : Value → Shared → Prop} (hu : A.units < cLine) (X : K.In s.heap) (I : PySem.W.InstAt s.heap x ox C od) (hs : PySem.W.findIn K (.ref C) "__eq__" = some (some (.builtin "object.__eq__"))) (hm : PySem.W.mroIn K C (.type "object") = some true)
    (q : Q (.bool true) s) : wpAny (model prog w) A (richCompare .Eq (.ref x) (.ref x)) Q E s := by
  have fin : wpAny (model prog w) A (tryCompare (.ref x) (cmpInfo .Eq).2.1 (.ref x)) (fun r s' => r = some (.bool true) ∧ s' = s) E s := try_objEq X I hs hm (fun R => objEq_entry_same) ⟨rfl, rfl⟩
  unfold richCompare
  simp only [oneThing_ref]
  refine wpAny_holding (wpAny_bind (wpAny_cRoomFor hu ?_))
  refine wpAny_bind (I.type.here (wpAny_bind (I.type.here ?_)))
  split
  · rename_i q
    simp at q
  · refine wpAny_bind (wpAny_pure ?_)
    simp only [Bool.false_eq_true, if_false]
    refine wpAny_bind (wpAny_mono fin (fun r s' z => ?_) fun _ _ e => e)
    obtain ⟨rfl, rfl⟩ := z
    exact wpAny_pure q
theorem objNe_declines (hu : A.units < cLine) (X : K.In s.heap) (I : PySem.W.InstAt s.heap x ox C od) (hs : PySem.W.findIn K (.ref C) "__eq__" = some (some (.builtin "object.__eq__"))) (hm : PySem.W.mroIn K C (.type "object") = some true)
    (h : ∀ R : Fin → Shared → Prop, R (.done (.ret .notImplemented)) s → wpAny (model prog w) A.in1 (Builtin.«object.__eq__» ⟨[.ref x, b], []⟩) R E s) (R : Fin → Shared → Prop) (q : R (.done (.ret .notImplemented)) s) :
    wpAny (model prog w) A (Builtin.«object.__ne__» ⟨[.ref x, b], []⟩) R E s := by
  unfold Builtin.«object.__ne__»
  repeat (first
    | with_reducible refine wpAny_cRoomFor hu ?_
    | (refine wpAny_bind (m := callSpecialIfBound? (.ref x) (Str.ofString "__eq__") [b]) (special_objEq X I hs hm h ?_))
    | wp_step)
  exact q
theorem try_objNe (hu : A.units + 1 < cLine) (X : K.In s.heap) (I : PySem.W.InstAt s.heap x ox C od) (hs : PySem.W.findIn K (.ref C) "__eq__" = some (some (.builtin "object.__eq__"))) (hne : PySem.W.findIn K (.ref C) "__ne__" = some (some (.builtin "object.__ne__"))) (hm : PySem.W.mroIn K C (.type "object") = some true)
    (h : ∀ R : Fin → Shared → Prop, R (.done (.ret .notImplemented)) s → wpAny (model prog w) A.in1.in1 (Builtin.«object.__eq__» ⟨[.ref x, b], []⟩) R E s) : wpAny (model prog w) A (tryCompare (.ref x) "__ne__" b) (fun r s' => r = none ∧ s' = s) E s := by
  unfold tryCompare
  refine wpAny_bind (ifBound_objNe X I hne (wpAny_call (codeAny_call_builtin F.cmp_object.ne.plain F.cmpEntry_ne (PySem.W.check_slot F.cmpKind_ne F.cmpSplit_ne (I.type.andThen (PySem.W.looks_mroIn X hm)) (F.cmpArgs_ne _ _)
      (objNe_declines (A := A.in1) hu X I hs hm h _ ?_)))))
  exact wpAny_pure ⟨rfl, rfl⟩
theorem rc_obj_ne {Q : Value → Shared → Prop} (hu : A.units + 1 < cLine) (X : K.In s.heap) (I : PySem.W.InstAt s.heap x ox C od) (J : PySem.W.InstAt s.heap y oy C od') (hxy : x ≠ y) (hs : PySem.W.findIn K (.ref C) "__eq__" = some (some (.builtin "object.__eq__"))) (hne : PySem.W.findIn K (.ref C) "__ne__" = some (some (.builtin "object.__ne__"))) (hm : PySem.W.mroIn K C (.type "object") = some true)
    (q : Q (.bool true) s) : wpAny (model prog w) A (richCompare .NotEq (.ref x) (.ref y)) Q E s := by
  have nt : ox.cls ≠ .type "tuple" := by rw [I.cls]; exact fun e => by cases e
  have nt' : oy.cls ≠ .type "tuple" := by rw [J.cls]; exact fun e => by cases e
  have one := try_objNe (prog := prog) (w := w) (E := E) (b := .ref y) hu X I hs hne hm (fun R => objEq_entry_other hxy I.at_ J.at_ nt)
  have two := try_objNe (prog := prog) (w := w) (E := E) (b := .ref x) hu X J hs hne hm (fun R => objEq_entry_other hxy.symm J.at_ I.at_ nt')
  unfold richCompare
  simp only [oneThing_ref]
  refine wpAny_holding (wpAny_bind (wpAny_cRoomFor (Nat.lt_of_succ_lt hu) ?_))
  refine wpAny_bind (I.type.here (wpAny_bind (J.type.here ?_)))
  split
  · rename_i q
    simp at q
  · refine wpAny_bind (wpAny_pure ?_)
    simp only [Bool.false_eq_true, if_false, Bool.not_false, if_true]
    refine wpAny_bind (wpAny_mono one (fun r s' z => ?_) fun _ _ e => e)
    obtain ⟨rfl, rfl⟩ := z
    refine wpAny_bind (wpAny_mono two (fun r s' z => ?_) fun _ _ e => e)
    obtain ⟨rfl, rfl⟩ := z
    exact wpAny_bind (wpAny_rule (wpAny_bind (wpAny_isSame_ref_other hxy I.at_ J.at_ nt (wpAny_pure q))))
end
/-- what the text must say of such a class -/
structure IdC (K : PySem.W.Frag) (C : Addr) : Prop where
  eq : PySem.W.findIn K (.ref C) "__eq__" = some (some (.builtin "object.__eq__"))
  ne : PySem.W.findIn K (.ref C) "__ne__" = some (some (.builtin "object.__ne__"))
  mro : PySem.W.mroIn K C (.type "object") = some true
  nf : PySem.W.notFirst K C (.type "int") = true
def rEqI (C : Addr) : R2 := fun x y H Q => ∃ a dx fs, x = .ref a ∧ H a = some (.ins C dx fs) ∧ ((∃ i, y = .int i ∧ Q (.bl false) H) ∨ (y = .ref a ∧ Q (.bl true) H))
def rNeI (C : Addr) : R2 := fun x y H Q => ∃ a dx fs b dy gs, x = .ref a ∧ H a = some (.ins C dx fs) ∧ y = .ref b ∧ H b = some (.ins C dy gs) ∧ a ≠ b ∧ Q (.bl true) H
section
variable {X : Cx} {C : Addr}
theorem op_eqI (c : IdC X.K C) (hu : X.A.units + 64 < cLine) : OpR X (compareOp .Eq) (rEqI C) := by
  intro pins s σ H x y v u Q I rx ry h
  obtain ⟨a, dx, fs, rfl, ha, h⟩ := h
  cases rx
  obtain ⟨mA, O, _⟩ := ins_get I.hok ha
  obtain ⟨od, J, _⟩ := O.look
  show wpAny (model X.prog X.w) X.A (richCompare .Eq (.ref a) u) (EP X pins σ Q) X.xe s
  rcases h with ⟨i, rfl, q⟩ | ⟨rfl, q⟩
  · obtain ⟨t, rfl⟩ := ry
    exact rc_obj_int (by omega) I.kIn J c.nf c.eq c.mro ⟨.bl false, H, I, rfl, q⟩
  · cases ry
    exact rc_obj_same (by omega) I.kIn J c.eq c.mro ⟨.bl true, H, I, rfl, q⟩
theorem op_neI (c : IdC X.K C) (hu : X.A.units + 64 < cLine) : OpR X (compareOp .NotEq) (rNeI C) := by
  intro pins s σ H x y v u Q I rx ry h
  obtain ⟨a, dx, fs, b, dy, gs, rfl, ha, rfl, hb, ab, q⟩ := h
  cases rx
  cases ry
  obtain ⟨mA, O, _⟩ := ins_get I.hok ha
  obtain ⟨od, J, _⟩ := O.look
  obtain ⟨mB, O', _⟩ := ins_get I.hok hb
  obtain ⟨od', J', _⟩ := O'.look
  show wpAny (model X.prog X.w) X.A (richCompare .NotEq (.ref a) (.ref b)) (EP X pins σ Q) X.xe s
  exact rc_obj_ne (by omega) I.kIn J J' ab c.eq c.ne c.mro ⟨.bl true, H, I, rfl, q⟩
end

end Bc
namespace Bc
open PySem PySem.Spec PyProof.Rows L2
/-! ### k87: the world of the kept texts, steps -/
theorem rm_hide {D : Addr} {Ds : List Addr} {H : Hp} : rm D (hide Ds H) = hide (D :: Ds) H := by
  funext b
  unfold hide rm
  by_cases e : b = D
  · subst e
    simp
  · by_cases h : b ∈ Ds
    · simp [h]
    · simp [h, e]
theorem hide_swap {x y : Addr} {Ds : List Addr} {H : Hp} : hide (x :: y :: Ds) H = hide (y :: x :: Ds) H := by
  funext b
  unfold hide
  have e : b ∈ x :: y :: Ds ↔ b ∈ y :: x :: Ds := by
    simp only [List.mem_cons]
    constructor
    · rintro (h | h | h)
      · exact .inr (.inl h)
      · exact .inl h
      · exact .inr (.inr h)
    · rintro (h | h | h)
      · exact .inr (.inl h)
      · exact .inl h
      · exact .inr (.inr h)
  simp only [e]
theorem hide_rm {D : Addr} {Ds : List Addr} {H : Hp} : Same (hide (D :: Ds) H) (rm D H) := by
  rw [← hide_cons]
  exact hide_le
theorem hide_upd {D : Addr} {Ds : List Addr} {H : Hp} {o : HO} (h : D ∉ Ds) : hide Ds (upd H D o) = upd (hide Ds H) D o := by
  funext b
  unfold hide upd
  by_cases e : b = D
  · subst e
    simp [h]
  · simp [e]
theorem upd_id {H : Hp} {D : Addr} {o : HO} (h : H D = some o) : upd H D o = H := by
  funext b
  unfold upd
  by_cases e : b = D
  · rw [if_pos e, e, h]
  · rw [if_neg e]
theorem set_id {α : Type} {xs : List α} {j : Nat} {x : α} (h : xs[j]? = some x) : xs.set j x = xs := by
  refine List.ext_getElem? fun i => ?_
  by_cases e : j = i
  · subst e
    rw [List.getElem?_set_self (List.getElem?_eq_some_iff.mp h).1, h]
  · rw [List.getElem?_set_ne e]
theorem MK_snoc {K0 L0 : Addr} {sh : List (KpA × Addr)} {s : KpA × Addr} {D : Addr} : D ∈ MK K0 L0 (sh ++ [s]) ↔ D ∈ MK K0 L0 sh ∨ D ∈ cellsK s := by
  unfold MK
  simp only [List.mem_cons, List.flatMap_append, List.mem_append, List.flatMap_cons, List.flatMap_nil, List.append_nil]
  constructor
  · rintro (h | h | h | h)
    · exact .inl (.inl h)
    · exact .inl (.inr (.inl h))
    · exact .inl (.inr (.inr h))
    · exact .inr h
  · rintro ((h | h | h) | h)
    · exact .inl h
    · exact .inr (.inl h)
    · exact .inr (.inr (.inl h))
    · exact .inr (.inr (.inr h))
theorem if_same {α : Type} {j : Nat} {f : Nat → α} : (fun n => if n = j then f j else f n) = f := by
  funext n
  by_cases e : n = j
  · rw [if_pos e, e]
  · rw [if_neg e]
theorem copies {F : List Int → Addr → Prop} {R : V → V → Prop} {Pn : List Int → Addr → Prop} (k : ∀ t r y, F t r → R (.ref r) y → ∃ q, y = .ref q ∧ Pn t q) : ∀ {ts : List (List Int)} {rs : List Addr} {ys : List V}, Paired F ts rs → Paired R (rs.map V.ref) ys → ∃ qs : List Addr, ys = qs.map V.ref ∧ Paired Pn ts qs
  | _, _, _, .nil, h => by
    cases h
    exact ⟨[], rfl, .nil⟩
  | _, _, _, .cons f p, h => by
    cases h with
    | cons g q =>
      obtain ⟨qs, e, h2⟩ := copies k p q
      obtain ⟨z, e2, h3⟩ := k _ _ _ f g
      exact ⟨z :: qs, by rw [e, e2]; rfl, .cons h3 h2⟩
/-- a twin: what it keeps does not hang on the lists of the first one -/
def spKnTwinS (c : CA) (Ck : Addr) : Sp := fun vs H Q _ => ∃ (A : KpA) (b : Int) (ps : List (Int × Int)) (y : Sty) (ls : List Int) (past : List Pst), vs = [.ref A.k] ∧ KpAt c Ck H A b ps y ls past ∧ ∀ (A' : KpA) H', H A'.k = none → H A'.l = none → H A'.p = none → Same H H' → KpAt c Ck (rm A.p (rm A.l H')) A' b ps y ls past → Q (.ref A'.k) H'
section
variable {c : CA} {Ck a K0 L0 g r : Addr} {cc cc' : Int} {N N' : Nat} {Hb H H' : Hp} {b : Int} {ps : List (Int × Int)} {y : Sty} {sh : List (KpA × Addr)} {ts : Nat → List (List Int)} {past : Nat → List Pst} {j : Nat} {s : KpA × Addr} {ts' : List (List Int)} {past' : List Pst} {Q : VK} {E : XK}
theorem WayAt.noL {w D : Addr} {xs : List V} (h : WayAt c H w b ps y) (hD : H D = some (.lst xs)) : WayAt c (Bc.rm D H) w b ps y := by
  have hi : ∀ {z C d : Addr} {gs : List (Str × V)}, H z = some (.ins C d gs) → Bc.rm D H z = some (.ins C d gs) := fun {z C d gs} e => rm_of (fun q => by rw [q, hD] at e; cases e) e
  have ht : ∀ {z : Addr} {xs : List V}, H z = some (.tup xs) → Bc.rm D H z = some (.tup xs) := fun {z xs} e => rm_of (fun q => by rw [q, hD] at e; cases e) e
  obtain ⟨dx, m, k, h1, ⟨d2, t, ts, h2, h3, h4, h5⟩, ⟨d3, h6⟩, h7⟩ := h
  exact ⟨dx, m, k, hi h1, ⟨d2, t, ts, hi h2, ht h3, paired_imp (fun _ _ z => ht z) h4, h5⟩, ⟨d3, hi h6⟩, h7⟩
/-- a fresh kept text hangs on no list but its own -/
theorem KpAt.bare {A : KpA} {ls : List Int} {D : Addr} {xs : List V} (h : KpAt c Ck H A b ps y ls []) (hi : H A.k = some (.ins Ck A.dx (kpF A.l A.w A.p .non))) (hD : H D = some (.lst xs)) (nl : D ≠ A.l) (np : D ≠ A.p) : KpAt c Ck (Bc.rm D H) A b ps y ls [] := by
  obtain ⟨⟨r, h1, h2⟩, h3, ⟨ts, h4, h5⟩, h6, h7, h8, h9⟩ := h
  cases h5
  exact ⟨⟨.non, rm_of (fun q => by rw [← q, hi] at hD; cases hD) hi, .inl rfl⟩, rm_of nl.symm h3, ⟨[], rm_of np.symm h4, .nil⟩, h6.noL hD, h7, h8, h9⟩
theorem use_knI {v : V} {w : Addr} {ls : List Int} {PP : Addr → Hp → Prop} (ht : TextAt H v ls) (hl : ls.length ≤ 1000) (hw : WayAt c H w b ps y) (q : ∀ (A : KpA) H', H A.k = none → H A.l = none → H A.p = none → A.w = w → Same H H' → KpAt c Ck H' A b ps y ls [] → H' A.k = some (.ins Ck A.dx (kpF A.l A.w A.p .non)) → PP A.k H') :
    ∀ x dx, H x = none → H dx = none → dx ≠ x → spKnInit c Ck (.ref x :: ([v, .ref w] ++ [])) (upd (upd H dx (.own x)) x (.ins Ck dx [])) (fun v H2 => v = .non ∧ PP x H2) E := fun x dx nx nd ne => by
  have s : Same H (upd (upd H dx (.own x)) x (.ins Ck dx [])) := fun b o h => by rw [upd_ne (ne_of_none h nx), upd_ne (ne_of_none h nd)]; exact h
  have s2 : Same H (rm x (upd (upd H dx (.own x)) x (.ins Ck dx []))) := fun b o h => rm_of (ne_of_none h nx) (s b o h)
  refine ⟨x, dx, v, w, ls, b, ps, y, rfl, upd_same, ht.same s, hl, hw.same s2, fun A H' ek _ ew nl np sm hk hi => ⟨rfl, ?_⟩⟩
  rw [← ek]
  exact q A H' (by rw [ek]; exact nx) (s.free nl) (s.free np) ew (Same.trans s2 (Same.trans sm rm_le)) hk hi
theorem Wd.last (h : Wd c Ck a cc N K0 L0 b ps y Hb H sh ts past) (hj : sh[j]? = some s) : ∃ (r0 : List Addr) (r : Addr) (pre : List (List Int)) (ls : List Int), H s.2 = some (.lst (r0.map V.ref ++ [.ref r])) ∧ ts j = pre ++ [ls] ∧ KpAt c Ck (hide (a :: s.2 :: frn (MK K0 L0 sh) s) H) s.1 b ps y ls (past j) ∧
    hide (a :: s.2 :: frn (MK K0 L0 sh) s) H r = some (.lst (ls.map V.int)) ∧ r ≠ s.1.l ∧ r ≠ s.1.p ∧ ls.length ≤ N ∧ SmL ls ∧ s.2 ≠ a ∧ r0.length + 1 = (ts j).length := by
  have sw := h.w j s hj
  have nP := (sw.cl s.2 (by simp [cellsK])).1
  obtain ⟨_, ⟨pre, ls, e, hk⟩, ⟨rs, hp, prs⟩, hh, hn⟩ := sw
  rw [rm_hide, rm_hide, hide_swap] at hk
  have hl := hn ls (by rw [e]; simp)
  rw [e] at prs
  rcases List.eq_nil_or_concat rs with e1 | ⟨r0, r, e1⟩
  · subst e1
    have := prs.length
    simp at this
  · rw [List.concat_eq_append] at e1
    subst e1
    obtain ⟨_, z1, z2, z3, z4⟩ := paired_unsnoc prs
    rw [rm_hide] at z2 hp
    obtain ⟨n1, z2⟩ := hide_some z2
    have pl := prs.length
    refine ⟨r0, r, pre, ls, ?_, e, hk, hide_of ?_ z2, z3, z4, hl.1, hl.2, nP, by rw [e, pl, List.length_append]; rfl⟩
    · rw [List.map_append] at hp
      exact hide_le _ _ hp
    · simp only [List.mem_cons, not_or] at n1 ⊢
      exact ⟨n1.1, z1, n1.2⟩
theorem Wd.nin (h : Wd c Ck a cc N K0 L0 b ps y Hb H sh ts past) (hj : sh[j]? = some s) : s.2 ∉ frn (MK K0 L0 sh) s ∧ a ∉ s.2 :: frn (MK K0 L0 sh) s := by
  have n1 : s.2 ∉ frn (MK K0 L0 sh) s := fun h => (mem_frn.mp h).2 (by simp [cellsK])
  refine ⟨n1, fun h2 => ?_⟩
  rcases List.mem_cons.mp h2 with e | e
  · exact h.am (by rw [e]; exact mem_MK hj (by simp [cellsK]))
  · exact h.am (mem_frn.mp e).1
theorem use_deedW (hne : ∀ z ∈ [c.wy, c.md, c.kg], z ≠ Ck) (h : Wd c Ck a cc N K0 L0 b ps y Hb H sh ts past) (hj : sh[j]? = some s) (hc : cc < 2 ^ 47) (hN : N ≤ 130) (ht : (ts j).length ≤ 50)
    (q : ∀ H' ts' past', ts'.length ≤ (ts j).length + 1 → Wd c Ck a (cc + 100) (N + 6) K0 L0 b ps y Hb H' sh (fun n => if n = j then ts' else ts n) (fun n => if n = j then past' else past n) → Q (.ref s.1.k) H') : hid (spDeed87 c Ck) [.ref a, .ref s.1.k, .ref s.2] H Q E := by
  refine use_hid (Ds := frn (MK K0 L0 sh) s) h.lists' fun E' => ?_
  have sw := h.w j s hj
  refine ⟨a, s.2, cc, N, s.1, b, ps, y, ts j, past j, rfl, hc, hN, ht, (sw.cl s.2 (by simp [cellsK])).1, sw, fun ts' past' H2 o sw' hl hn => ?_⟩
  have eH : hide (frn (MK K0 L0 sh) s) (back (frn (MK K0 L0 sh) s) H H2) = H2 := hide_back hn
  exact q _ ts' past' hl (h.step hne hj (fun D hD => back_in hD) (by omega) (by rw [eH]; exact sw') (by rw [eH]; exact o))
theorem use_agrW (hne : ∀ z ∈ [c.wy, c.md, c.kg], z ≠ Ck) (h : Wd c Ck a cc N K0 L0 b ps y Hb H sh ts past) (hj : sh[j]? = some s) (hc : cc < 2 ^ 47) (hN : N ≤ 140) (fN : FitN (num ps) y) (hg : Hb g = some (.lst [.bl y.low, .int y.shift, .bl y.lead])) {pre : List (List Int)} {ls : List Int} (e : ts j = pre ++ [ls]) (hk : KpAt c Ck (hide (a :: s.2 :: frn (MK K0 L0 sh) s) H) s.1 b ps y ls (past j))
    (hr : hide (a :: s.2 :: frn (MK K0 L0 sh) s) H r = some (.lst (ls.map V.int))) (n1 : r ≠ s.1.l) (n2 : r ≠ s.1.p) (hl : ls.length ≤ N) (sm : SmL ls)
    (q : ∀ H', Wd c Ck a (cc + 10) N K0 L0 b ps y Hb H' sh ts past → Q (.bl true) H') : hid (spAgr87 c Ck) [.ref a, .ref s.1.k, .ref r, .ref g] H Q E := by
  obtain ⟨nP, na⟩ := h.nin hj
  have sw := h.w j s hj
  refine use_hid (Ds := s.2 :: frn (MK K0 L0 sh) s) (fun D hD => ?_) fun E' => ?_
  · rcases List.mem_cons.mp hD with e | e
    · rw [e]
      exact h.lists _ (mem_MK hj (by simp [cellsK]))
    · exact h.lists' _ e
  have pu : Purse (hide (s.2 :: frn (MK K0 L0 sh) s) H) a cc := by
    obtain ⟨x, y, z, e, r⟩ := h.u
    exact ⟨x, y, z, hide_of na e, r⟩
  have kins : ∃ r, H s.1.k = some (.ins Ck s.1.dx (kpF s.1.l s.1.w s.1.p r)) := by
    obtain ⟨r, h1, _⟩ := hk.ins
    exact ⟨_, hide_le _ _ h1⟩
  have hg1 := hide_some (h.base _ _ hg)
  have hgn : g ∉ a :: s.2 :: frn (MK K0 L0 sh) s := fun hm => hg1.1 (by
    rcases List.mem_cons.mp hm with e | hm
    · rw [e]; exact List.mem_cons_self ..
    rcases List.mem_cons.mp hm with e | hm
    · rw [e]; exact List.mem_cons_of_mem _ (mem_MK hj (by simp [cellsK]))
    · exact List.mem_cons_of_mem _ (mem_frn.mp hm).1)
  have ngl : g ≠ s.1.l ∧ g ≠ s.1.p := ⟨fun e => hg1.1 (by rw [e]; exact List.mem_cons_of_mem _ (mem_MK hj (by simp [cellsK]))), fun e => hg1.1 (by rw [e]; exact List.mem_cons_of_mem _ (mem_MK hj (by simp [cellsK])))⟩
  have nk : ∀ {z : Addr} {xs : List V}, H z = some (.lst xs) → z ≠ s.1.k := fun {z xs} hz e => by
    obtain ⟨_, h1⟩ := kins
    rw [e, h1] at hz
    cases hz
  refine ⟨a, r, g, cc, s.1, b, ps, y, ls, past j, rfl, hc, ⟨pu, by rw [rm_hide]; exact hk, fN, sm⟩, by omega, by rw [rm_hide]; exact hr, ⟨nk (hide_le _ _ hr), n1, n2⟩, by rw [rm_hide]; exact hide_of hgn hg1.2, ⟨nk hg1.2, ngl.1, ngl.2⟩, fun H2 o kb hn => ?_⟩
  have eH : hide (s.2 :: frn (MK K0 L0 sh) s) (back (s.2 :: frn (MK K0 L0 sh) s) H H2) = H2 := hide_back hn
  have eP : back (s.2 :: frn (MK K0 L0 sh) s) H H2 s.2 = H s.2 := back_in (List.mem_cons_self ..)
  have hf : ∀ D ∈ frn (MK K0 L0 sh) s, back (s.2 :: frn (MK K0 L0 sh) s) H H2 D = H D := fun D hD => back_in (List.mem_cons_of_mem _ hD)
  generalize back (s.2 :: frn (MK K0 L0 sh) s) H H2 = H' at eH eP hf
  have sl : Same H2 (hide (frn (MK K0 L0 sh) s) H') := by
    rw [← eH, ← rm_hide]
    exact rm_le
  have e1 : rm s.2 (rm a (hide (frn (MK K0 L0 sh) s) H')) = rm a H2 := by rw [rm_hide, rm_hide, hide_swap, ← rm_hide, eH]
  have e0 : rm s.2 (rm a (hide (frn (MK K0 L0 sh) s) H)) = rm a (hide (s.2 :: frn (MK K0 L0 sh) s) H) := by rw [rm_hide, rm_hide, hide_swap, ← rm_hide]
  have st := h.step hne hj (H' := H') (cc' := cc + 10) (N' := N) (ts' := ts j) (past' := past j) hf (Nat.le_refl _) ⟨kb.u.same sl, ⟨pre, ls, e, by rw [e1]; exact kb.k⟩, ?_, sw.h, sw.n⟩ (by rw [e0, e1]; exact o)
  · rw [if_same, if_same] at st
    exact q _ st
  · obtain ⟨rs, hp, prs⟩ := sw.p
    refine ⟨rs, ?_, paired_imp (fun t z x => ?_) prs⟩
    · rw [rm_hide] at hp ⊢
      obtain ⟨m, hp⟩ := hide_some hp
      exact hide_of m (by rw [eP]; exact hp)
    · obtain ⟨x1, x2, x3, x4⟩ := x
      refine ⟨x1, ?_, x3, x4⟩
      obtain ⟨y1, y2⟩ := rm_some x2
      obtain ⟨y3, y4⟩ := hide_some y2
      have := o z _ (nk y4) x3 x4 (rm_of y1 (hide_of (fun hm => (List.mem_cons.mp hm).elim x1 y3) y4))
      exact sl.rm _ _ this
theorem use_undoW (hne : ∀ z ∈ [c.wy, c.md, c.kg], z ≠ Ck) (h : Wd c Ck a cc N K0 L0 b ps y Hb H sh ts past) (hj : sh[j]? = some s) (h2 : 1 < (ts j).length) (hN : N ≤ 400)
    (q : ∀ H' r0 r, H' L0 = some (.lst (sh.map fun s => V.ref s.2)) → H' s.2 = some (.lst (List.map V.ref r0 ++ [.ref r])) → (∃ ts' past', ts'.length + 1 = (ts j).length ∧ Wd c Ck a cc N K0 L0 b ps y Hb (upd H' s.2 (.lst (List.map V.ref r0))) sh (fun n => if n = j then ts' else ts n) (fun n => if n = j then past' else past n)) → Q .non H') :
    hid (spKnUndo c Ck) [.ref s.1.k] H Q E := by
  obtain ⟨nP, na⟩ := h.nin hj
  have sw := h.w j s hj
  have nPa := (sw.cl s.2 (by simp [cellsK])).1
  obtain ⟨pre, t0, t, pa, qq, e5, e6, hh', f1, f2, f3⟩ := sw.h.back h2
  obtain ⟨pl, hpl, _⟩ := h.u.up
  have hs := List.mem_of_getElem? hj
  refine use_hid (Ds := a :: s.2 :: frn (MK K0 L0 sh) s) (fun D hD => ?_) fun E' => ?_
  · rcases List.mem_cons.mp hD with e | hD
    · exact ⟨pl, by rw [e]; exact hpl⟩
    rcases List.mem_cons.mp hD with e | e
    · rw [e]
      exact h.lists _ (mem_MK hj (by simp [cellsK]))
    · exact h.lists' _ e
  obtain ⟨pre', ls, e7, hk⟩ := sw.k
  have e8 := e7
  rw [e5] at e8
  obtain ⟨e9, e10⟩ := List.append_inj' e8 rfl
  cases e10
  subst e9
  have hn0 := (sw.n t (by rw [e5]; simp)).1
  have hn1 := (sw.n t0 (by rw [e5]; simp)).1
  have hql : qq.ls.length ≤ t0.length := by
    rw [← f3]
    simp only [List.length_append]
    omega
  have hk0 := hk
  rw [rm_hide, rm_hide, hide_swap] at hk
  rw [e6] at hk
  refine ⟨s.1, b, ps, y, t, pa, qq, rfl, hk, f1, f2, by omega, fun H2 o hk2 hn => ?_⟩
  rw [f3] at hk2
  have eH : hide (a :: s.2 :: frn (MK K0 L0 sh) s) (back (a :: s.2 :: frn (MK K0 L0 sh) s) H H2) = H2 := hide_back hn
  have eP : ∀ D ∈ a :: s.2 :: frn (MK K0 L0 sh) s, back (a :: s.2 :: frn (MK K0 L0 sh) s) H H2 D = H D := fun D hD => back_in hD
  generalize back (a :: s.2 :: frn (MK K0 L0 sh) s) H H2 = H' at eH eP
  have e1 : rm s.2 (rm a (hide (frn (MK K0 L0 sh) s) H')) = H2 := by rw [rm_hide, rm_hide, hide_swap, eH]
  have e0 : rm s.2 (rm a (hide (frn (MK K0 L0 sh) s) H)) = hide (a :: s.2 :: frn (MK K0 L0 sh) s) H := by rw [rm_hide, rm_hide, hide_swap]
  have u' : Purse (hide (frn (MK K0 L0 sh) s) H') a cc := by
    obtain ⟨x, y, z, e, r⟩ := h.u
    exact ⟨x, y, z, hide_of (fun hm => na (List.mem_cons_of_mem _ hm)) (by rw [eP _ (List.mem_cons_self ..)]; exact e), r⟩
  obtain ⟨rs, hp, prs⟩ := sw.p
  have hn := sw.n
  rw [e5] at prs hn
  rcases List.eq_nil_or_concat rs with e11 | ⟨r0, r, e11⟩
  · subst e11
    have := prs.length
    simp at this
  rw [List.concat_eq_append] at e11
  subst e11
  have f := SW.pop (cc := cc) (N := N) nPa hk0 u' (by rw [e1]; exact hk2) hh' (by rw [e0, e1]; exact o) prs hn (Nat.le_refl _)
  have hP : H s.2 = some (.lst (List.map V.ref r0 ++ [.ref r])) := by
    rw [rm_hide, List.map_append] at hp
    exact hide_le _ _ hp
  refine q H' r0 r ?_ ?_ ⟨pre ++ [t0], pa, by rw [e5]; simp, ?_⟩
  · rw [eP]
    · exact h.hL
    · exact List.mem_cons_of_mem _ (List.mem_cons_of_mem _ (mem_frn.mpr ⟨List.mem_cons_of_mem _ (List.mem_cons_self ..), (h.kc s hs).2⟩))
  · rw [eP _ (List.mem_cons_of_mem _ (List.mem_cons_self ..))]
    exact hP
  · refine h.step hne hj (fun D hD => ?_) (Nat.le_refl _) (by rw [hide_upd nP]; exact f.1) (by rw [hide_upd nP]; exact f.2)
    rw [upd_ne (fun e => nP (by rw [← e]; exact hD)), eP _ (List.mem_cons_of_mem _ (List.mem_cons_of_mem _ hD))]
theorem use_twinW (h : Wd c Ck a cc N K0 L0 b ps y Hb H sh ts past) (hj : sh[j]? = some s) {ls : List Int} (hk : KpAt c Ck (hide (a :: s.2 :: frn (MK K0 L0 sh) s) H) s.1 b ps y ls (past j))
    (q : ∀ (A' : KpA) H', Same H H' → H A'.k = none → H A'.l = none → H A'.p = none → KpAt c Ck (hide (a :: MK K0 L0 sh) H') A' b ps y ls (past j) → Q (.ref A'.k) H') : hid (spKnTwinS c Ck) [.ref s.1.k] H Q E := by
  obtain ⟨pl, hpl, _⟩ := h.u.up
  refine use_hid (Ds := a :: s.2 :: frn (MK K0 L0 sh) s) (fun D hD => ?_) fun E' => ?_
  · rcases List.mem_cons.mp hD with e | hD
    · exact ⟨pl, by rw [e]; exact hpl⟩
    rcases List.mem_cons.mp hD with e | e
    · rw [e]
      exact h.lists _ (mem_MK hj (by simp [cellsK]))
    · exact h.lists' _ e
  refine ⟨s.1, b, ps, y, ls, past j, rfl, hk, fun A' H2 nk nl np s2 hk2 hn => ?_⟩
  have out : ∀ {x : Addr} {o : HO}, rm s.1.p (rm s.1.l H2) x = some o → x ∉ a :: s.2 :: frn (MK K0 L0 sh) s ∧ x ∉ a :: MK K0 L0 sh ∧ H2 x = some o := fun {x o} hx => by
    obtain ⟨n1, hx⟩ := rm_some hx
    obtain ⟨n2, hx⟩ := rm_some hx
    have n3 : x ∉ a :: s.2 :: frn (MK K0 L0 sh) s := fun e => by rw [hn x e] at hx; cases hx
    refine ⟨n3, fun e => ?_, hx⟩
    simp only [List.mem_cons, not_or] at n3
    rcases List.mem_cons.mp e with e | e
    · exact n3.1 e
    · refine n3.2.2 (mem_frn.mpr ⟨e, fun ec => ?_⟩)
      unfold cellsK at ec
      simp only [List.mem_cons, List.not_mem_nil, or_false] at ec
      rcases ec with e | e | e
      · exact n2 e
      · exact n1 e
      · exact n3.2.1 e
  obtain ⟨r, hi, _⟩ := hk2.ins
  obtain ⟨us, hp, _⟩ := hk2.pst
  have fr : ∀ {x : Addr} {o : HO}, rm s.1.p (rm s.1.l H2) x = some o → hide (a :: s.2 :: frn (MK K0 L0 sh) s) H x = none → H x = none := fun {x o} hx n => by rw [hide_out (out hx).1] at n; exact n
  refine q A' _ (fun x o hx => ?_) (fr hi nk) (fr hk2.ltr nl) (fr hp np) (hk2.same fun x o hx => ?_)
  · by_cases e : x ∈ a :: s.2 :: frn (MK K0 L0 sh) s
    · rw [back_in e]; exact hx
    · rw [back_out e]; exact s2 _ _ (hide_of e hx)
  · obtain ⟨n1, n2, h2⟩ := out hx
    exact hide_of n2 (by rw [back_out n1]; exact h2)
/-- one more kept text beside the others -/
theorem Wd.grow (hne : ∀ z ∈ [c.wy, c.md, c.kg], z ≠ Ck) (h : Wd c Ck a cc N K0 L0 b ps y Hb H sh ts past) (hj : sh[j]? = some s) {A' : KpA} {P' : Addr} {H1 H3 : Hp} {pre : List (List Int)} {ls : List Int} {rs : List Addr} (s1 : Same H H1) (nk : H A'.k = none) (nl : H A'.l = none) (np : H A'.p = none)
    (hk : KpAt c Ck (hide (a :: MK K0 L0 sh) H1) A' b ps y ls (past j)) (els : ts j = pre ++ [ls]) (nP : H1 P' = none) (st : ∀ x o, x ≠ a → x ≠ K0 → x ≠ L0 → H1 x = some o → H3 x = some o) (u3 : Purse H3 a cc')
    (hK3 : H3 K0 = some (.lst ((sh ++ [(A', P')]).map fun s => V.ref s.1.k))) (hL3 : H3 L0 = some (.lst ((sh ++ [(A', P')]).map fun s => V.ref s.2))) (hP3 : H3 P' = some (.lst (rs.map V.ref)))
    (prs : Paired (fun (t : List Int) r => H1 r = none ∧ r ≠ P' ∧ H3 r = some (.lst (t.map V.int))) (ts j) rs) :
    Wd c Ck a cc' N K0 L0 b ps y Hb H3 (sh ++ [(A', P')]) (fun n => if n = sh.length then ts j else ts n) (fun n => if n = sh.length then past j else past n) := by
  obtain ⟨pl, hpl, _⟩ := h.u.up
  have hex : ∀ D ∈ a :: MK K0 L0 sh, ∃ xs, H D = some (.lst xs) := fun D hD => by
    rcases List.mem_cons.mp hD with e | hD
    · exact ⟨pl, by rw [e]; exact hpl⟩
    · exact h.lists D hD
  have nPH : H P' = none := s1.free nP
  have fc : ∀ x ∈ cellsK (A', P'), H x = none := fun x hx => by
    unfold cellsK at hx
    simp only [List.mem_cons, List.not_mem_nil, or_false] at hx
    rcases hx with rfl | rfl | rfl
    · exact nl
    · exact np
    · exact nPH
  have fm : ∀ x, H x = none → x ∉ a :: MK K0 L0 sh := fun x hx hm => by
    obtain ⟨xs, e⟩ := hex x hm
    rw [hx] at e
    cases e
  have K0n : ∀ x, H x = none → x ≠ K0 := fun x hx e => fm x hx (by rw [e]; exact List.mem_cons_of_mem _ (List.mem_cons_self ..))
  have L0n : ∀ x, H x = none → x ≠ L0 := fun x hx e => fm x hx (by rw [e]; exact List.mem_cons_of_mem _ (List.mem_cons_of_mem _ (List.mem_cons_self ..)))
  have an : ∀ x, H x = none → x ≠ a := fun x hx e => fm x hx (by rw [e]; exact List.mem_cons_self ..)
  have am' : a ∉ MK K0 L0 (sh ++ [(A', P')]) := fun hm => (MK_snoc.mp hm).elim h.am fun hc => an a (fc a hc) rfl
  have kcs : ∀ t ∈ sh, ∃ C dx fs, H t.1.k = some (.ins C dx fs) := fun t ht => by
    obtain ⟨i, hi⟩ := List.getElem?_of_mem ht
    obtain ⟨_, _, e, hk⟩ := (h.w i t hi).k
    obtain ⟨r, h1, _⟩ := hk.ins
    exact ⟨_, _, _, hide_le _ _ (rm_le _ _ (rm_le _ _ h1))⟩
  have ccs : ∀ t ∈ sh, ∀ x ∈ cellsK t, ∃ o, H x = some o := fun t ht x hx => by
    obtain ⟨i, hi⟩ := List.getElem?_of_mem ht
    obtain ⟨_, xs, e⟩ := (h.w i t hi).cl x hx
    exact ⟨_, hide_le _ _ e⟩
  have cross : ∀ t ∈ sh, A'.k ≠ t.1.k ∧ ∀ x ∈ cellsK t, x ∉ cellsK (A', P') := fun t ht => by
    refine ⟨fun e => ?_, fun x hx hx' => ?_⟩
    · obtain ⟨_, _, _, h1⟩ := kcs t ht
      rw [← e, nk] at h1
      cases h1
    · obtain ⟨o, h1⟩ := ccs t ht x hx
      rw [fc x hx'] at h1
      cases h1
  refine ⟨u3, hK3, hL3, am', h.kl, fun t ht => ?_, fun i k t1 t2 hik h1 h2 => ?_, fun x o hx => ?_, fun t ht => ?_, fun i t ht => ?_⟩
  · rcases List.mem_append.mp ht with ht | ht
    · exact h.kc t ht
    · rw [List.mem_singleton.mp ht]
      exact ⟨fun e => K0n _ (fc _ e) rfl, fun e => L0n _ (fc _ e) rfl⟩
  · rw [List.getElem?_append] at h1 h2
    split at h1 <;> split at h2
    · exact h.dj i k t1 t2 hik h1 h2
    · obtain rfl : t2 = (A', P') := by
        rw [List.getElem?_singleton] at h2
        split at h2
        · cases h2; rfl
        · cases h2
      have z := cross t1 (List.mem_of_getElem? h1)
      exact ⟨z.1.symm, z.2⟩
    · obtain rfl : t1 = (A', P') := by
        rw [List.getElem?_singleton] at h1
        split at h1
        · cases h1; rfl
        · cases h1
      have z := cross t2 (List.mem_of_getElem? h2)
      exact ⟨z.1, fun x hx hx' => z.2 x hx' hx⟩
    · rw [List.getElem?_singleton] at h1 h2
      split at h1
      · split at h2
        · omega
        · cases h2
      · cases h1
  · obtain ⟨n1, e1⟩ := hide_some (h.base x o hx)
    refine hide_of (fun hm => ?_) (st x o (fun e => n1 (by rw [e]; exact List.mem_cons_self ..)) (fun e => n1 (by rw [e]; exact List.mem_cons_of_mem _ (List.mem_cons_self ..))) (fun e => n1 (by rw [e]; exact List.mem_cons_of_mem _ (List.mem_cons_of_mem _ (List.mem_cons_self ..)))) (s1 _ _ e1))
    rcases List.mem_cons.mp hm with e | hm
    · exact n1 (by rw [e]; exact List.mem_cons_self ..)
    · refine (MK_snoc.mp hm).elim (fun h => n1 (List.mem_cons_of_mem _ h)) fun hc => ?_
      rw [fc x hc] at e1
      cases e1
  · rcases List.mem_append.mp ht with ht | ht
    · exact h.bk t ht
    · rw [List.mem_singleton.mp ht]
      cases e : Hb A'.k with
      | none => rfl
      | some o =>
        have := (hide_some (h.base _ _ e)).2
        rw [nk] at this
        cases this
  · rw [List.getElem?_append] at ht
    split at ht
    · rename_i hi
      have ne : i ≠ sh.length := by omega
      rw [if_neg ne, if_neg ne]
      have htm := List.mem_of_getElem? ht
      have at' : a ∉ frn (MK K0 L0 (sh ++ [(A', P')])) t := fun e => am' (mem_frn.mp e).1
      refine (h.w i t ht).keep hne ?_ (Nat.le_refl _) fun x o na hx => .inl ?_
      · obtain ⟨x, y, z, e, r⟩ := u3
        exact ⟨x, y, z, hide_of at' e, r⟩
      · obtain ⟨n1, e1⟩ := hide_some hx
        have hK : K0 ∈ frn (MK K0 L0 sh) t := mem_frn.mpr ⟨List.mem_cons_self .., (h.kc t htm).1⟩
        have hL : L0 ∈ frn (MK K0 L0 sh) t := mem_frn.mpr ⟨List.mem_cons_of_mem _ (List.mem_cons_self ..), (h.kc t htm).2⟩
        refine hide_of (fun hm => ?_) (st x o na (fun e => n1 (by rw [e]; exact hK)) (fun e => n1 (by rw [e]; exact hL)) (s1 _ _ e1))
        obtain ⟨m1, m2⟩ := mem_frn.mp hm
        rcases MK_snoc.mp m1 with m | m
        · exact n1 (mem_frn.mpr ⟨m, m2⟩)
        · rw [fc x m] at e1
          cases e1
    · rename_i hi
      obtain ⟨e0, rfl⟩ : i - sh.length = 0 ∧ t = (A', P') := by
        rw [List.getElem?_singleton] at ht
        split at ht
        · rename_i e
          cases ht
          exact ⟨e, rfl⟩
        · cases ht
      have e1 : i = sh.length := by omega
      rw [if_pos e1, if_pos e1]
      have at' : a ∉ frn (MK K0 L0 (sh ++ [(A', P')])) (A', P') := fun e => am' (mem_frn.mp e).1
      have fsub : ∀ x, x ∈ frn (MK K0 L0 (sh ++ [(A', P')])) (A', P') → x ∈ MK K0 L0 sh := fun x hx => by
        obtain ⟨m1, m2⟩ := mem_frn.mp hx
        exact (MK_snoc.mp m1).elim id fun h => absurd h m2
      have sw := h.w j s hj
      have hl1 : ∃ xs, H1 A'.l = some (.lst xs) := ⟨_, hide_le _ _ hk.ltr⟩
      have hp1 : ∃ xs, H1 A'.p = some (.lst xs) := by
        obtain ⟨us, hp, _⟩ := hk.pst
        exact ⟨_, hide_le _ _ hp⟩
      refine ⟨?_, ⟨pre, ls, els, hk.same fun x o hx => ?_⟩, ⟨rs, ?_, paired_imp (fun t r z => ?_) prs⟩, sw.h, sw.n⟩
      · obtain ⟨x, y, z, e, r⟩ := u3
        exact ⟨x, y, z, hide_of at' e, r⟩
      · obtain ⟨n1, h1⟩ := hide_some hx
        have nxP : x ≠ P' := fun e => by rw [e, nP] at h1; cases h1
        have nxa : x ≠ a := fun e => n1 (by rw [e]; exact List.mem_cons_self ..)
        exact rm_of nxP (rm_of nxa (hide_of (fun hm => n1 (List.mem_cons_of_mem _ (fsub x hm))) (st x o nxa (fun e => n1 (by rw [e]; exact List.mem_cons_of_mem _ (List.mem_cons_self ..))) (fun e => n1 (by rw [e]; exact List.mem_cons_of_mem _ (List.mem_cons_of_mem _ (List.mem_cons_self ..)))) h1)))
      · exact rm_of (an _ nPH) (hide_of (fun hm => fm _ nPH (List.mem_cons_of_mem _ (fsub _ hm))) hP3)
      · obtain ⟨z1, z2, z3⟩ := z
        have zH : H r = none := s1.free z1
        refine ⟨z2, rm_of (an _ zH) (hide_of (fun hm => fm _ zH (List.mem_cons_of_mem _ (fsub _ hm))) z3), fun e => ?_, fun e => ?_⟩
        · obtain ⟨xs, e2⟩ := hl1
          rw [← e, z1] at e2
          cases e2
        · obtain ⟨xs, e2⟩ := hp1
          rw [← e, z1] at e2
          cases e2
/-- the first of the kept texts -/
theorem Wd.one {A : KpA} {P : Addr} {ls : List Int} {Hx : Hp} (u : Purse H a cc) (hK : H K0 = some (.lst [.ref A.k])) (hL : H L0 = some (.lst [.ref P])) (hP : H P = some (.lst [.ref r])) (hr : H r = some (.lst (ls.map V.int))) (hk : KpAt c Ck Hx A b ps y ls []) (sx : Same Hx H) (nx : ∀ x ∈ [a, K0, L0, P, r], Hx x = none)
    (dis : a ≠ K0 ∧ a ≠ L0 ∧ a ≠ P ∧ a ≠ r ∧ K0 ≠ L0 ∧ K0 ≠ P ∧ L0 ≠ P ∧ r ≠ K0 ∧ r ≠ L0 ∧ r ≠ P) (base : Same Hb Hx) (nk : Hb A.k = none) (nl : Hb A.l = none) (np : Hb A.p = none) (hz : ls.length ≤ N) (sm : SmL ls) :
    Wd c Ck a cc N K0 L0 b ps y Hb H [(A, P)] (fun _ => [ls]) (fun _ => []) := by
  obtain ⟨d1, d2, d3, d4, d5, d6, d7, d8, d9, d10⟩ := dis
  obtain ⟨us, hp, _⟩ := hk.pst
  have nin : ∀ {x : Addr} {o : HO}, Hx x = some o → x ≠ a ∧ x ≠ K0 ∧ x ≠ L0 ∧ x ≠ P ∧ x ≠ r := fun {x o} hx => by
    refine ⟨?_, ?_, ?_, ?_, ?_⟩ <;> (intro e; rw [e, nx _ (by simp)] at hx; cases hx)
  have lx := nin hk.ltr
  have px := nin hp
  have cm : ∀ x, x ∈ cellsK (A, P) ↔ x = A.l ∨ x = A.p ∨ x = P := fun x => by simp [cellsK]
  have mm : ∀ x, x ∈ MK K0 L0 [(A, P)] ↔ x = K0 ∨ x = L0 ∨ x = A.l ∨ x = A.p ∨ x = P := fun x => by simp [MK, cellsK]
  have fm : ∀ x, x ∈ frn (MK K0 L0 [(A, P)]) (A, P) → x = K0 ∨ x = L0 := fun x hx => by
    obtain ⟨m1, m2⟩ := mem_frn.mp hx
    rw [mm] at m1
    rw [cm] at m2
    rcases m1 with e | e | e
    · exact .inl e
    · exact .inr e
    · exact absurd e m2
  have am : a ∉ MK K0 L0 [(A, P)] := fun h => by
    rw [mm] at h
    rcases h with e | e | e | e | e
    · exact d1 e
    · exact d2 e
    · exact lx.1 e.symm
    · exact px.1 e.symm
    · exact d3 e
  have af : a ∉ frn (MK K0 L0 [(A, P)]) (A, P) := fun e => am (mem_frn.mp e).1
  refine ⟨u, hK, hL, am, d5, fun s hs => ?_, fun i k t1 t2 hik h1 h2 => ?_, fun x o hx => ?_, fun s hs => ?_, fun i t ht => ?_⟩
  · rw [List.mem_singleton.mp hs]
    refine ⟨fun h => ?_, fun h => ?_⟩
    · rw [cm] at h
      rcases h with e | e | e
      · exact lx.2.1 e.symm
      · exact px.2.1 e.symm
      · exact d6 e
    · rw [cm] at h
      rcases h with e | e | e
      · exact lx.2.2.1 e.symm
      · exact px.2.2.1 e.symm
      · exact d7 e
  · rw [List.getElem?_singleton] at h1 h2
    split at h1
    · split at h2
      · omega
      · cases h2
    · cases h1
  · have hx1 := base x o hx
    have n := nin hx1
    refine hide_of (fun hm => ?_) (sx _ _ hx1)
    rcases List.mem_cons.mp hm with e | hm
    · exact n.1 e
    · rw [mm] at hm
      rcases hm with e | e | e | e | e
      · exact n.2.1 e
      · exact n.2.2.1 e
      · rw [e, nl] at hx; cases hx
      · rw [e, np] at hx; cases hx
      · exact n.2.2.2.1 e
  · rw [List.mem_singleton.mp hs]
    exact nk
  · obtain ⟨e0, rfl⟩ : i = 0 ∧ t = (A, P) := by
      rw [List.getElem?_singleton] at ht
      split at ht
      · rename_i e
        cases ht
        exact ⟨e, rfl⟩
      · cases ht
    refine ⟨?_, ⟨[], ls, rfl, hk.same fun x o hx => ?_⟩, ⟨[r], ?_, .cons ⟨d10, ?_, ?_, ?_⟩ .nil⟩, .one ls, fun t ht => ?_⟩
    · obtain ⟨x, y, z, e, r⟩ := u
      exact ⟨x, y, z, hide_of af e, r⟩
    · have n := nin hx
      exact rm_of n.2.2.2.1 (rm_of n.1 (hide_of (fun hm => (fm x hm).elim n.2.1 n.2.2.1) (sx _ _ hx)))
    · exact rm_of d3.symm (hide_of (fun hm => (fm _ hm).elim d6.symm d7.symm) hP)
    · exact rm_of d4.symm (hide_of (fun hm => (fm _ hm).elim d8 d9) hr)
    · exact fun e => lx.2.2.2.2 e.symm
    · exact fun e => px.2.2.2.2 e.symm
    · rw [List.mem_singleton.mp ht]
      exact ⟨hz, sm⟩
end
/-- a kept text of three letters, n changes behind the second text -/
def P190 (c : CA) (Ck : Addr) (A : KpA) (b : Int) (ps : List (Int × Int)) (y : Sty) (t0 t1 : List Int) (n : Nat) (H : Hp) : Prop :=
  ∃ (pre : List (List Int)) (ls : List Int) (past : List Pst), (pre ++ [ls]).length = n + 2 ∧ (pre ++ [ls])[0]? = some t0 ∧ (pre ++ [ls])[1]? = some t1 ∧ HistL (pre ++ [ls]) past ∧ KpAt c Ck H A b ps y ls past ∧ ∀ t ∈ pre ++ [ls], t.length = 3
section
variable {c : CA} {Ck : Addr} {A : KpA} {b : Int} {ps : List (Int × Int)} {y : Sty} {t0 t1 : List Int} {n : Nat} {H : Hp} {Q : VK} {E : XK}
theorem P190.set {m : Nat} {z : Int} (h : P190 c Ck A b ps y t0 t1 n H) (hm : m < 3) (hn : n < 900) (q : ∀ H', Off A H H' → P190 c Ck A b ps y t0 t1 (n + 1) H' → Q .non H') : spKnSet c Ck [.ref A.k, .int m, .int z] H Q E := by
  obtain ⟨pre, ls, past, h1, h2, h3, h4, h5, h6⟩ := h
  have hl := h6 ls (by simp)
  have hp := h4.len
  refine ⟨A, b, ps, y, ls, past, m, z, rfl, h5, by omega, by omega, by omega, fun H' o hk => ?_⟩
  refine q H' o ⟨pre ++ [ls], _, _, ?_, ?_, ?_, h4.put (i := m) (j := m + 1) (ms := [z]) (by omega) (by omega), hk, fun t ht => ?_⟩
  · rw [List.length_append, h1]; rfl
  · rw [List.getElem?_append_left (by omega)]; exact h2
  · rw [List.getElem?_append_left (by omega)]; exact h3
  · rcases List.mem_append.mp ht with ht | ht
    · exact h6 t ht
    · rw [List.mem_singleton.mp ht]
      simp only [List.length_append, List.length_take, List.length_drop, List.length_singleton]
      omega
theorem P190.undo (h : P190 c Ck A b ps y t0 t1 (n + 1) H) (q : ∀ H', Off A H H' → P190 c Ck A b ps y t0 t1 n H' → Q .non H') : spKnUndo c Ck [.ref A.k] H Q E := by
  obtain ⟨pre, ls, past, h1, h2, h3, h4, h5, h6⟩ := h
  obtain ⟨pre2, u0, t, past', qq, e5, e6, hh', f1, f2, f3⟩ := h4.back (by omega)
  obtain ⟨e7, e8⟩ := List.append_inj' e5 rfl
  cases e8
  subst e7
  subst e6
  have hu0 := h6 u0 (by simp)
  have hls := h6 ls (by simp)
  have hql : qq.ls.length ≤ u0.length := by
    rw [← f3]
    simp only [List.length_append]
    omega
  rw [List.length_append, List.length_singleton] at h1
  refine ⟨A, b, ps, y, ls, past', qq, rfl, h5, f1, f2, by omega, fun H' o hk => ?_⟩
  rw [f3] at hk
  rw [List.getElem?_append_left (by omega)] at h2 h3
  exact q H' o ⟨pre2, u0, past', by omega, h2, h3, hh', hk, fun t ht => h6 t (List.mem_append_left _ ht)⟩
theorem P190.at {H' : Hp} (h : P190 c Ck A b ps y t0 t1 n H) (s : Same H H') : P190 c Ck A b ps y t0 t1 n H' := by
  obtain ⟨pre, ls, past, h1, h2, h3, h4, h5, h6⟩ := h
  exact ⟨pre, ls, past, h1, h2, h3, h4, h5.same s, h6⟩
theorem P190.fin (h : P190 c Ck A b ps y t0 t1 0 H) : ∃ past, HistL [t0, t1] past ∧ KpAt c Ck H A b ps y t1 past := by
  obtain ⟨pre, ls, past, h1, h2, h3, h4, h5, h6⟩ := h
  rcases pre with _ | ⟨x, _ | ⟨z, r⟩⟩
  · simp at h1
  · cases h2
    cases h3
    exact ⟨past, h4, h5⟩
  · simp at h1
theorem P190.undo0 (h : P190 c Ck A b ps y t0 t1 0 H) (l0 : t0.length = 3) (l1 : t1.length = 3) (q : ∀ H', Off A H H' → KpAt c Ck H' A b ps y t0 [] → Q .non H') : spKnUndo c Ck [.ref A.k] H Q E := by
  obtain ⟨past, hh, hk⟩ := P190.fin h
  obtain ⟨pre2, u0, t, past', qq, e5, e6, hh', f1, f2, f3⟩ := hh.back (by simp)
  have e7 : [t0, t1] = [t0] ++ [t1] := rfl
  rw [e7] at e5
  obtain ⟨e8, e9⟩ := List.append_inj' e5 rfl
  cases e9
  have e10 : pre2 = [] ∧ u0 = t0 := by
    rcases pre2 with _ | ⟨x, r⟩
    · cases e8
      exact ⟨rfl, rfl⟩
    · have := congrArg List.length e8
      simp at this
  obtain ⟨rfl, rfl⟩ := e10
  have el := hh'.len
  have ep : past' = [] := by
    rcases past' with _ | ⟨x, r⟩
    · rfl
    · simp at el
  subst ep
  subst e6
  have hql : qq.ls.length ≤ u0.length := by
    rw [← f3]
    simp only [List.length_append]
    omega
  refine ⟨A, b, ps, y, t1, [], qq, rfl, hk, f1, f2, by omega, fun H' o hk => ?_⟩
  rw [f3] at hk
  exact q H' o hk
theorem P190.ins (h : P190 c Ck A b ps y t0 t1 n H) : ∃ fs, H A.k = some (.ins Ck A.dx fs) := by
  obtain ⟨_, _, _, _, _, _, _, h5, _⟩ := h
  obtain ⟨r, hi, _⟩ := h5.ins
  exact ⟨_, hi⟩
end

end Bc
set_option maxHeartbeats 4000000
open Bc
local macro_rules | `(tactic| walk_at "same0") => `(tactic| first
  | with_reducible exact L2.Same.refl _
  | with_reducible assumption
  | with_reducible exact rm_le
  | with_reducible exact L2.Same.trans rm_le rm_le
  | ((with_reducible refine L2.Same.trans ?_ (by with_reducible assumption)); walk_at "same0")
  | ((with_reducible refine L2.Same.trans ?_ (L2.Same.rm (by with_reducible assumption))); walk_at "same0")
  | ((with_reducible refine L2.Same.trans ?_ (Same.new (by with_reducible assumption))); walk_at "same0")
  | ((with_reducible apply same_rm); (first | with_reducible assumption | ((with_reducible refine L2.Same.trans ?_ (by with_reducible assumption)); walk_at "same0") | ((with_reducible refine L2.Same.trans ?_ (L2.Same.rm (by with_reducible assumption))); walk_at "same0")))
  | ((with_reducible refine L2.Same.rm ?_); walk_at "same0"))
local macro_rules | `(tactic| walk_at "same") => `(tactic| first
  | walk_at "same0"
  | ((with_reducible apply same_rm); walk_at "same0")
  | ((with_reducible apply same_rm); (with_reducible apply same_rm); walk_at "same0"))
local macro_rules | `(tactic| walk_at "hp0") => `(tactic| first
  | with_reducible assumption
  | ((with_reducible apply hpL); (with_reducible assumption); walk_at "same")
  | exact L2.upd_same
  | assumption
  | ((with_reducible apply hpL); assumption; walk_at "same"))
local macro_rules | `(tactic| walk_at "hp") => `(tactic| first
  | with_reducible assumption
  | (exact sq (by walk_at "hp0"))
  | (exact sqt (by walk_at "hp0"))
  | ((with_reducible apply hpL); (with_reducible assumption); walk_at "same")
  | ((with_reducible apply WayAt.same); (with_reducible assumption); walk_at "same")
  | ((with_reducible apply MkAt.same); (with_reducible assumption); walk_at "same")
  | ((with_reducible apply ModAt.same); (with_reducible assumption); walk_at "same")
  | ((with_reducible apply PrL.same); (with_reducible assumption); walk_at "same")
  | ((with_reducible apply KpAt.same); (with_reducible assumption); walk_at "same")
  | ((with_reducible apply TextAt.same); (with_reducible assumption); walk_at "same")
  | ((with_reducible apply Purse.same); (with_reducible assumption); walk_at "same")
  | assumption)
local macro_rules | `(tactic| walk_at "side") => `(tactic| first
  | with_reducible assumption
  | assumption
  | (exact rfl)
  | (refine mx_l ⟨?_, ?_⟩ <;> decide)
  | (refine mx_r ⟨?_, ?_⟩ <;> decide)
  | (refine mx_l ⟨?_, ?_⟩ <;> omega)
  | (refine mx_r ⟨?_, ?_⟩ <;> omega)
  | (refine wdiv60 ?_ ?_ <;> omega)
  | decide
  | omega)
local macro_rules | `(tactic| walk_at "go1") => `(tactic| first
  | ((with_reducible apply w_st); ((simp only [L2.start, List.map_cons, List.map_nil, List.length_cons, List.length_nil, List.cons_append, List.nil_append, List.append_nil, Nat.reduceAdd, Nat.reduceSub, List.reduceReplicate]); exact rfl))
  | with_reducible refine w_seq ?_
  | with_reducible refine w_atV ?_
  | ((with_reducible refine w_nxD ?_); (with_reducible refine w_nx ?_))
  | ((with_reducible refine w_rtD ?_); (with_reducible refine w_rt ?_))
  | ((with_reducible refine w_ctD ?_); (with_reducible refine w_ct ?_))
  | ((with_reducible refine w_bkD ?_); (with_reducible refine w_bk ?_))
  | ((with_reducible apply w_var); (exact rfl))
  | with_reducible refine w_c ?_
  | with_reducible refine w_op ?_
  | with_reducible refine w_cons ?_
  | with_reducible refine w_nil ?_
  | with_reducible refine w_cb ?_
  | ((with_reducible apply w_setN); ((intro _; simp only [List.set_cons_zero, List.set_cons_succ]); exact rfl))
  | with_reducible refine w_set ?_
  | with_reducible refine w_ret ?_
  | with_reducible refine w_if ?_
  | with_reducible refine w_test ?_
  | with_reducible refine w_tB ?_
  | with_reducible refine w_bl ?_
  | with_reducible refine w_I0 ?_
  | ((with_reducible refine w_I ?_ ?_); (first | walk_at "side" | rotate_left))
  | ((with_reducible apply w_ixL); (walk_at "hp"); (exact rfl))
  | ((with_reducible apply w_ixT); (walk_at "hp"); (exact rfl))
  | with_reducible refine w_call ?_
  | with_reducible refine w_next ?_
  | with_reducible refine w_drop ?_
  | with_reducible refine w_retN ?_
  | with_reducible refine w_un ?_
  | with_reducible refine w_U ?_
  | ((with_reducible refine w_eq ?_ ?_); (exact rfl))
  | ((with_reducible refine w_ne ?_ ?_); (exact rfl))
  | with_reducible refine w_and ?_
  | with_reducible refine w_or ?_
  | with_reducible refine w_not ?_
  | with_reducible refine w_andV ?_
  | with_reducible refine w_orV ?_
  | with_reducible refine w_notV ?_
  | with_reducible refine w_ifE ?_
  | with_reducible refine w_tup ?_
  | with_reducible refine w_lst ?_
  | ((with_reducible refine w_andsz ?_ ?_); (exact rfl))
  | with_reducible refine w_par ?_
  | with_reducible refine w_par2 ?_
  | ((with_reducible apply w_aug); (exact rfl))
  | with_reducible refine w_ipI ?_
  | with_reducible refine w_yes ?_
  | with_reducible refine w_chain ?_
  | with_reducible refine w_int1 ?_
  | with_reducible refine w_int1b ?_
  | with_reducible refine w_abs ?_
  | with_reducible refine w_max2 ?_
  | with_reducible refine w_min2 ?_
  | with_reducible refine w_for ?_
  | with_reducible refine w_rng1 ?_
  | with_reducible refine w_rng2 ?_
  | ((with_reducible refine w_rng1i ?_ ?_ ?_); omega; omega)
  | ((with_reducible refine w_rng2i ?_ ?_); omega)
  | with_reducible refine w_iList ?_
  | with_reducible refine w_iTup ?_
  | with_reducible refine w_iAt ?_
  | with_reducible refine w_asg ?_
  | with_reducible refine w_name ?_
  | with_reducible refine w_gsub ?_
  | with_reducible refine w_sl ?_
  | with_reducible refine w_noPart ?_
  | with_reducible refine w_part ?_
  | with_reducible refine w_isI ?_
  | with_reducible refine w_revL ?_
  | with_reducible refine w_isN ?_
  | with_reducible refine w_notN ?_
  | with_reducible refine w_bits ?_
  | with_reducible refine w_gcons ?_
  | with_reducible refine w_gnil ?_
  | with_reducible refine w_fld ?_
  | ((with_reducible apply w_wbase); assumption; (walk_at "hp"))
  | ((with_reducible apply w_wnum); assumption; (walk_at "hp"))
  | ((with_reducible apply w_wmark); assumption; (walk_at "hp"); intro _ _)
  | (((with_reducible apply w_wmod); assumption; (walk_at "hp")); intro _ _)
  | ((with_reducible apply w_mnum); assumption; (walk_at "hp"))
  | (((with_reducible apply w_mfac); assumption; (walk_at "hp")); intro _ _ _ _)
  | ((with_reducible apply w_klow); assumption; (walk_at "hp"))
  | ((with_reducible apply w_kshift); assumption; (walk_at "hp"))
  | ((with_reducible apply w_klead); assumption; (walk_at "hp"))
  | ((with_reducible apply w_setL); (walk_at "hp"); (exact rfl))
  | ((with_reducible apply w_len); (walk_at "hp"))
  | ((with_reducible apply w_lenT); (walk_at "hp"))
  | with_reducible refine while_n ?_
  | with_reducible refine while_nm ?_
  | with_reducible refine w_cO ?_
  | with_reducible refine w_m1 ?_
  | with_reducible refine w_isStr ?_
  | ((with_reducible apply w_tyL); (walk_at "hp"))
  | with_reducible refine w_makeK ?_
  | with_reducible refine w_callN ?_
  | ((with_reducible apply w_gtup); (walk_at "hp"); (exact rfl))
  | ((with_reducible apply w_unl); (walk_at "hp"); (exact rfl))
  | with_reducible refine w_sfld ?_
  | with_reducible refine w_make ?_
  | with_reducible refine w_meth ?_
  | with_reducible refine w_iEnum ?_
  | with_reducible refine w_lc ?_
  | with_reducible refine w_iStr ?_
  | with_reducible refine w_isS ?_
  | with_reducible refine w_leS ?_
  | with_reducible refine w_ord ?_
  | ((with_reducible apply w_iL); (walk_at "hp"))
  | ((with_reducible apply w_iT); (walk_at "hp"))
  | with_reducible refine w_bm ?_
  | with_reducible refine w_callX ?_
  | with_reducible refine w_mkO ?_
  | with_reducible refine w_xf ?_
  | with_reducible refine w_lstRg ?_
  | with_reducible refine w_rg1 ?_
  | with_reducible refine w_rg2 ?_
  | with_reducible refine w_rg2i ?_
  | ((with_reducible refine w_rgok ?_ ?_); omega)
  | with_reducible refine w_dnew ?_
  | with_reducible refine w_isB ?_
  | with_reducible refine w_strB ?_
  | with_reducible refine w_iRng3 ?_
  | with_reducible refine w_lstB ?_
  | with_reducible refine w_iZip ?_
  | ((with_reducible apply w_zipi); (walk_at "hp"); (walk_at "hp"))
  | with_reducible refine w_methK ?_
  | with_reducible refine w_cOK ?_
  | with_reducible refine w_makeX ?_
  | with_reducible refine w_makeKS ?_
  | with_reducible refine w_methX ?_
  | with_reducible refine w_mkV ?_
  | with_reducible refine w_rev0 ?_
  | with_reducible refine w_xk ?_
  | with_reducible refine w_lenSet ?_
  | with_reducible refine w_cOX ?_
  | with_reducible refine w_augS ?_
  | with_reducible refine w_lenSet1 ?_
  | with_reducible refine w_bm0 ?_
  | ((with_reducible apply w_kpl); assumption; (walk_at "hp"))
  | ((with_reducible apply w_kpw); assumption; (walk_at "hp"))
  | ((with_reducible apply w_kpp); assumption; (walk_at "hp"))
  | with_reducible refine w_gslc ?_
  | with_reducible refine w_prop ?_)
local macro_rules | `(tactic| walk_at "go") => `(tactic| repeat (walk_at "go1"))
local macro_rules | `(tactic| walk_at "goI") => `(tactic| repeat ((fail_if_success (with_reducible refine w_if ?_)); walk_at "go1"))
namespace Lw
open PySem PySem.Spec PyProof.Rows L2 Bc C8
def top (i : Nat) : Stmt := PySem.Challenge.pw_baseclash_k87_kept_texts.main.body.getD i (.Pass ⟨0, 0, 0, 0⟩)
section
variable {P : Program} {w : World} {K : PySem.W.Frag} {mg : Str → Option Value} {base : Heap}

abbrev s_isint : Stmt := (top 13)
theorem sc_isint : FnScope ["thing"] ["thing"] (defScope s_isint) :=
  ⟨rfl, rfl, rfl, by decide +kernel, rfl, by decide +kernel, by decide +kernel⟩
theorem ok_isint (F : Dn K mg "is_integer" s_isint ["thing"]) (T : Bt mg) : Cal P w K mg base 1 "is_integer" (spIsInt K) [] := by
  refine F.cal sc_isint (fun vs H Q E h => ?_) (fun f cdv A outer s H vs Q E hr h => ?_)
  · obtain ⟨v, t, b1, b2, rfl, _⟩ := h
    rfl
  · obtain ⟨v, t, b1, b2, rfl, ty, k1, k2, q⟩ := h
    refine ⟨_, (pss_one (ps_ret (pe_and (pe_callB call_isi (by rfl) T.isinstance (by decide +kernel) (pa_cons (pv 0) (pa_cons (pe_bltn (v := .ty "int") (by rfl) T.int (by decide +kernel) rfl) pa_nil))) (pe_one (pe_not (pe_callB call_isi (by rfl) T.isinstance (by decide +kernel) (pa_cons (pv 0) (pa_cons (pe_bltn (v := .ty "bool") (by rfl) T.bool (by decide +kernel) rfl) pa_nil)))))))), ?_⟩
    walk_at "go"
    refine w_isi ty k1 ?_
    walk_at "go"
    cases b1 with
    | false => exact iteF q
    | true =>
      refine iteT ?_
      walk_at "go"
      refine w_isi ty k2 ?_
      walk_at "go"
      exact q
abbrev s_raised : Stmt := (top 14)
theorem sc_raised : FnScope ["factor", "power", "found", "turn"] ["factor", "power"] (defScope s_raised) :=
  ⟨rfl, rfl, rfl, by decide +kernel, rfl, by decide +kernel, by decide +kernel⟩
theorem ok_raised (F : Dn K mg "raised" s_raised ["factor", "power"]) (T : Bt mg) : Cal P w K mg base 1 "raised" spRaised [] := by
  refine F.cal sc_raised (fun vs H Q E h => ?_) (fun f cdv A outer s H vs Q E hr h => ?_)
  · obtain ⟨g, p, b, rfl, _⟩ := h
    rfl
  · obtain ⟨g, p, b, rfl, p0, p1, gb, hb, q⟩ := h
    refine ⟨_, (pss_cons (ps_set (i := 2) sc_raised.nd rfl (Or.inl rfl) pe_int)
      (pss_cons (ps_for PassesOwn.never rfl (pi_range1 (by rfl) T.range (pa_cons (pv 1) pa_nil)) (pg_name (i := 3) sc_raised.nd rfl (Or.inl rfl)) (pss_one (ps_set (i := 2) sc_raised.nd rfl (Or.inl rfl) (pe_op oMul (pv 2) (pv 0)))))
      (pss_one (ps_ret (pv 2))))), ?_⟩
    walk_at "go"
    refine for_range (lo := 0) (n := p.toNat) (fun i σ H' => ∃ (u : Option V), σ = [some (.int g), some (.int p), some (.int (g ^ i)), u] ∧ H' = H)
      ⟨none, by rw [Int.pow_zero], rfl⟩ ?_ ?_
    · rintro i σ H' hi ⟨u, rfl, rfl⟩
      walk_at "go"
      · exact ⟨_, by rw [Int.pow_succ], rfl⟩
      · refine mx_w (natAbs_pow_lt gb i) gb ?_
        have h1 : b * i ≤ b * p.toNat := Nat.mul_le_mul_left b (by omega)
        omega
    · rintro σ H' ⟨u, rfl, rfl⟩
      walk_at "go"
      exact q
abbrev s_prime : Stmt := (top 16)
theorem sc_prime : FnScope ["number", "divisor"] ["number"] (defScope s_prime) :=
  ⟨rfl, rfl, rfl, by decide +kernel, rfl, by decide +kernel, by decide +kernel⟩
theorem ok_prime (F : Dn K mg "is_prime_number" s_prime ["number"]) (T : Bt mg) : Cal P w K mg base 1 "is_prime_number" spPrime [] := by
  refine F.cal sc_prime (fun vs H Q E h => ?_) (fun f cdv A outer s H vs Q E hr h => ?_)
  · obtain ⟨n, rfl, _⟩ := h
    rfl
  · obtain ⟨n, rfl, n1, q⟩ := h
    refine ⟨_, (pss_cons (ps_set (i := 1) sc_prime.nd rfl (Or.inl rfl) pe_int)
      (pss_cons (ps_while PassesOwn.never (pt_cmpR op_le (pe_op oMul (pv 1) (pv 1)) (pv 0) (nomark _)) (pss_cons (ps_if (pt_cmpR op_eq (pe_op op_mod (pv 0) (pv 1)) pe_int (nomark _)) (pss_one (ps_ret pe_bl)) pss_nil)
      (pss_one (ps_aug (i := 1) sc_prime.nd rfl (Or.inl rfl) pe_int ip_add))))
      (pss_one (ps_ret (pe_cmpR op_gt (pv 0) pe_int (nomark _)))))), ?_⟩
    walk_at "go"
    refine while_go (fun σ H' => ∃ d : Int, σ = [some (.int n), some (.int d)] ∧ 2 ≤ d ∧ d ≤ 2 ^ 31 ∧ (∀ e : Int, 2 ≤ e → e < d → n % e ≠ 0) ∧ H' = H) (fun σ _ => match σ with | [_, some (.int d)] => (2 ^ 31 - d).toNat | _ => 0)
      ⟨2, rfl, by decide, by decide, fun e h1 h2 => by omega, rfl⟩ ?_
    rintro σ H' ⟨d, rfl, d2, d3, hd, rfl⟩
    walk_at "go"
    refine ite_d (fun h => ?_) (fun h => ?_)
    · have hd30 : d < 2 ^ 31 - 1 := by
        refine Int.not_le.mp fun z => ?_
        have h4 : (2 ^ 31 - 1) * (2 ^ 31 - 1) ≤ d * d := Int.mul_le_mul z z (by decide) (by omega)
        omega
      walk_at "go"
      refine ite_d (fun h2 => ?_) (fun h2 => ?_)
      · walk_at "go"
        have e0 : n % d = 0 := by injection h2
        exact q false ⟨(fun z => by cases z), fun z => absurd e0 (z.2 d d2 h)⟩
      · walk_at "go"
        have e0 : n % d ≠ 0 := fun z => h2 (by rw [z])
        refine ⟨?_, d + 1, rfl, by omega, by omega, fun e h3 h4 => ?_, rfl⟩
        · show (2 ^ 31 - (d + 1)).toNat < (2 ^ 31 - d).toNat
          omega
        · by_cases h5 : e = d
          · rw [h5]; exact e0
          · exact hd e h3 (by omega)
    · walk_at "go"
      refine q _ ?_
      rw [decide_eq_true_iff]
      refine ⟨fun z => ⟨z, fun e h1 h2 => ?_⟩, fun z => z.1⟩
      by_cases h5 : e < d
      · exact hd e h1 h5
      · exfalso
        have h4 : d * d ≤ e * e := Int.mul_le_mul (by omega) (by omega) (by omega) (by omega)
        omega

abbrev s_istext : Stmt := (top 18)
theorem sc_istext : FnScope ["thing", "sign", "letter"] ["thing"] (defScope s_istext) :=
  ⟨rfl, rfl, rfl, by decide +kernel, rfl, by decide +kernel, by decide +kernel⟩
theorem ok_istext (F : Dn K mg "is_text" s_istext ["thing"]) (T : Bt mg) (c_isint : Cal P w K mg base 1 "is_integer" (spIsInt K) []) : Cal P w K mg base 2 "is_text" spIsText [] := by
  refine F.cal sc_istext (fun vs H Q E h => ?_) (fun f cdv A outer s H vs Q E hr h => ?_)
  · obtain ⟨v, ls, rfl, _⟩ := h
    rfl
  · obtain ⟨v, ls, rfl, tx, k⟩ := h
    cases tx with
    | str z hz hl =>
      refine ⟨_, (pss_cons (ps_if (pt_val (pe_callB call_isi (by rfl) T.isinstance (by decide +kernel) (pa_cons (pv 0) (pa_cons (pe_bltn (v := .ty "str") (by rfl) T.str (by decide +kernel) rfl) pa_nil)))) (pss_one (ps_ret (pe_callB (cr_all rfl) (by rfl) T.all (by decide +kernel) (pa_cons (pe_lc (own := [("sign", 1)]) (g := gName 1) (tt := tYes) (te := (tChain _ _ _ (tVar 1) _)) rfl sc_istext.nd (pi_str (pv 0)) (blkOk_by (own := [("sign", 1)]) (N := ["thing", "sign", "letter"]) (sc := defScope s_istext) (by decide +kernel)) (fun _ _ _ _ _ => (pg_name (i := 1) sc_istext.nd rfl (Or.inl rfl))) (fun _ _ _ _ _ => pts_nil) (fun _ _ _ _ _ => (pe_chain oLeS oLeS pe_str (pv 1) pe_str))) pa_nil)))) pss_nil)
      (pss_one (ps_ret (pe_and (pe_callB call_isiT (by rfl) T.isinstance (by decide +kernel) (pa_cons (pv 0) (pa_cons (pe_tup (pa_cons (pe_bltn (v := .ty "list") (by rfl) T.list (by decide +kernel) rfl) (pa_cons (pe_bltn (v := .ty "tuple") (by rfl) T.tuple (by decide +kernel) rfl) pa_nil))) pa_nil))) (pe_one (pe_callB (cr_all rfl) (by rfl) T.all (by decide +kernel) (pa_cons (pe_lc (own := [("letter", 2)]) (g := gName 2) (tt := tYes) (te := (tCall _ _ _ (tCons (tVar 2) tNil))) rfl sc_istext.nd (pi_list (pv 0)) (blkOk_by (own := [("letter", 2)]) (N := ["thing", "sign", "letter"]) (sc := defScope s_istext) (by decide +kernel)) (fun _ _ _ _ _ => (pg_name (i := 2) sc_istext.nd rfl (Or.inl rfl))) (fun _ _ _ _ _ => pts_nil) (fun _ _ _ _ _ => (pe_c c_isint hr (by decide) (by rfl) (pa_cons (pv 2) pa_nil)))) pa_nil))))))), ?_⟩
      walk_at "go"
      refine w_isi (b := true) (.base (.str z)) (kit_ty (by decide +kernel)) ?_
      walk_at "go"
      refine iteT ?_
      walk_at "go"
      intro D hD
      refine lc_pure (z.cps.toList.map fun c => V.str ⟨#[c]⟩) ((z.cps.toList.map fun _ => true).map V.bl) walk_strY hD (fun _ _ => trivial) (by simp) (by simp; exact hl) (fun _ => rfl) ?_ ?_
      · intro i x y H' hx hy sm Q' q'
        obtain ⟨c, hc, rfl⟩ := get_map hx
        obtain ⟨b, hb, rfl⟩ := get_map hy
        obtain ⟨d, hd, rfl⟩ := get_map hb
        have hr := hz c (List.mem_of_getElem? hc)
        walk_at "go"
        rw [sign_lo hr.1]
        refine iteT ?_
        walk_at "go"
        rw [sign_hi hr.2]
        exact q' _ (Same.refl _)
      · intro H' sm hH
        walk_at "go"
        refine w_all (sq hH) ?_
        rw [all_true]
        exact k _ sm
    | lst a _ h l =>
      refine ⟨_, (pss_cons (ps_if (pt_val (pe_callB call_isi (by rfl) T.isinstance (by decide +kernel) (pa_cons (pv 0) (pa_cons (pe_bltn (v := .ty "str") (by rfl) T.str (by decide +kernel) rfl) pa_nil)))) (pss_one (ps_ret (pe_callB (cr_all rfl) (by rfl) T.all (by decide +kernel) (pa_cons (pe_lc (own := [("sign", 1)]) (g := gName 1) (tt := tYes) (te := (tChain _ _ _ (tVar 1) _)) rfl sc_istext.nd (pi_str (pv 0)) (blkOk_by (own := [("sign", 1)]) (N := ["thing", "sign", "letter"]) (sc := defScope s_istext) (by decide +kernel)) (fun _ _ _ _ _ => (pg_name (i := 1) sc_istext.nd rfl (Or.inl rfl))) (fun _ _ _ _ _ => pts_nil) (fun _ _ _ _ _ => (pe_chain oLeS oLeS pe_str (pv 1) pe_str))) pa_nil)))) pss_nil)
      (pss_one (ps_ret (pe_and (pe_callB call_isiT (by rfl) T.isinstance (by decide +kernel) (pa_cons (pv 0) (pa_cons (pe_tup (pa_cons (pe_bltn (v := .ty "list") (by rfl) T.list (by decide +kernel) rfl) (pa_cons (pe_bltn (v := .ty "tuple") (by rfl) T.tuple (by decide +kernel) rfl) pa_nil))) pa_nil))) (pe_one (pe_callB (cr_all rfl) (by rfl) T.all (by decide +kernel) (pa_cons (pe_lc (own := [("letter", 2)]) (g := gName 2) (tt := tYes) (te := (tCall _ _ _ (tCons (tVar 2) tNil))) rfl sc_istext.nd (pi_list (pv 0)) (blkOk_by (own := [("letter", 2)]) (N := ["thing", "sign", "letter"]) (sc := defScope s_istext) (by decide +kernel)) (fun _ _ _ _ _ => (pg_name (i := 2) sc_istext.nd rfl (Or.inl rfl))) (fun _ _ _ _ _ => pts_nil) (fun _ _ _ _ _ => (pe_c c_isint hr (by decide) (by rfl) (pa_cons (pv 2) pa_nil)))) pa_nil))))))), ?_⟩
      walk_at "go"
      refine w_isi (b := false) (.base (.lst h)) (kit_ty (by decide +kernel)) ?_
      walk_at "go"
      refine iteF ?_
      walk_at "go"
      intro p hp
      walk_at "go"
      have h1 := upd_new (o := .tup [.ty "list", .ty "tuple"]) hp h
      refine w_isi2 (b := true) upd_same (.base (.lst h1)) (kitA (by decide +kernel)) ?_
      walk_at "go"
      refine iteT ?_
      walk_at "go"
      intro D hD
      refine lc_pure (ls.map V.int) ((ls.map fun _ => true).map V.bl) walk_list hD (fun _ sm => sq (sm _ _ h1)) (by simp) (by simp; exact l) (fun _ => rfl) ?_ ?_
      · intro i x y H' hx hy sm Q' q'
        obtain ⟨c, hc, rfl⟩ := get_map hx
        obtain ⟨b, hb, rfl⟩ := get_map hy
        obtain ⟨d, hd, rfl⟩ := get_map hb
        walk_at "go"
        refine use_isInt ?_
        exact q' _ (Same.refl _)
      · intro H' sm hH
        walk_at "go"
        refine w_all (sq hH) ?_
        rw [all_true]
        exact k _ ((Same.new hp).trans sm)
    | tup a _ h l =>
      refine ⟨_, (pss_cons (ps_if (pt_val (pe_callB call_isi (by rfl) T.isinstance (by decide +kernel) (pa_cons (pv 0) (pa_cons (pe_bltn (v := .ty "str") (by rfl) T.str (by decide +kernel) rfl) pa_nil)))) (pss_one (ps_ret (pe_callB (cr_all rfl) (by rfl) T.all (by decide +kernel) (pa_cons (pe_lc (own := [("sign", 1)]) (g := gName 1) (tt := tYes) (te := (tChain _ _ _ (tVar 1) _)) rfl sc_istext.nd (pi_str (pv 0)) (blkOk_by (own := [("sign", 1)]) (N := ["thing", "sign", "letter"]) (sc := defScope s_istext) (by decide +kernel)) (fun _ _ _ _ _ => (pg_name (i := 1) sc_istext.nd rfl (Or.inl rfl))) (fun _ _ _ _ _ => pts_nil) (fun _ _ _ _ _ => (pe_chain oLeS oLeS pe_str (pv 1) pe_str))) pa_nil)))) pss_nil)
      (pss_one (ps_ret (pe_and (pe_callB call_isiT (by rfl) T.isinstance (by decide +kernel) (pa_cons (pv 0) (pa_cons (pe_tup (pa_cons (pe_bltn (v := .ty "list") (by rfl) T.list (by decide +kernel) rfl) (pa_cons (pe_bltn (v := .ty "tuple") (by rfl) T.tuple (by decide +kernel) rfl) pa_nil))) pa_nil))) (pe_one (pe_callB (cr_all rfl) (by rfl) T.all (by decide +kernel) (pa_cons (pe_lc (own := [("letter", 2)]) (g := gName 2) (tt := tYes) (te := (tCall _ _ _ (tCons (tVar 2) tNil))) rfl sc_istext.nd (pi_tup (pv 0)) (blkOk_by (own := [("letter", 2)]) (N := ["thing", "sign", "letter"]) (sc := defScope s_istext) (by decide +kernel)) (fun _ _ _ _ _ => (pg_name (i := 2) sc_istext.nd rfl (Or.inl rfl))) (fun _ _ _ _ _ => pts_nil) (fun _ _ _ _ _ => (pe_c c_isint hr (by decide) (by rfl) (pa_cons (pv 2) pa_nil)))) pa_nil))))))), ?_⟩
      walk_at "go"
      refine w_isi (b := false) (.base (.tup h)) (kit_ty (by decide +kernel)) ?_
      walk_at "go"
      refine iteF ?_
      walk_at "go"
      intro p hp
      walk_at "go"
      have h1 := upd_new (o := .tup [.ty "list", .ty "tuple"]) hp h
      refine w_isi2 (b := true) upd_same (.base (.tup h1)) (kitA (by decide +kernel)) ?_
      walk_at "go"
      refine iteT ?_
      walk_at "go"
      intro D hD
      refine lc_pure (ls.map V.int) ((ls.map fun _ => true).map V.bl) walk_tup hD (fun _ sm => sqt (sm _ _ h1)) (by simp) (by simp; exact l) (fun _ => rfl) ?_ ?_
      · intro i x y H' hx hy sm Q' q'
        obtain ⟨c, hc, rfl⟩ := get_map hx
        obtain ⟨b, hb, rfl⟩ := get_map hy
        obtain ⟨d, hd, rfl⟩ := get_map hb
        walk_at "go"
        refine use_isInt ?_
        exact q' _ (Same.refl _)
      · intro H' sm hH
        walk_at "go"
        refine w_all (sq hH) ?_
        rw [all_true]
        exact k _ ((Same.new hp).trans sm)
abbrev s_read : Stmt := (top 19)
theorem sc_read : FnScope ["text", "sign"] ["text"] (defScope s_read) :=
  ⟨rfl, rfl, rfl, by decide +kernel, rfl, by decide +kernel, by decide +kernel⟩
theorem ok_read (F : Dn K mg "read" s_read ["text"]) (T : Bt mg) : Cal P w K mg base 1 "read" spRead [] := by
  refine F.cal sc_read (fun vs H Q E h => ?_) (fun f cdv A outer s H vs Q E hr h => ?_)
  · obtain ⟨v, ls, rfl, _⟩ := h
    rfl
  · obtain ⟨v, ls, rfl, tx, k⟩ := h
    refine ⟨_, (pss_cons (ps_if (pt_val (pe_callB call_isi (by rfl) T.isinstance (by decide +kernel) (pa_cons (pv 0) (pa_cons (pe_bltn (v := .ty "str") (by rfl) T.str (by decide +kernel) rfl) pa_nil)))) (pss_one (ps_ret (pe_callTy cTupOf (by rfl) T.tuple (by decide +kernel) (pa_cons (pe_lc (own := [("sign", 1)]) (g := gName 1) (tt := tYes) (te := (tCB _ (tCons (tVar 1) tNil))) rfl sc_read.nd (pi_str (pv 0)) (blkOk_by (own := [("sign", 1)]) (N := ["text", "sign"]) (sc := defScope s_read) (by decide +kernel)) (fun _ _ _ _ _ => (pg_name (i := 1) sc_read.nd rfl (Or.inl rfl))) (fun _ _ _ _ _ => pts_nil) (fun _ _ _ _ _ => (pe_callB cOrd (by rfl) T.ord (by decide +kernel) (pa_cons (pv 1) pa_nil)))) pa_nil)))) pss_nil)
      (pss_one (ps_ret (pe_callTy cTupOf (by rfl) T.tuple (by decide +kernel) (pa_cons (pv 0) pa_nil))))), ?_⟩
    cases tx with
    | str z hz hl =>
      walk_at "go"
      refine w_isi (b := true) (.base (.str z)) (kit_ty (by decide +kernel)) ?_
      walk_at "go"
      refine iteT ?_
      walk_at "go"
      intro D hD
      refine lc_pure (z.cps.toList.map fun c => V.str ⟨#[c]⟩) ((z.cps.toList.map Int.ofNat).map V.int) walk_strY hD (fun _ _ => trivial) (by simp) (by simp; exact hl) (fun _ => rfl) ?_ ?_
      · intro i x y H' hx hy sm Q' q'
        obtain ⟨c, hc, rfl⟩ := get_map hx
        obtain ⟨b, hb, rfl⟩ := get_map hy
        obtain ⟨d, hd, rfl⟩ := get_map hb
        rw [hc] at hd
        cases hd
        walk_at "go"
        exact q' _ (Same.refl _)
      · intro H' sm hH
        walk_at "go"
        refine w_tupL (sq hH) fun t ht => ?_
        walk_at "go"
        exact k _ _ (sm.trans (Same.new ht)) upd_same
    | lst a _ h l =>
      walk_at "go"
      refine w_isi (b := false) (.base (.lst h)) (kit_ty (by decide +kernel)) ?_
      walk_at "go"
      refine iteF ?_
      walk_at "go"
      refine w_tupL (sq h) fun t ht => ?_
      walk_at "go"
      exact k _ _ (Same.new ht) upd_same
    | tup a _ h l =>
      walk_at "go"
      refine w_isi (b := false) (.base (.tup h)) (kit_ty (by decide +kernel)) ?_
      walk_at "go"
      refine iteF ?_
      walk_at "go"
      refine w_tupT (sqt h) ?_
      walk_at "go"
      exact k _ _ (Same.refl _) h
abbrev s_reqtext : Stmt := (top 20)
theorem sc_reqtext : FnScope ["thing"] ["thing"] (defScope s_reqtext) :=
  ⟨rfl, rfl, rfl, by decide +kernel, rfl, by decide +kernel, by decide +kernel⟩
theorem ok_reqtext (F : Dn K mg "require_text" s_reqtext ["thing"]) (T : Bt mg) (c_istext : Cal P w K mg base 2 "is_text" spIsText []) (c_read : Cal P w K mg base 1 "read" spRead []) : Cal P w K mg base 3 "require_text" spRead [] := by
  refine F.cal sc_reqtext (fun vs H Q E h => ?_) (fun f cdv A outer s H vs Q E hr h => ?_)
  · obtain ⟨v, ls, rfl, _⟩ := h
    rfl
  · obtain ⟨v, ls, rfl, tx, k⟩ := h
    refine ⟨_, (pss_cons (ps_if (pt_not (pt_val (pe_c c_istext hr (by decide) (by rfl) (pa_cons (pv 0) pa_nil)))) (pss_one ps_never) pss_nil)
      (pss_one (ps_ret (pe_c c_read hr (by decide) (by rfl) (pa_cons (pv 0) pa_nil))))), ?_⟩
    walk_at "go"
    refine ⟨v, ls, rfl, tx, fun H1 s1 => ?_⟩
    walk_at "go"
    refine iteF ?_
    walk_at "go"
    refine ⟨v, ls, rfl, tx.same s1, fun H2 t s2 ht => ?_⟩
    walk_at "go"
    exact k _ _ (s1.trans s2) ht

abbrev s_isfac : Stmt := (top 25)
theorem sc_isfac : FnScope ["thing", "least", "prime", "power"] ["thing", "least"] (defScope s_isfac) :=
  ⟨rfl, rfl, rfl, by decide +kernel, rfl, by decide +kernel, by decide +kernel⟩
theorem ok_isfac (F : Dn K mg "is_factor" s_isfac ["thing", "least"]) (T : Bt mg) (c_isint : Cal P w K mg base 1 "is_integer" (spIsInt K) []) (c_prime : Cal P w K mg base 1 "is_prime_number" spPrime []) : Cal P w K mg base 2 "is_factor" spIsFactor [] := by
  refine F.cal sc_isfac (fun vs H Q E h => ?_) (fun f cdv A outer s H vs Q E hr h => ?_)
  · obtain ⟨t, l, p, k, rfl, _⟩ := h
    rfl
  · obtain ⟨t, l, p, k, rfl, ht, hp, q⟩ := h
    refine ⟨_, (pss_cons (ps_if (PW.pt (pw_or (pt_not (pt_val (pe_callB call_isi (by rfl) T.isinstance (by decide +kernel) (pa_cons (pv 0) (pa_cons (pe_bltn (v := .ty "tuple") (by rfl) T.tuple (by decide +kernel) rfl) pa_nil))))) (pw_or1 (pt_cmpR op_ne (pe_callB cLen (by rfl) T.len (by decide +kernel) (pa_cons (pv 0) pa_nil)) pe_int (nomark _))))) (pss_one (ps_ret pe_bl)) pss_nil)
      (pss_cons (ps_asg (pv 0) (pg_tup rfl (pgs_cons (pg_name (i := 2) sc_isfac.nd rfl (Or.inl rfl)) (pgs_cons (pg_name (i := 3) sc_isfac.nd rfl (Or.inl rfl)) pgs_nil))))
      (pss_cons (ps_if (PW.pt (pw_or (pt_not (pt_val (pe_c c_isint hr (by decide) (by rfl) (pa_cons (pv 2) pa_nil)))) (pw_or1 (pt_not (pt_val (pe_c c_isint hr (by decide) (by rfl) (pa_cons (pv 3) pa_nil))))))) (pss_one (ps_ret pe_bl)) pss_nil)
      (pss_one (ps_ret (pe_and (pe_cmpR op_gt (pv 2) (pv 1) (nomark _)) (pe_and (pe_cmpR op_gt (pv 3) pe_int (nomark _)) (pe_one (pe_c c_prime hr (by decide) (by rfl) (pa_cons (pv 2) pa_nil)))))))))), ?_⟩
    walk_at "go"
    refine w_isi (b := true) (.base (.tup ht)) (kit_ty (by decide +kernel)) ?_
    walk_at "go"
    refine iteF ?_
    walk_at "go"
    refine iteNS rfl ?_
    walk_at "go"
    refine use_isInt ?_
    walk_at "go"
    refine iteF ?_
    walk_at "go"
    refine use_isInt ?_
    walk_at "go"
    refine iteF ?_
    walk_at "go"
    refine ite_d (fun h1 => ?_) (fun h1 => ?_)
    · walk_at "go"
      refine ite_d (fun h2 => ?_) (fun h2 => ?_)
      · walk_at "go"
        refine ⟨p, rfl, hp, fun b hb => ?_⟩
        walk_at "go"
        exact q b (hb.trans ⟨fun z => ⟨h1, h2, z⟩, fun z => z.2.2⟩)
      · walk_at "go"
        exact q false ⟨(fun z => by cases z), fun z => absurd z.2.1 h2⟩
    · walk_at "go"
      exact q false ⟨(fun z => by cases z), fun z => absurd z.1 h1⟩
abbrev s_modinit : Stmt := (inClass (top 26) 0)
theorem sc_modinit : FnScope ["self", "factors", "number", "least", "place", "factor"] ["self", "factors"] (defScope s_modinit) :=
  ⟨rfl, rfl, rfl, by decide +kernel, rfl, by decide +kernel, by decide +kernel⟩
theorem ok_modinit {c : CA} {f : Addr} {fd : FuncData} (F : FunD K "__init__" "Modulus.__init__" (defArgs s_modinit) (defBody s_modinit) (defScope s_modinit) [] [] f fd) (T : Bt mg) (X : Kx K mg c) (c_isfac : Cal P w K mg base 2 "is_factor" spIsFactor []) (c_raised : Cal P w K mg base 1 "raised" spRaised []) :
    FnOk P w K mg base L2.CX0 3 f fd ["self", "factors"] (spModInit c) := by
  refine fnD_ok F sc_modinit (fun vs H Q E h => ?_) (fun cdv A outer s H vs Q E hr h => ?_)
  · obtain ⟨x, dx, l, ts, ps, rfl, _⟩ := h
    rfl
  · obtain ⟨x, dx, l, ts, ps, rfl, hx, hl, hp, ha, hs, k⟩ := h
    refine ⟨_, (pss_cons (ps_if (pt_not (pt_val (pe_callB call_isiT (by rfl) T.isinstance (by decide +kernel) (pa_cons (pv 1) (pa_cons (pe_tup (pa_cons (pe_bltn (v := .ty "list") (by rfl) T.list (by decide +kernel) rfl) (pa_cons (pe_bltn (v := .ty "tuple") (by rfl) T.tuple (by decide +kernel) rfl) pa_nil))) pa_nil))))) (pss_one ps_never) pss_nil)
      (pss_cons (ps_set (i := 2) sc_modinit.nd rfl (Or.inl rfl) pe_int)
      (pss_cons (ps_set (i := 3) sc_modinit.nd rfl (Or.inl rfl) pe_int)
      (pss_cons (ps_for PassesOwn.never rfl (pi_enum (by rfl) T.enumerate (pa_cons (pv 1) pa_nil)) (pg_tup rfl (pgs_cons (pg_name (i := 4) sc_modinit.nd rfl (Or.inl rfl)) (pgs_cons (pg_name (i := 5) sc_modinit.nd rfl (Or.inl rfl)) pgs_nil))) (pss_cons (ps_if (pt_not (pt_val (pe_c c_isfac hr (by decide) (by rfl) (pa_cons (pv 5) (pa_cons (pv 3) pa_nil))))) (pss_one ps_never) pss_nil)
      (pss_cons (ps_set (i := 3) sc_modinit.nd rfl (Or.inl rfl) (pe_ix ix_tup (pv 5) pe_int (fun _ _ => rfl)))
      (pss_one (ps_set (i := 2) sc_modinit.nd rfl (Or.inl rfl) (pe_op oMul (pv 2) (pe_c c_raised hr (by decide) (by rfl) (pa_cons (pe_ix ix_tup (pv 5) pe_int (fun _ _ => rfl)) (pa_cons (pe_ix ix_tup (pv 5) pe_int (fun _ _ => rfl)) pa_nil)))))))))
      (pss_cons (ps_fld (pv 0) (pv 2) rfl)
      (pss_one (ps_fld (pv 0) (pe_callTy cTupOf (by rfl) T.tuple (by decide +kernel) (pa_cons (pv 1) pa_nil)) rfl))))))), ?_⟩
    walk_at "go"
    intro p np
    walk_at "go"
    have hl1 := upd_new (o := .tup [.ty "list", .ty "tuple"]) np hl
    have hx1 := upd_new (o := .tup [.ty "list", .ty "tuple"]) np hx
    refine w_isi2 (b := true) upd_same (.base (.lst hl1)) (kitA (by decide +kernel)) ?_
    walk_at "go"
    refine iteF ?_
    walk_at "go"
    refine w_enumi (sq hl1) ?_
    refine for_it (walk_enum (xs := ts.map V.ref)) (fun i σ H' => ∃ (u1 u2 : Option V), σ = [some (.ref x), some (.ref l), some (.int (num (ps.take i))), some (.int (((ps.take i).getLast?.map (·.1)).getD 0)), u1, u2] ∧ Same (upd H p (.tup [.ty "list", .ty "tuple"])) H')
      ⟨none, none, rfl, Same.refl _⟩ (fun i σ H' _ z => by obtain ⟨_, _, _, z⟩ := z; exact sq (z _ _ hl1)) ?_ ?_
    · rintro i y σ H1 H2 hi ⟨u1, u2, rfl, sm⟩ ⟨t, z1, z2, rfl, nt, rfl, e1, e2⟩
      cases e1
      obtain ⟨tt, htt, rfl⟩ := get_map e2
      obtain ⟨pr, hpr, ht⟩ := paired_get hp htt
      have s2 : Same H (upd H1 t (.tup [.int (i : Nat), .ref tt])) := (Same.new np).trans (sm.trans (Same.new nt))
      have ht2 := s2 _ _ ht
      have hsm := hs.1 pr (List.mem_of_getElem? hpr)
      have hasc := ha.at_ hpr
      refine w_gtup (sqt upd_same) rfl ?_
      walk_at "go"
      refine ⟨tt, _, pr.1, pr.2, rfl, ht2, by omega, fun b hb => ?_⟩
      have hb1 : b = true := hb.mpr hasc
      subst hb1
      walk_at "go"
      refine iteF ?_
      walk_at "go"
      refine ⟨pr.1, pr.2, 10, rfl, by omega, by omega, by show pr.1.natAbs < 1024; omega, by omega, ?_⟩
      walk_at "go"
      · refine ⟨some (.int (i : Nat)), some (.ref tt), ?_, (sm.trans (Same.new nt))⟩
        have hi2 : i < ps.length := (List.getElem?_eq_some_iff.mp hpr).1
        have e3 : (ps.take (i + 1)).getLast? = some pr := by
          rw [List.take_succ_eq_append_getElem hi2, List.getLast?_concat, (List.getElem?_eq_some_iff.mp hpr).2]
        rw [num_take hpr, e3]
        rfl
      · have hi2 : i < ps.length := (List.getElem?_eq_some_iff.mp hpr).1
        have h7 := num_bound hs i (by omega)
        refine mx_w h7.2 (natAbs_pow_lt (b := 10) (by show pr.1.natAbs < 1024; omega) pr.2.toNat) ?_
        have := hs.2
        omega
    · rintro σ H1 ⟨u1, u2, rfl, sm⟩
      have hlen : (ts.map V.ref).length = ps.length := by
        rw [List.length_map]
        exact hp.length.symm
      rw [hlen, List.take_length]
      have hx2 := sm _ _ hx1
      have hl2 := sm _ _ hl1
      walk_at "go"
      refine w_sfldi hx2 X.md.cl X.number (by decide) ?_
      walk_at "go"
      have nxl : l ≠ x := fun z => by rw [z, hx] at hl; cases hl
      refine w_tupL (sq ((upd_ne nxl).trans hl2)) fun t ht => ?_
      walk_at "go"
      have nxt : x ≠ t := fun z => by rw [z, upd_same] at ht; cases ht
      refine w_sfldi ((upd_ne nxt).trans upd_same) X.md.cl X.factors (by show 1 < 1000; decide) ?_
      walk_at "go"
      refine k _ t (fun b o nb hb => ?_) ?_ ?_
      · have hb2 := sm _ _ (Same.new np _ _ hb)
        have hbt : b ≠ t := fun z => by rw [z] at nb hb2; rw [upd_ne nb, hb2] at ht; cases ht
        rw [upd_ne nb, upd_ne hbt, upd_ne nb]
        exact hb2
      · rw [upd_same]
        show some (HO.ins c.md dx (putF "factors" (.ref t) [("number", _)])) = _
        rw [putS (by decide +kernel)]
        rfl
      · rw [upd_ne nxt.symm, upd_same]

abbrev s_reqmod : Stmt := (top 27)
theorem sc_reqmod : FnScope ["modulus"] ["modulus"] (defScope s_reqmod) :=
  ⟨rfl, rfl, rfl, by decide +kernel, rfl, by decide +kernel, by decide +kernel⟩
theorem ok_reqmod {c : CA} (F : Dn K mg "require_modulus" s_reqmod ["modulus"]) (T : Bt mg) (X : Kx K mg c) : Cal P w K mg base 1 "require_modulus" (spReqMod c) [] := by
  refine F.cal sc_reqmod (fun vs H Q E h => ?_) (fun f cdv A outer s H vs Q E hr h => ?_)
  · obtain ⟨m, dx, fs, rfl, _⟩ := h
    rfl
  · obtain ⟨m, dx, fs, rfl, hm, q⟩ := h
    refine ⟨_, (pss_one (ps_if (pt_not (pt_val (pe_callB call_isi (by rfl) T.isinstance (by decide +kernel) (pa_cons (pv 0) (pa_cons (pe_glob (v := .ref c.md) (by rfl) X.mgMd rfl) pa_nil))))) (pss_one ps_never) pss_nil)), ?_⟩
    walk_at "go"
    refine w_isiC (X.md.ty hm) kit_own ?_
    walk_at "go"
    refine iteF ?_
    walk_at "go"
    exact q
abbrev s_mkinit : Stmt := (inClass (top 29) 0)
theorem sc_mkinit : FnScope ["self", "low", "shift", "lead"] ["self", "low", "shift", "lead"] (defScope s_mkinit) :=
  ⟨rfl, rfl, rfl, by decide +kernel, rfl, by decide +kernel, by decide +kernel⟩
theorem ok_mkinit {c : CA} {f : Addr} {fd : FuncData} {kws : List (Str × V)} (F : FunD K "__init__" "Marking.__init__" (defArgs s_mkinit) (defBody s_mkinit) (defScope s_mkinit) [] kws f fd) (T : Bt mg) (X : Kx K mg c) (c_isint : Cal P w K mg base 1 "is_integer" (spIsInt K) []) :
    FnOk P w K mg base L2.CX0 2 f fd ["self", "low", "shift", "lead"] (spMkInit c) := by
  refine fnD_ok F sc_mkinit (fun vs H Q E h => ?_) (fun cdv A outer s H vs Q E hr h => ?_)
  · obtain ⟨x, dx, l, sh, d, rfl, _⟩ := h
    rfl
  · obtain ⟨x, dx, l, sh, d, rfl, hx, k⟩ := h
    refine ⟨_, (pss_cons (ps_if (pt_not (pt_val (pe_callB call_isi (by rfl) T.isinstance (by decide +kernel) (pa_cons (pv 1) (pa_cons (pe_bltn (v := .ty "bool") (by rfl) T.bool (by decide +kernel) rfl) pa_nil))))) (pss_one ps_never) pss_nil)
      (pss_cons (ps_if (pt_not (pt_val (pe_c c_isint hr (by decide) (by rfl) (pa_cons (pv 2) pa_nil)))) (pss_one ps_never) pss_nil)
      (pss_cons (ps_if (pt_not (pt_val (pe_callB call_isi (by rfl) T.isinstance (by decide +kernel) (pa_cons (pv 3) (pa_cons (pe_bltn (v := .ty "bool") (by rfl) T.bool (by decide +kernel) rfl) pa_nil))))) (pss_one ps_never) pss_nil)
      (pss_cons (ps_fld (pv 0) (pv 1) rfl)
      (pss_cons (ps_fld (pv 0) (pv 2) rfl)
      (pss_one (ps_fld (pv 0) (pv 3) rfl))))))), ?_⟩
    walk_at "go"
    refine w_isi (b := true) (.base (.bl l)) (kit_ty (by decide +kernel)) ?_
    walk_at "go"
    refine iteF ?_
    walk_at "go"
    refine use_isInt ?_
    walk_at "go"
    refine iteF ?_
    walk_at "go"
    refine w_isi (b := true) (.base (.bl d)) (kit_ty (by decide +kernel)) ?_
    walk_at "go"
    refine iteF ?_
    walk_at "go"
    refine w_sfldi hx X.kg.cl X.low (by decide) ?_
    walk_at "go"
    refine w_sfldi upd_same X.kg.cl X.shift (by show 1 < 1000; decide) ?_
    walk_at "go"
    refine w_sfldi upd_same X.kg.cl X.lead (by rw [put0, putS (by decide +kernel)]; show 2 < 1000; decide) ?_
    walk_at "go"
    refine k _ (fun b o nb hb => by rw [upd_ne nb, upd_ne nb, upd_ne nb]; exact hb) ?_
    rw [upd_same, put0, putS (by decide +kernel), put0, putS (by decide +kernel), putS (by decide +kernel)]
    rfl
abbrev s_hf : Stmt := (inClass (top 29) 2)
theorem sc_hf : FnScope ["self", "letters", "found", "letter"] ["self", "letters"] (defScope s_hf) :=
  ⟨rfl, rfl, rfl, by decide +kernel, rfl, by decide +kernel, by decide +kernel⟩
theorem ok_hf {c : CA} {f : Addr} {fd : FuncData} (F : FunD K "highest_first" "Marking.highest_first" (defArgs s_hf) (defBody s_hf) (defScope s_hf) [] [] f fd) (T : Bt mg) (X : Kx K mg c) :
    FnOk P w K mg base L2.CX0 1 f fd ["self", "letters"] (spHf c) := by
  refine fnD_ok F sc_hf (fun vs H Q E h => ?_) (fun cdv A outer s H vs Q E hr h => ?_)
  · obtain ⟨k, a, y, ls, rfl, _⟩ := h
    rfl
  · obtain ⟨k, a, y, ls, rfl, ⟨dx, hk⟩, ha, hl, q⟩ := h
    refine ⟨_, (pss_cons (ps_setLc (i := 2) (own := [("letter", 3)]) (g := gName 3) (tt := tYes) (te := (tOp _ (tVar 3) (tFld K (tVar 0) "shift"))) rfl sc_hf.nd rfl rfl (sw_true rfl rfl rfl (by decide +kernel)) (pi_tup (pv 1)) (blkOk_by (own := [("letter", 3)]) (N := ["self", "letters", "found", "letter"]) (sc := defScope s_hf) (by decide +kernel)) (fun _ _ _ _ _ => (pg_name (i := 3) sc_hf.nd rfl (Or.inl rfl))) (fun _ _ _ _ _ => pts_nil) (fun _ _ _ _ _ => (pe_op op_add (pv 3) (pe_fld (pv 0) rfl))))
      (pss_cons (ps_if (pt_val (pe_fld (pv 0) rfl)) (pss_one (ps_set (i := 2) sc_hf.nd rfl (Or.inl rfl) (pe_revL (pv 2)))) pss_nil)
      (pss_one (ps_ret (pe_op op_cat (pe_lst (pa_cons (pe_callTy cInt1 (by rfl) T.int (by decide +kernel) (pa_cons (pe_fld (pv 0) rfl) pa_nil)) pa_nil)) (pv 2)))))), ?_⟩
    walk_at "go"
    intro D hD
    refine lc_pure (ls.map V.int) ((ls.map (· + y.shift)).map V.int) walk_tup hD (fun _ sm => sqt (sm _ _ ha)) (by simp) (by simp; exact hl) (fun _ => rfl) ?_ ?_
    · intro i x z H' hx hz sm Q' q'
      obtain ⟨u, hu, rfl⟩ := get_map hx
      obtain ⟨v, hv, rfl⟩ := get_map hz
      obtain ⟨v', hv', rfl⟩ := get_map hv
      rw [hu] at hv'
      cases hv'
      walk_at "go"
      refine w_fldi (sm _ _ hk) X.kg.cl X.shift mk_shift ?_
      walk_at "go"
      exact q' _ (Same.refl _)
    · intro H1 s1 hD1
      walk_at "go"
      refine w_fldi (s1 _ _ hk) X.kg.cl X.low mk_low ?_
      walk_at "go"
      have fin : ∀ (H2 : Hp) (d : Addr), Same H1 H2 → H2 d = some (.lst ((if y.low then (ls.map (· + y.shift)).reverse else ls.map (· + y.shift)).map V.int)) →
          ∀ p, H2 p = none → ∀ r, (upd H2 p (.lst [.int (if y.lead then 1 else 0)])) r = none → Q (.ref r) (upd (upd H2 p (.lst [.int (if y.lead then 1 else 0)])) r (.lst ([V.int (if y.lead then 1 else 0)] ++ (if y.low then (ls.map (· + y.shift)).reverse else ls.map (· + y.shift)).map V.int))) := fun H2 d s2 hd p hp r hr =>
        q _ r ((s1.trans s2).trans ((Same.new hp).trans (Same.new hr))) (by rw [upd_same]; rfl)
      have hlen : (if y.low then (ls.map (· + y.shift)).reverse else ls.map (· + y.shift)).length = ls.length := by split <;> simp
      have hsz : ([V.int (if y.lead then 1 else 0)] : List V).length + ((if y.low then (ls.map (· + y.shift)).reverse else ls.map (· + y.shift)).map V.int).length ≤ sizeLine := by
        rw [List.length_map, hlen]
        have : (100001 : Nat) ≤ sizeLine := by decide
        simp only [List.length_cons, List.length_nil]
        omega
      by_cases hlow : y.low = true
      · rw [hlow]
        refine iteT ?_
        walk_at "go"
        refine w_revi (sq hD1) fun e he => ?_
        walk_at "go"
        have hk2 := upd_new (o := .lst (((ls.map (· + y.shift)).map V.int).reverse)) he (s1 _ _ hk)
        refine w_fldi hk2 X.kg.cl X.lead mk_lead ?_
        walk_at "go"
        intro p hp
        walk_at "go"
        have hd2 : upd H1 e (.lst (((ls.map (· + y.shift)).map V.int).reverse)) e = some (.lst ((if y.low then (ls.map (· + y.shift)).reverse else ls.map (· + y.shift)).map V.int)) := by
          rw [upd_same, if_pos hlow, map_rev]
        refine w_cat upd_same (upd_new hp hd2) hsz ?_
        exact fin _ e (Same.new he) hd2 p hp
      · have hlow' : y.low = false := by simpa using hlow
        rw [hlow']
        refine iteF ?_
        walk_at "go"
        refine w_fldi (s1 _ _ hk) X.kg.cl X.lead mk_lead ?_
        walk_at "go"
        intro p hp
        walk_at "go"
        have hd2 : H1 D = some (.lst ((if y.low then (ls.map (· + y.shift)).reverse else ls.map (· + y.shift)).map V.int)) := by
          rw [hD1, if_neg hlow]
        refine w_cat upd_same (upd_new hp hd2) hsz ?_
        exact fin _ D (Same.refl _) hd2 p hp
abbrev s_mkof : Stmt := (top 30)
theorem sc_mkof : FnScope ["marking"] ["marking"] (defScope s_mkof) :=
  ⟨rfl, rfl, rfl, by decide +kernel, rfl, by decide +kernel, by decide +kernel⟩
theorem ok_mkof {c : CA} (F : Dn K mg "marking_of" s_mkof ["marking"]) (T : Bt mg) (X : Kx K mg c) (c_mk0 : Mak P w K mg base 2 "Marking" c.kg (spMkInit c) [.bl false, .int 0, .bl false]) : Cal P w K mg base 4 "marking_of" (spMkOf c) [] := by
  refine F.cal sc_mkof (fun vs H Q E h => ?_) (fun f cdv A outer s H vs Q E hr h => ?_)
  · obtain ⟨v, y, rfl, _⟩ := h
    rfl
  · obtain ⟨v, y, rfl, hv, q⟩ := h
    refine ⟨_, (pss_cons (ps_if (pt_cmpR op_isN1 (pv 0) pe_non (nomark _)) (pss_one (ps_ret (pe_mk0 c_mk0 hr (by decide) (by rfl)))) pss_nil)
      (pss_cons (ps_if (pt_not (pt_val (pe_callB call_isi (by rfl) T.isinstance (by decide +kernel) (pa_cons (pv 0) (pa_cons (pe_glob (v := .ref c.kg) (by rfl) X.mgMk rfl) pa_nil))))) (pss_one ps_never) pss_nil)
      (pss_one (ps_ret (pv 0))))), ?_⟩
    rcases hv with ⟨rfl, rfl⟩ | ⟨k, rfl, hk⟩
    · walk_at "go"
      refine iteT ?_
      walk_at "go"
      refine use_mk fun m H' _ s1 hm => ?_
      walk_at "go"
      exact q _ _ s1 hm
    · walk_at "go"
      refine iteF ?_
      walk_at "go"
      obtain ⟨dx, hk1⟩ := id hk
      refine w_isiC (X.kg.ty hk1) kit_own ?_
      walk_at "go"
      refine iteF ?_
      walk_at "go"
      exact q _ _ (Same.refl _) hk
abbrev s_restat : Stmt := (top 31)
theorem sc_restat : FnScope ["coefficients", "base", "number", "found", "coefficient"] ["coefficients", "base", "number"] (defScope s_restat) :=
  ⟨rfl, rfl, rfl, by decide +kernel, rfl, by decide +kernel, by decide +kernel⟩
theorem ok_restat (F : Dn K mg "rest_at" s_restat ["coefficients", "base", "number"]) (T : Bt mg) : Cal P w K mg base 1 "rest_at" spRestAt [] := by
  refine F.cal sc_restat (fun vs H Q E h => ?_) (fun f cdv A outer s H vs Q E hr h => ?_)
  · obtain ⟨a, cs, b, n, B, rfl, _⟩ := h
    rfl
  · obtain ⟨a, cs, b, n, B, rfl, ha, b0, bn, hB, hB2, q⟩ := h
    refine ⟨_, (pss_cons (ps_set (i := 3) sc_restat.nd rfl (Or.inl rfl) pe_int)
      (pss_cons (ps_for PassesOwn.never rfl (pi_list (pv 0)) (pg_name (i := 4) sc_restat.nd rfl (Or.inl rfl)) (pss_one (ps_set (i := 3) sc_restat.nd rfl (Or.inl rfl) (pe_op op_mod (pe_op op_add (pe_op oMul (pv 3) (pv 1)) (pv 4)) (pv 2)))))
      (pss_one (ps_ret (pv 3))))), ?_⟩
    walk_at "go"
    refine for_list (K := K) (a := a) (xs := cs.map V.int) (fun i σ H' => ∃ (u : Option V), σ = [some (.ref a), some (.int b), some (.int n), some (.int (restAt (cs.take i) b n)), u] ∧ H' = H)
      ⟨none, rfl, rfl⟩ (fun i σ H' _ z => by obtain ⟨_, _, rfl⟩ := z; exact sq ha) ?_ ?_
    · rintro i x σ H' hi ⟨u, rfl, rfl⟩
      obtain ⟨v, hv, rfl⟩ := get_map hi
      have hr := rest_range (b := b) (show 0 < n by omega) (cs.take i)
      walk_at "go"
      · exact ⟨_, by rw [rest_take hv], rfl⟩
      · exact mx_w (a := B) (b := B) (wide_le hr.1 (Int.le_of_lt hr.2) hB) (wide_le b0 (Int.le_of_lt bn) hB) (by omega)
    · rintro σ H' ⟨u, rfl, rfl⟩
      rw [List.length_map, List.take_length]
      walk_at "go"
      exact q
abbrev s_wayinit : Stmt := (inClass (top 32) 0)
theorem sc_wayinit : FnScope ["self", "base", "modulus", "marking"] ["self", "base", "modulus", "marking"] (defScope s_wayinit) :=
  ⟨rfl, rfl, rfl, by decide +kernel, rfl, by decide +kernel, by decide +kernel⟩
theorem ok_wayinit {c : CA} {f : Addr} {fd : FuncData} {dvs : List V} (F : FunD K "__init__" "Way.__init__" (defArgs s_wayinit) (defBody s_wayinit) (defScope s_wayinit) dvs [] f fd) (T : Bt mg) (X : Kx K mg c) (c_isint : Cal P w K mg base 1 "is_integer" (spIsInt K) [])
    (c_reqmod : Cal P w K mg base 1 "require_modulus" (spReqMod c) []) (c_mkof : Cal P w K mg base 4 "marking_of" (spMkOf c) []) :
    FnOk P w K mg base L2.CX0 5 f fd ["self", "base", "modulus", "marking"] (spWayInit c) := by
  refine fnD_ok F sc_wayinit (fun vs H Q E h => ?_) (fun cdv A outer s H vs Q E hr h => ?_)
  · obtain ⟨x, dx, m, b, mv, ps, y, rfl, _⟩ := h
    rfl
  · obtain ⟨x, dx, m, b, mv, ps, y, rfl, hx, hm, hk, q⟩ := h
    obtain ⟨dm, t, ts, hm1, hm2, hm3, hm4, hm5⟩ := id hm
    have hn := num_pos hm5
    have nmx : m ≠ x := fun z => by
      rw [z, hx] at hm1
      have := Option.some.inj hm1
      injection this with _ _ e
      cases e
    refine ⟨_, (pss_cons (ps_if (pt_not (pt_val (pe_c c_isint hr (by decide) (by rfl) (pa_cons (pv 1) pa_nil)))) (pss_one ps_never) pss_nil)
      (pss_cons (ps_expr (pe_c c_reqmod hr (by decide) (by rfl) (pa_cons (pv 2) pa_nil)))
      (pss_cons (ps_fld (pv 0) (pe_c c_mkof hr (by decide) (by rfl) (pa_cons (pv 3) pa_nil)) rfl)
      (pss_cons (ps_fld (pv 0) (pv 2) rfl)
      (pss_cons (ps_fld (pv 0) (pe_fld (pv 2) rfl) rfl)
      (pss_one (ps_fld (pv 0) (pe_op op_mod (pv 1) (pe_fld (pv 2) rfl)) rfl))))))), ?_⟩
    walk_at "go"
    refine use_isInt ?_
    walk_at "go"
    refine iteF ?_
    walk_at "go"
    refine ⟨m, dm, _, rfl, hm1, ?_⟩
    walk_at "go"
    refine ⟨mv, y, rfl, hk, fun H1 k s1 hk1 => ?_⟩
    obtain ⟨dk, hk2⟩ := id hk1
    walk_at "go"
    have nkx : k ≠ x := fun z => by
      rw [z, s1 _ _ hx] at hk2
      have := Option.some.inj hk2
      injection this with _ _ e
      cases e
    refine w_sfldi (s1 _ _ hx) X.wy.cl X.marking (by decide) ?_
    walk_at "go"
    refine w_sfldi upd_same X.wy.cl X.modulus (by show 1 < 1000; decide) ?_
    walk_at "go"
    have e1 : putF "modulus" (.ref m) (putF "marking" (.ref k) []) = ([("marking", V.ref k), ("modulus", .ref m)] : List (Str × V)) := by
      rw [put0, putS (by decide +kernel)]
      rfl
    rw [e1]
    have hmA : ∀ (o1 o2 : HO), upd (upd H1 x o1) x o2 m = some (.ins c.md dm (mdF (num ps) t)) := fun o1 o2 => by rw [upd_ne nmx, upd_ne nmx]; exact s1 _ _ hm1
    refine w_fldi (hmA _ _) X.md.cl X.number md_number ?_
    walk_at "go"
    refine w_sfldi upd_same X.wy.cl X.wnumber (by show 2 < 1000; decide) ?_
    walk_at "go"
    refine w_fldi (by rw [upd_ne nmx]; exact hmA _ _) X.md.cl X.number md_number ?_
    walk_at "go"
    have e2 : putF "number" (.int (num ps)) [("marking", V.ref k), ("modulus", .ref m)] = ([("marking", V.ref k), ("modulus", .ref m), ("number", .int (num ps))] : List (Str × V)) := by
      rw [putS (by decide +kernel), putS (by decide +kernel)]
      rfl
    rw [e2]
    refine w_sfldi upd_same X.wy.cl X.base (by show 3 < 1000; decide) ?_
    walk_at "go"
    have e3 : putF "base" (.int (b % num ps)) [("marking", V.ref k), ("modulus", .ref m), ("number", .int (num ps))] = wyF k m (num ps) (b % num ps) := by
      rw [putS (by decide +kernel), putS (by decide +kernel), putS (by decide +kernel)]
      rfl
    rw [e3]
    refine q _ k (fun b o nb hb => by rw [upd_ne nb, upd_ne nb, upd_ne nb, upd_ne nb]; exact s1 _ _ hb) upd_same ⟨dk, ?_⟩
    rw [upd_ne nkx, upd_ne nkx, upd_ne nkx, upd_ne nkx]
    exact hk2
abbrev s_ofl : Stmt := (inClass (top 32) 2)
theorem sc_ofl : FnScope ["self", "letters"] ["self", "letters"] (defScope s_ofl) :=
  ⟨rfl, rfl, rfl, by decide +kernel, rfl, by decide +kernel, by decide +kernel⟩
theorem ok_ofl {c : CA} {f : Addr} {fd : FuncData} (F : FunD K "of_letters" "Way.of_letters" (defArgs s_ofl) (defBody s_ofl) (defScope s_ofl) [] [] f fd) (T : Bt mg) (X : Kx K mg c) (c_restat : Cal P w K mg base 1 "rest_at" spRestAt []) (c_hf : Met P w K mg base 1 c.kg "highest_first" (spHf c) []) :
    FnOk P w K mg base L2.CX0 2 f fd ["self", "letters"] (spOfLetters c) := by
  refine fnD_ok F sc_ofl (fun vs H Q E h => ?_) (fun cdv A outer s H vs Q E hr h => ?_)
  · obtain ⟨x, a, b, ps, y, ls, rfl, _⟩ := h
    rfl
  · obtain ⟨x, a, b, ps, y, ls, rfl, ⟨dx, m, k, hx, hm, ⟨dk, hk⟩, b0, bn⟩, ha, hl, q⟩ := h
    obtain ⟨_, _, _, _, _, _, _, hs⟩ := id hm
    refine ⟨_, (pss_one (ps_ret (pe_c c_restat hr (by decide) (by rfl) (pa_cons (pe_mt c_hf hr (by decide) (pe_fld (pv 0) rfl) (pa_cons (pv 1) pa_nil)) (pa_cons (pe_fld (pv 0) rfl) (pa_cons (pe_fld (pv 0) rfl) pa_nil)))))), ?_⟩
    walk_at "go"
    refine w_fldi hx X.wy.cl X.marking wy_marking ?_
    refine w_methi hk (mk_no (by decide +kernel) (by decide +kernel) (by decide +kernel)) ?_
    walk_at "go"
    refine ⟨k, a, y, ls, rfl, ⟨dk, hk⟩, ha, hl, fun H1 l s1 hl1 => ?_⟩
    walk_at "go"
    refine w_fldi (s1 _ _ hx) X.wy.cl X.base wy_base ?_
    walk_at "go"
    refine w_fldi (s1 _ _ hx) X.wy.cl X.wnumber wy_number ?_
    walk_at "go"
    refine ⟨l, hf y ls, b, num ps, 70000, rfl, hl1, b0, bn, num_lt hs, by decide, ?_⟩
    walk_at "go"
    exact q _ s1

abbrev s_mixed : Stmt := (top 37)
theorem sc_mixed : FnScope ["_law_cell", "_law_k", "_law_stirred"] ["_law_cell", "_law_k"] (defScope s_mixed) :=
  ⟨rfl, rfl, rfl, by decide +kernel, rfl, by decide +kernel, by decide +kernel⟩
theorem ok_mixed (F : Dn K mg "_law_mixed" s_mixed ["_law_cell", "_law_k"]) (T : Bt mg) : Cal P w K mg base 1 "_law_mixed" spMixed [] := by
  refine F.cal sc_mixed (fun vs H Q E h => ?_) (fun f cdv A outer s H vs Q E hr h => ?_)
  · obtain ⟨a, b, rfl, _⟩ := h
    rfl
  · obtain ⟨a, b, rfl, a0, a1, b0, b1, k⟩ := h
    refine ⟨_, (pss_cons (ps_set (i := 2) sc_mixed.nd rfl (Or.inl rfl) (pe_op op_mod (pe_callTy cInt1 (by rfl) T.int (by decide +kernel) (pa_cons (pe_op op_add (pe_op op_add (pe_op op_add (pe_op oMul (pv 0) pe_int) (pe_op oMul (pe_op oMul pe_int (pv 1)) (pv 1))) (pe_op oMul pe_int (pv 1))) pe_int) pa_nil)) pe_int))
      (pss_one (ps_ret (pe_op op_fdivW (pe_op op_mod (pe_callTy cInt1 (by rfl) T.int (by decide +kernel) (pa_cons (pe_op op_add (pe_op op_add (pe_op oMul (pv 2) (pv 2)) (pe_op oMul pe_int (pv 2))) pe_int) pa_nil)) pe_int) pe_int)))), ?_⟩
    walk_at "go"
    · exact k _ (by omega) (by omega)
abbrev s_purse : Stmt := (top 38)
theorem sc_purse : FnScope ["_law_cells", "_law_at", "_law_cell"] ["_law_cells", "_law_at"] (defScope s_purse) :=
  ⟨rfl, rfl, rfl, by decide +kernel, rfl, by decide +kernel, by decide +kernel⟩
theorem ok_purse (F : Dn K mg "_law_purse" s_purse ["_law_cells", "_law_at"]) (T : Bt mg) : Cal P w K mg base 1 "_law_purse" (spPurse K) [] := by
  refine F.cal sc_purse (fun vs H Q E h => ?_) (fun f cdv A outer s H vs Q E hr h => ?_)
  · obtain ⟨a, ns, i, rfl, _⟩ := h
    rfl
  · obtain ⟨a, ns, i, rfl, hS, i0, hl, k⟩ := h
    have e1 : CPowW 10 18 := ⟨by decide, by decide +kernel⟩
    have e2 : CPowW 10 60 := ⟨by decide, by decide +kernel⟩
    have e3 : CPowW (10 ^ Int.toNat 60) 8 := ⟨by decide, by decide +kernel⟩
    have e4 : (0 : Int) < (10 ^ Int.toNat 60) ^ Int.toNat 8 := by decide +kernel
    have e5 : ((10 : Int) ^ Int.toNat 60) ^ Int.toNat 8 < 2 ^ 1600 := by decide +kernel
    generalize e6 : ((10 : Int) ^ Int.toNat 60) ^ Int.toNat 8 = g at e4 e5
    have fin : ∀ c : Int, Q = Q → ∀ p, H p = none → Q (.ref p) (upd H p (.lst [.int ((if 0 > c - 10 ^ Int.toNat 18 then 0 else c - 10 ^ Int.toNat 18) % g), .int (c % 2147483647), .int (1000 * i)])) := fun c _ p np =>
      k p _ np (Same.new np) ⟨_, _, _, upd_same, Int.emod_nonneg _ (by omega), Int.lt_trans (Int.emod_lt_of_pos _ e4) e5, by omega, by omega, by omega, by omega⟩
    refine ⟨_, (pss_cons (ps_set (i := 2) sc_purse.nd rfl (Or.inl rfl) pe_int)
      (pss_cons (ps_if (pt_cmpR op_lt (pv 1) (pe_callB cLen (by rfl) T.len (by decide +kernel) (pa_cons (pv 0) pa_nil)) (nomark _)) (pss_one (ps_set (i := 2) sc_purse.nd rfl (Or.inl rfl) (pe_ix ix_list (pv 0) (pv 1) (fun _ _ => rfl)))) pss_nil)
      (pss_one (ps_ret (pe_lst (pa_cons (pe_op op_mod (pe_callTy cInt1 (by rfl) T.int (by decide +kernel) (pa_cons (pe_callB (cMax2 rfl) (by rfl) T.max (by decide +kernel) (pa_cons (pe_op op_sub (pv 2) (pe_op oPowW pe_int pe_int)) (pa_cons pe_int pa_nil))) pa_nil)) (pe_op oPowW (pe_op oPowW pe_int pe_int) pe_int)) (pa_cons (pe_op op_mod (pe_callTy cInt1 (by rfl) T.int (by decide +kernel) (pa_cons (pv 2) pa_nil)) pe_int) (pa_cons (pe_op oMul pe_int (pv 1)) pa_nil)))))))), ?_⟩
    walk_at "go"
    refine ite_d (fun h => ?_) (fun h => ?_)
    · walk_at "go"
      refine w_ixL hS (atI_ints i0 h) ?_
      walk_at "go"
      rw [e6]
      exact fin _ rfl
    · walk_at "go"
      rw [e6]
      exact fin _ rfl
abbrev s_draw : Stmt := (top 39)
theorem sc_draw : FnScope ["_law_purse_here", "_law_out_of", "_law_drawn"] ["_law_purse_here", "_law_out_of"] (defScope s_draw) :=
  ⟨rfl, rfl, rfl, by decide +kernel, rfl, by decide +kernel, by decide +kernel⟩
theorem ok_draw (F : Dn K mg "_law_draw" s_draw ["_law_purse_here", "_law_out_of"]) (T : Bt mg) (c_mixed : Cal P w K mg base 1 "_law_mixed" spMixed []) : Cal P w K mg base 2 "_law_draw" spDraw [] := by
  refine F.cal sc_draw (fun vs H Q E h => ?_) (fun f cdv A outer s H vs Q E hr h => ?_)
  · obtain ⟨a, n, c, rfl, _⟩ := h
    rfl
  · obtain ⟨a, n, c, rfl, n0, n1, hc, ⟨x, y, z, hp, x0, x1, y0, y1, z0, z1⟩, k⟩ := h
    refine ⟨_, (pss_cons (ps_if (pt_cmpR op_gt (pe_ix ix_list (pv 0) pe_int (fun _ _ => rfl)) pe_int (nomark _)) (pss_cons (ps_set (i := 2) sc_draw.nd rfl (Or.inl rfl) (pe_op op_mod (pe_callTy cInt1 (by rfl) T.int (by decide +kernel) (pa_cons (pe_ix ix_list (pv 0) pe_int (fun _ _ => rfl)) pa_nil)) (pv 1)))
      (pss_cons (ps_asg (pe_op op_fdivW (pe_ix ix_list (pv 0) pe_int (fun _ _ => rfl)) (pv 1)) (pg_sub (pv 0) pe_int set_list))
      (pss_one (ps_ret (pv 2))))) pss_nil)
      (pss_cons (ps_asg (pe_op op_add (pe_ix ix_list (pv 0) pe_int (fun _ _ => rfl)) pe_int) (pg_sub (pv 0) pe_int set_list))
      (pss_one (ps_ret (pe_op op_mod (pe_callTy cInt1 (by rfl) T.int (by decide +kernel) (pa_cons (pe_c c_mixed hr (by decide) (by rfl) (pa_cons (pe_ix ix_list (pv 0) pe_int (fun _ _ => rfl)) (pa_cons (pe_ix ix_list (pv 0) pe_int (fun _ _ => rfl)) pa_nil))) pa_nil)) (pv 1)))))), ?_⟩
    walk_at "go"
    refine ite_d (fun h => ?_) (fun h => ?_)
    · walk_at "go"
      exact k _ _ (Int.emod_nonneg _ (by omega)) (Int.emod_lt_of_pos _ n0) Keep.refl.upd ⟨_, _, _, upd_same, Int.ediv_nonneg x0 (by omega), Int.lt_of_le_of_lt (Int.ediv_le_self _ x0) x1, y0, y1, z0, by omega⟩
    · walk_at "go"
      refine ⟨_, _, rfl, y0, y1, (by omega), (by omega), fun r r0 r1 => ?_⟩
      walk_at "go"
      exact k _ _ (Int.emod_nonneg _ (by omega)) (Int.emod_lt_of_pos _ n0) Keep.refl.upd ⟨_, _, _, upd_same, x0, x1, y0, y1, by omega, by omega⟩
abbrev s_great : Stmt := (top 40)
theorem sc_great : FnScope ["_law_purse_here", "_law_figures", "_law_found", "_law_turn"] ["_law_purse_here", "_law_figures"] (defScope s_great) :=
  ⟨rfl, rfl, rfl, by decide +kernel, rfl, by decide +kernel, by decide +kernel⟩
theorem ok_great (F : Dn K mg "_law_great" s_great ["_law_purse_here", "_law_figures"]) (T : Bt mg) (c_draw : Cal P w K mg base 2 "_law_draw" spDraw []) : Cal P w K mg base 3 "_law_great" spGreat [] := by
  refine F.cal sc_great (fun vs H Q E h => ?_) (fun f cdv A outer s H vs Q E hr h => ?_)
  · obtain ⟨a, n, c, rfl, _⟩ := h
    rfl
  · obtain ⟨a, n, c, rfl, n0, n1, hc, p, k⟩ := h
    refine ⟨_, (pss_cons (ps_set (i := 2) sc_great.nd rfl (Or.inl rfl) pe_int)
      (pss_cons (ps_for PassesOwn.never rfl (pi_range1 (by rfl) T.range (pa_cons (pv 1) pa_nil)) (pg_name (i := 3) sc_great.nd rfl (Or.inl rfl)) (pss_one (ps_set (i := 2) sc_great.nd rfl (Or.inl rfl) (pe_op op_add (pe_op oMul pe_int (pv 2)) (pe_c c_draw hr (by decide) (by rfl) (pa_cons (pv 0) (pa_cons pe_int pa_nil)))))))
      (pss_one (ps_ret (pv 2))))), ?_⟩
    walk_at "go"
    refine for_range (lo := 0) (n := n.toNat) (fun i σ H' => ∃ (v : Int) (u : Option V), σ = [some (.ref a), some (.int n), some (.int v), u] ∧ 0 ≤ v ∧ v < 10 ^ i ∧ Keep a H H' ∧ Purse H' a (c + i))
      ⟨0, none, rfl, by decide, by decide, Keep.refl, p.le (by omega)⟩ ?_ ?_
    · rintro i σ H' hi ⟨v, u, rfl, v0, v1, kp, pu⟩
      walk_at "go"
      refine use_draw pu (by decide) (by decide) (by omega) (fun r H2 r0 r1 k2 p2 => ?_)
      walk_at "go"
      refine ⟨_, _, rfl, by omega, ?_, kp.trans k2, p2.le (by omega)⟩
      rw [Int.pow_succ]
      omega
    · rintro σ H' ⟨v, u, rfl, v0, v1, kp, pu⟩
      walk_at "go"
      exact k _ _ v0 v1 kp (pu.le (by omega))

abbrev s_style : Stmt := (top 41)
theorem sc_style : FnScope ["_law_purse_here", "_law_moved"] ["_law_purse_here"] (defScope s_style) :=
  ⟨rfl, rfl, rfl, by decide +kernel, rfl, by decide +kernel, by decide +kernel⟩
theorem ok_style (F : Dn K mg "_law_style" s_style ["_law_purse_here"]) (T : Bt mg) (c_draw : Cal P w K mg base 2 "_law_draw" spDraw []) (c_great : Cal P w K mg base 3 "_law_great" spGreat []) : Cal P w K mg base 4 "_law_style" spStyle [] := by
  refine F.cal sc_style (fun vs H Q E h => ?_) (fun f cdv A outer s H vs Q E hr h => ?_)
  · obtain ⟨a, c, rfl, _⟩ := h
    rfl
  · obtain ⟨a, c, rfl, hc, p, k⟩ := h
    refine ⟨_, (pss_cons (ps_set (i := 1) sc_style.nd rfl (Or.inl rfl) (pe_ix ix_list (pe_lst (pa_cons pe_int (pa_cons pe_int (pa_cons pe_int (pa_cons (pe_op op_sub pe_int pe_int) (pa_cons (pe_c c_great hr (by decide) (by rfl) (pa_cons (pv 0) (pa_cons (pe_op op_add pe_int (pe_c c_draw hr (by decide) (by rfl) (pa_cons (pv 0) (pa_cons pe_int pa_nil)))) pa_nil))) pa_nil)))))) (pe_c c_draw hr (by decide) (by rfl) (pa_cons (pv 0) (pa_cons pe_int pa_nil))) (fun _ _ => rfl)))
      (pss_one (ps_ret (pe_lst (pa_cons (pe_cmpR op_eq (pe_c c_draw hr (by decide) (by rfl) (pa_cons (pv 0) (pa_cons pe_int pa_nil))) pe_int (nomark _)) (pa_cons (pv 1) (pa_cons (pe_cmpR op_eq (pe_c c_draw hr (by decide) (by rfl) (pa_cons (pv 0) (pa_cons pe_int pa_nil))) pe_int (nomark _)) pa_nil))))))), ?_⟩
    walk_at "go"
    refine use_draw p (by decide) (by decide) (by omega) (fun r1 H1 r10 r11 k1 p1 => ?_)
    walk_at "go"
    refine use_great p1 (by omega) (by omega) (by omega) (fun g H2 g0 g1 k2 p2 => ?_)
    walk_at "go"
    intro q1 f1
    have s1 : Same H2 (upd H2 q1 (.lst (([0, 0, 1, 0 - 97, g] : List Int).map V.int))) := Same.new f1
    have m1 := p2.fresh f1
    walk_at "go"
    refine use_draw (p2.same s1) (by decide) (by decide) (by omega) (fun r2 H3 r20 r21 k3 p3 => ?_)
    have h1 := k3.at_ m1 (upd_same (H := H2) (a := q1) (o := .lst (([0, 0, 1, 0 - 97, g] : List Int).map V.int)))
    refine w_ixL (xs := ([0, 0, 1, 0 - 97, g] : List Int).map V.int) (sq h1) (atI_ints r20 (by simpa using r21)) ?_
    have hb : (([0, 0, 1, 0 - 97, g] : List Int).getD r2.toNat 0).natAbs < 10 ^ 31 := by
      have hg : g.natAbs < 10 ^ 31 := by
        have h2 : (10 : Int) ^ (1 + r1).toNat ≤ 10 ^ 30 := by
          have e : (10 : Int) ^ (1 + r1).toNat = ((10 ^ (1 + r1).toNat : Nat) : Int) := by rw [Int.natCast_pow]; rfl
          have e2 : 10 ^ (1 + r1).toNat ≤ 10 ^ 30 := Nat.pow_le_pow_right (by decide) (by omega)
          rw [e]
          omega
        omega
      have hr : r2 = 0 ∨ r2 = 1 ∨ r2 = 2 ∨ r2 = 3 ∨ r2 = 4 := by omega
      rcases hr with rfl | rfl | rfl | rfl | rfl
      · show (0 : Int).natAbs < 10 ^ 31; decide
      · show (0 : Int).natAbs < 10 ^ 31; decide
      · show (1 : Int).natAbs < 10 ^ 31; decide
      · show (0 - 97 : Int).natAbs < 10 ^ 31; decide
      · exact hg
    generalize ([0, 0, 1, 0 - 97, g] : List Int).getD r2.toNat 0 = sh at hb
    walk_at "go"
    refine use_draw p3 (by decide) (by decide) (by omega) (fun r4 H4 r40 r41 k4 p4 => ?_)
    walk_at "go"
    refine use_draw p4 (by decide) (by decide) (by omega) (fun r5 H5 r50 r51 k5 p5 => ?_)
    walk_at "go"
    intro q2 f2
    walk_at "go"
    have kp : Keep a H H5 := k1.trans (k2.trans ((Keep.of s1).trans (k3.trans (k4.trans k5))))
    have g2 : H q2 = none := by
      cases e : H q2 with
      | none => rfl
      | some o =>
        by_cases z : q2 = a
        · rw [z] at f2
          obtain ⟨_, _, _, e2, _⟩ := p5
          rw [e2] at f2
          cases f2
        · rw [kp _ _ z e] at f2
          cases f2
    exact k q2 _ ⟨_, sh, _⟩ g2 (kp.trans (Keep.of (Same.new f2))) ((p5.same (Same.new f2)).le (by omega)) upd_same hb
abbrev s_marking : Stmt := (top 42)
theorem sc_marking : FnScope ["_law_given"] ["_law_given"] (defScope s_marking) :=
  ⟨rfl, rfl, rfl, by decide +kernel, rfl, by decide +kernel, by decide +kernel⟩
theorem ok_marking {ca : CA} (F : Dn K mg "_law_marking" s_marking ["_law_given"]) (T : Bt mg) (c_mk3 : MakK P w K mg base 2 "Marking" ca.kg ["low", "shift", "lead"] (spMkInit ca) (fun vs zs => vs ++ zs)) : Cal P w K mg base 4 "_law_marking" (spMarking ca) [] := by
  refine F.cal sc_marking (fun vs H Q E h => ?_) (fun f cdv A outer s H vs Q E hr h => ?_)
  · obtain ⟨g, y, rfl, _⟩ := h
    rfl
  · obtain ⟨g, y, rfl, hg, q⟩ := h
    refine ⟨_, (pss_one (ps_ret (pe_mkK0 c_mk3 hr (by decide) (by rfl) (pk_cons (pe_ix ix_list (pv 0) pe_int (fun _ _ => rfl)) (pk_cons (pe_ix ix_list (pv 0) pe_int (fun _ _ => rfl)) (pk_cons (pe_ix ix_list (pv 0) pe_int (fun _ _ => rfl)) pk_nil)))))), ?_⟩
    walk_at "go"
    refine ⟨rfl, rfl, use_mk fun m H' nm s1 hm => ?_⟩
    walk_at "go"
    exact q _ _ nm s1 hm
abbrev s_root : Stmt := (top 44)
theorem sc_root : FnScope ["_law_purse_here", "_law_size", "_law_some_here"] ["_law_purse_here", "_law_size"] (defScope s_root) :=
  ⟨rfl, rfl, rfl, by decide +kernel, rfl, by decide +kernel, by decide +kernel⟩
theorem ok_root (F : Dn K mg "_law_root" s_root ["_law_purse_here", "_law_size"]) (T : Bt mg) (c_draw : Cal P w K mg base 2 "_law_draw" spDraw []) (c_great : Cal P w K mg base 3 "_law_great" spGreat []) : Cal P w K mg base 4 "_law_root" spRoot [] := by
  refine F.cal sc_root (fun vs H Q E h => ?_) (fun f cdv A outer s H vs Q E hr h => ?_)
  · obtain ⟨a, n, c, rfl, _⟩ := h
    rfl
  · obtain ⟨a, n, c, rfl, n0, hc, p, k⟩ := h
    refine ⟨_, (pss_cons (ps_set (i := 2) sc_root.nd rfl (Or.inl rfl) (pe_lst (pa_cons (pe_c c_draw hr (by decide) (by rfl) (pa_cons (pv 0) (pa_cons pe_int pa_nil))) (pa_cons (pe_op op_sub pe_int (pe_c c_draw hr (by decide) (by rfl) (pa_cons (pv 0) (pa_cons pe_int pa_nil)))) (pa_cons (pv 1) (pa_cons (pe_op op_sub (pv 1) pe_int) (pa_cons (pe_op op_fdivW (pv 1) pe_int) (pa_cons (pe_c c_great hr (by decide) (by rfl) (pa_cons (pv 0) (pa_cons pe_int pa_nil))) pa_nil))))))))
      (pss_one (ps_ret (pe_ix ix_list (pv 2) (pe_c c_draw hr (by decide) (by rfl) (pa_cons (pv 0) (pa_cons pe_int pa_nil))) (fun _ _ => rfl))))), ?_⟩
    walk_at "go"
    refine use_draw p (by decide) (by decide) (by omega) (fun r1 H1 r10 r11 k1 p1 => ?_)
    walk_at "go"
    refine use_draw p1 (by decide) (by decide) (by omega) (fun r2 H2 r20 r21 k2 p2 => ?_)
    walk_at "go"
    refine use_great p2 (by omega) (by omega) (by omega) (fun g H3 g0 g1 k3 p3 => ?_)
    walk_at "go"
    intro q1 f1
    have s1 : Same H3 (upd H3 q1 (.lst (([r1, 0 - r2, n, n - 1, n / 2, g] : List Int).map V.int))) := Same.new f1
    have m1 := p3.fresh f1
    walk_at "go"
    refine use_draw (p3.same s1) (by decide) (by decide) (by omega) (fun r3 H4 r30 r31 k4 p4 => ?_)
    have h1 := k4.at_ m1 (upd_same (H := H3) (a := q1) (o := .lst (([r1, 0 - r2, n, n - 1, n / 2, g] : List Int).map V.int)))
    refine w_ixL (xs := ([r1, 0 - r2, n, n - 1, n / 2, g] : List Int).map V.int) (sq h1) (atI_ints r30 (by simpa using r31)) ?_
    walk_at "go"
    refine k _ _ ?_ (k1.trans (k2.trans (k3.trans ((Keep.of s1).trans k4)))) (p4.le (by omega))
    have hg : g < 10 ^ 40 := g1
    have hr : r3 = 0 ∨ r3 = 1 ∨ r3 = 2 ∨ r3 = 3 ∨ r3 = 4 ∨ r3 = 5 := by omega
    rcases hr with rfl | rfl | rfl | rfl | rfl | rfl
    · show r1.natAbs ≤ _; omega
    · show (0 - r2).natAbs ≤ _; omega
    · show n.natAbs ≤ _; omega
    · show (n - 1).natAbs ≤ _; omega
    · show (n / 2).natAbs ≤ _; omega
    · show g.natAbs ≤ _; omega

abbrev s_letters : Stmt := (top 47)
theorem sc_letters : FnScope ["_law_some_here", "_law_sign"] ["_law_some_here"] (defScope s_letters) :=
  ⟨rfl, rfl, rfl, by decide +kernel, rfl, by decide +kernel, by decide +kernel⟩
theorem ok_letters (F : Dn K mg "_law_letters" s_letters ["_law_some_here"]) (T : Bt mg) : Cal P w K mg base 1 "_law_letters" spLetters [] := by
  refine F.cal sc_letters (fun vs H Q E h => ?_) (fun f cdv A outer s H vs Q E hr h => ?_)
  · obtain ⟨v, ls, rfl, _⟩ := h
    rfl
  · obtain ⟨v, ls, rfl, tx, k⟩ := h
    refine ⟨_, (pss_one (ps_ret (pe_ifExp (pt_val (pe_callB call_isi (by rfl) T.isinstance (by decide +kernel) (pa_cons (pv 0) (pa_cons (pe_bltn (v := .ty "str") (by rfl) T.str (by decide +kernel) rfl) pa_nil)))) (pe_lc (own := [("_law_sign", 1)]) (g := gName 1) (tt := tYes) (te := (tCB _ (tCons (tVar 1) tNil))) rfl sc_letters.nd (pi_str (pv 0)) (blkOk_by (own := [("_law_sign", 1)]) (N := ["_law_some_here", "_law_sign"]) (sc := defScope s_letters) (by decide +kernel)) (fun _ _ _ _ _ => (pg_name (i := 1) sc_letters.nd rfl (Or.inl rfl))) (fun _ _ _ _ _ => pts_nil) (fun _ _ _ _ _ => (pe_callB cOrd (by rfl) T.ord (by decide +kernel) (pa_cons (pv 1) pa_nil)))) (pe_callTy cListOf (by rfl) T.list (by decide +kernel) (pa_cons (pv 0) pa_nil))))), ?_⟩
    cases tx with
    | str z hz hl =>
      walk_at "go"
      refine w_isi (b := true) (.base (.str z)) (kit_ty (by decide +kernel)) ?_
      walk_at "go"
      refine iteT ?_
      walk_at "go"
      intro D hD
      refine lc_pure (z.cps.toList.map fun c => V.str ⟨#[c]⟩) ((z.cps.toList.map Int.ofNat).map V.int) walk_strY hD (fun _ _ => trivial) (by simp) (by simp; exact hl) (fun _ => rfl) ?_ ?_
      · intro i x y H' hx hy sm Q' q'
        obtain ⟨c, hc, rfl⟩ := get_map hx
        obtain ⟨b, hb, rfl⟩ := get_map hy
        obtain ⟨d, hd, rfl⟩ := get_map hb
        rw [hc] at hd
        cases hd
        walk_at "go"
        exact q' _ (Same.refl _)
      · intro H' sm hH
        walk_at "go"
        exact k _ _ hD sm hH
    | lst a _ h l =>
      walk_at "go"
      refine w_isi (b := false) (.base (.lst h)) (kit_ty (by decide +kernel)) ?_
      walk_at "go"
      refine iteF ?_
      walk_at "go"
      refine w_listL (sq h) fun t ht => ?_
      walk_at "go"
      exact k _ _ ht (Same.new ht) upd_same
    | tup a _ h l =>
      walk_at "go"
      refine w_isi (b := false) (.base (.tup h)) (kit_ty (by decide +kernel)) ?_
      walk_at "go"
      refine iteF ?_
      walk_at "go"
      refine w_listT (sqt h) fun t ht => ?_
      walk_at "go"
      exact k _ _ ht (Same.new ht) upd_same

abbrev s_call : Stmt := (inClass (top 32) 3)
theorem sc_call : FnScope ["self", "text"] ["self", "text"] (defScope s_call) :=
  ⟨rfl, rfl, rfl, by decide +kernel, rfl, by decide +kernel, by decide +kernel⟩
theorem ok_call {c : CA} {f : Addr} {fd : FuncData} (F : FunD K "__call__" "Way.__call__" (defArgs s_call) (defBody s_call) (defScope s_call) [] [] f fd) (T : Bt mg) (X : Kx K mg c) (c_reqtext : Cal P w K mg base 3 "require_text" spRead []) (c_ofl : Met P w K mg base 2 c.wy "of_letters" (spOfLetters c) []) :
    FnOk P w K mg base L2.CX0 4 f fd ["self", "text"] (spMarkOf c) := by
  refine fnD_ok F sc_call (fun vs H Q E h => ?_) (fun cdv A outer s H vs Q E hr h => ?_)
  · obtain ⟨x, v, b, ps, y, ls, rfl, _⟩ := h
    rfl
  · obtain ⟨x, v, b, ps, y, ls, rfl, hw, tv, q⟩ := h
    obtain ⟨dx, m, k, hx, r⟩ := id hw
    refine ⟨_, (pss_one (ps_ret (pe_mt c_ofl hr (by decide) (pv 0) (pa_cons (pe_c c_reqtext hr (by decide) (by rfl) (pa_cons (pv 1) pa_nil)) pa_nil)))), ?_⟩
    walk_at "go"
    refine w_methi hx (wy_no (by decide +kernel) (by decide +kernel) (by decide +kernel) (by decide +kernel)) ?_
    walk_at "go"
    refine ⟨v, ls, rfl, tv, fun H1 t1 s1 h1 => ?_⟩
    walk_at "go"
    refine ⟨x, t1, b, ps, y, ls, rfl, hw.same s1, h1, tv.len, fun H3 s3 => ?_⟩
    walk_at "go"
    exact q _ (s1.trans s3)
abbrev s_clash : Stmt := (inClass (top 32) 5)
theorem sc_clash : FnScope ["self", "text", "other", "first", "second"] ["self", "text", "other"] (defScope s_clash) :=
  ⟨rfl, rfl, rfl, by decide +kernel, rfl, by decide +kernel, by decide +kernel⟩
theorem ok_clash {c : CA} {f : Addr} {fd : FuncData} (F : FunD K "clash" "Way.clash" (defArgs s_clash) (defBody s_clash) (defScope s_clash) [] [] f fd) (T : Bt mg) (X : Kx K mg c) (c_reqtext : Cal P w K mg base 3 "require_text" spRead []) (c_ofl : Met P w K mg base 2 c.wy "of_letters" (spOfLetters c) []) :
    FnOk P w K mg base L2.CX0 4 f fd ["self", "text", "other"] (spTwo c rClash) := by
  refine fnD_ok F sc_clash (fun vs H Q E h => ?_) (fun cdv A outer s H vs Q E hr h => ?_)
  · obtain ⟨x, v, u, b, ps, y, ls, ms, rfl, _⟩ := h
    rfl
  · obtain ⟨x, v, u, b, ps, y, ls, ms, rfl, hw, tv, tu, q⟩ := h
    refine ⟨_, (pss_cons (ps_par (i := 3) (j := 4) (by rfl) sc_clash.nd rfl rfl (by decide) rfl rfl (pa_cons (pe_c c_reqtext hr (by decide) (by rfl) (pa_cons (pv 1) pa_nil)) (pa_cons (pe_c c_reqtext hr (by decide) (by rfl) (pa_cons (pv 2) pa_nil)) pa_nil)) (by rfl))
      (pss_one (ps_ret (pe_and (pe_cmpR (op_neD hr.units) (pv 3) (pv 4) (nomark _)) (pe_one (pe_cmpR op_eq (pe_mt c_ofl hr (by decide) (pv 0) (pa_cons (pv 3) pa_nil)) (pe_mt c_ofl hr (by decide) (pv 0) (pa_cons (pv 4) pa_nil)) (nomark _))))))), ?_⟩
    walk_at "go"
    refine ⟨v, ls, rfl, tv, fun H1 t1 s1 h1 => ?_⟩
    walk_at "go"
    refine ⟨u, ms, rfl, tu.same s1, fun H2 t2 s2 h2 => ?_⟩
    walk_at "go"
    have s12 := s1.trans s2
    refine w_neTT (sqt (s2 _ _ h1)) (sqt h2) ?_
    walk_at "go"
    by_cases e : ls = ms
    · rw [decide_eq_true e]
      refine iteF ?_
      walk_at "go"
      have := q H2 s12
      unfold rClash at this
      rwa [show decide (ls ≠ ms) = false from decide_eq_false (fun z => z e)] at this
    · rw [decide_eq_false e]
      refine iteT ?_
      walk_at "go"
      obtain ⟨dx, m, k, hx, r⟩ := hw.same s12
      refine w_methi hx (wy_no (by decide +kernel) (by decide +kernel) (by decide +kernel) (by decide +kernel)) ?_
      walk_at "go"
      refine ⟨x, t1, b, ps, y, ls, rfl, ⟨dx, m, k, hx, r⟩, s2 _ _ h1, tv.len, fun H3 s3 => ?_⟩
      walk_at "go"
      obtain ⟨dx, m, k, hx, r⟩ := hw.same (s12.trans s3)
      refine w_methi hx (wy_no (by decide +kernel) (by decide +kernel) (by decide +kernel) (by decide +kernel)) ?_
      walk_at "go"
      refine ⟨x, t2, b, ps, y, ms, rfl, ⟨dx, m, k, hx, r⟩, s3 _ _ h2, tu.len, fun H4 s4 => ?_⟩
      walk_at "go"
      have := q H4 (s12.trans (s3.trans s4))
      unfold rClash at this
      rw [show decide (ls ≠ ms) = true from decide_eq_true e, Bool.true_and] at this
      rw [show decide (V.int (mark y b (num ps) ls) = V.int (mark y b (num ps) ms)) = decide (mark y b (num ps) ls = mark y b (num ps) ms) from by
        by_cases z : mark y b (num ps) ls = mark y b (num ps) ms
        · rw [decide_eq_true z, decide_eq_true (by rw [z])]
        · rw [decide_eq_false z, decide_eq_false (fun w => z (by injection w))]]
      exact this
abbrev s_reqway : Stmt := (top 33)
theorem sc_reqway : FnScope ["way"] ["way"] (defScope s_reqway) :=
  ⟨rfl, rfl, rfl, by decide +kernel, rfl, by decide +kernel, by decide +kernel⟩
theorem ok_reqway {c : CA} (F : Dn K mg "require_way" s_reqway ["way"]) (T : Bt mg) (X : Kx K mg c) : Cal P w K mg base 1 "require_way" (spReqWay c) [] := by
  refine F.cal sc_reqway (fun vs H Q E h => ?_) (fun f cdv A outer s H vs Q E hr h => ?_)
  · obtain ⟨m, dx, fs, rfl, _⟩ := h
    rfl
  · obtain ⟨m, dx, fs, rfl, hm, q⟩ := h
    refine ⟨_, (pss_one (ps_if (pt_not (pt_val (pe_callB call_isi (by rfl) T.isinstance (by decide +kernel) (pa_cons (pv 0) (pa_cons (pe_glob (v := .ref c.wy) (by rfl) X.mgWy rfl) pa_nil))))) (pss_one ps_never) pss_nil)), ?_⟩
    walk_at "go"
    refine w_isiC (X.wy.ty hm) kit_own ?_
    walk_at "go"
    refine iteF ?_
    walk_at "go"
    exact q

abbrev s_power : Stmt := (top 15)
theorem sc_power : FnScope ["base", "exponent", "number", "found", "factor"] ["base", "exponent", "number"] (defScope s_power) :=
  ⟨rfl, rfl, rfl, by decide +kernel, rfl, by decide +kernel, by decide +kernel⟩
theorem ok_power (F : Dn K mg "power_rest" s_power ["base", "exponent", "number"]) (T : Bt mg) : Cal P w K mg base 1 "power_rest" spPower [] := by
  refine F.cal sc_power (fun vs H Q E h => ?_) (fun f cdv A outer s H vs Q E hr h => ?_)
  · obtain ⟨b, e, n, B, rfl, _⟩ := h
    rfl
  · obtain ⟨b, e, n, B, rfl, e0, e1, hn, hB, hB2, q⟩ := h
    refine ⟨_, (pss_cons (ps_set (i := 3) sc_power.nd rfl (Or.inl rfl) (pe_op op_mod pe_int (pv 2)))
      (pss_cons (ps_set (i := 4) sc_power.nd rfl (Or.inl rfl) (pe_op op_mod (pv 0) (pv 2)))
      (pss_cons (ps_while PassesOwn.never (pt_cmpR op_gt (pv 1) pe_int (nomark _)) (pss_cons (ps_if (pt_cmpR op_eq (pe_op op_mod (pe_callTy cInt1 (by rfl) T.int (by decide +kernel) (pa_cons (pv 1) pa_nil)) pe_int) pe_int (nomark _)) (pss_one (ps_set (i := 3) sc_power.nd rfl (Or.inl rfl) (pe_op op_mod (pe_op oMul (pv 3) (pv 4)) (pv 2)))) pss_nil)
      (pss_cons (ps_set (i := 4) sc_power.nd rfl (Or.inl rfl) (pe_op op_mod (pe_op oMul (pv 4) (pv 4)) (pv 2)))
      (pss_one (ps_set (i := 1) sc_power.nd rfl (Or.inl rfl) (pe_op op_fdivW (pv 1) pe_int))))))
      (pss_one (ps_ret (pv 3)))))), ?_⟩
    walk_at "go"
    refine while_go (fun σ H' => ∃ g h x : Int, σ = [some (.int b), some (.int x), some (.int n), some (.int g), some (.int h)] ∧ (0 ≤ g ∧ g < n) ∧ (0 ≤ h ∧ h < n) ∧ (0 ≤ x ∧ x < 2 ^ 60) ∧ g * h ^ x.toNat % n = b ^ e.toNat % n ∧ H' = H) (fun σ _ => match σ with | [_, some (.int x), _, _, _] => x.toNat | _ => 0)
      ⟨_, _, e, rfl, ⟨Int.emod_nonneg _ (by omega), Int.emod_lt_of_pos _ hn⟩, ⟨Int.emod_nonneg _ (by omega), Int.emod_lt_of_pos _ hn⟩, ⟨e0, e1⟩, ?_, rfl⟩ ?_
    · have hp : ∀ k : Nat, (b % n) ^ k % n = b ^ k % n := fun k => by
        induction k with
        | zero => rw [Int.pow_zero, Int.pow_zero]
        | succ k ih => rw [Int.pow_succ, Int.pow_succ, Int.mul_emod, ih, Int.emod_emod_of_dvd _ (Int.dvd_refl n), ← Int.mul_emod]
      rw [Int.mul_emod, hp, Int.emod_emod_of_dvd _ (Int.dvd_refl n), ← Int.mul_emod, Int.one_mul]
    · rintro σ H' ⟨g, h, x, rfl, ⟨g0, g1⟩, ⟨h0, h1⟩, ⟨x0, x1⟩, hi, rfl⟩
      have bg := wide_le g0 (Int.le_of_lt g1) hB
      have bh := wide_le h0 (Int.le_of_lt h1) hB
      have m1 : CMx g h := mx_w bg bh (by omega)
      have m2 : CMx h h := mx_w bh bh (by omega)
      walk_at "go"
      refine ite_d (fun hx => ?_) (fun hx => ?_)
      · have hp := half_pow h x hx
        walk_at "go"
        rw [decI]
        refine ite_d (fun hodd => ?_) (fun hodd => ?_)
        · walk_at "go"
          refine ⟨?_, _, _, _, rfl, ⟨Int.emod_nonneg _ (by omega), Int.emod_lt_of_pos _ hn⟩, ⟨Int.emod_nonneg _ (by omega), Int.emod_lt_of_pos _ hn⟩, by omega, ?_, rfl⟩
          · show (x / 2).toNat < x.toNat
            omega
          · rw [← hi, hp, if_pos hodd, cg]
            have hq : ∀ k : Nat, (h * h % n) ^ k % n = (h * h) ^ k % n := fun k => by
              induction k with
              | zero => rw [Int.pow_zero, Int.pow_zero]
              | succ k ih => rw [Int.pow_succ, Int.pow_succ, Int.mul_emod, ih, Int.emod_emod_of_dvd _ (Int.dvd_refl n), ← Int.mul_emod]
            obtain ⟨k1, e1⟩ := cg.mp (hq (x / 2).toNat)
            obtain ⟨k2, e2⟩ := self_mod n (g * h)
            rw [e1, e2]
            generalize (h * h) ^ (x / 2).toNat = z
            exact ⟨g * h * k1 + k2 * z + n * k1 * k2, by grind⟩
        · walk_at "go"
          refine ⟨?_, _, _, _, rfl, ⟨g0, g1⟩, ⟨Int.emod_nonneg _ (by omega), Int.emod_lt_of_pos _ hn⟩, by omega, ?_, rfl⟩
          · show (x / 2).toNat < x.toNat
            omega
          · rw [← hi, hp, if_neg hodd, cg]
            have hq : ∀ k : Nat, (h * h % n) ^ k % n = (h * h) ^ k % n := fun k => by
              induction k with
              | zero => rw [Int.pow_zero, Int.pow_zero]
              | succ k ih => rw [Int.pow_succ, Int.pow_succ, Int.mul_emod, ih, Int.emod_emod_of_dvd _ (Int.dvd_refl n), ← Int.mul_emod]
            obtain ⟨k1, e1⟩ := cg.mp (hq (x / 2).toNat)
            rw [e1]
            generalize (h * h) ^ (x / 2).toNat = z
            exact ⟨g * k1, by grind⟩
      · have ex : x = 0 := by omega
        subst ex
        walk_at "go"
        have hi2 : g * 1 % n = b ^ e.toNat % n := by rw [← hi, show (0 : Int).toNat = 0 from rfl, Int.pow_zero]
        rw [Int.mul_one, Int.emod_eq_of_lt g0 g1] at hi2
        rw [hi2]
        exact q
abbrev s_reqlen : Stmt := (top 21)
theorem sc_reqlen : FnScope ["thing"] ["thing"] (defScope s_reqlen) :=
  ⟨rfl, rfl, rfl, by decide +kernel, rfl, by decide +kernel, by decide +kernel⟩
theorem ok_reqlen (F : Dn K mg "require_length" s_reqlen ["thing"]) (T : Bt mg) (c_isint : Cal P w K mg base 1 "is_integer" (spIsInt K) []) : Cal P w K mg base 2 "require_length" spReqLen [] := by
  refine F.cal sc_reqlen (fun vs H Q E h => ?_) (fun f cdv A outer s H vs Q E hr h => ?_)
  · obtain ⟨n, rfl, _⟩ := h
    rfl
  · obtain ⟨n, rfl, n0, q⟩ := h
    refine ⟨_, (pss_one (ps_if (PW.pt (pw_or (pt_not (pt_val (pe_c c_isint hr (by decide) (by rfl) (pa_cons (pv 0) pa_nil)))) (pw_or1 (pt_cmpR op_lt (pv 0) pe_int (nomark _))))) (pss_one ps_never) pss_nil)), ?_⟩
    walk_at "go"
    refine use_isInt ?_
    walk_at "go"
    refine iteF ?_
    walk_at "go"
    refine ite_d (fun h => by omega) (fun h => ?_)
    walk_at "go"
    exact q
abbrev s_reqplace : Stmt := (top 22)
theorem sc_reqplace : FnScope ["thing", "first", "last"] ["thing", "first", "last"] (defScope s_reqplace) :=
  ⟨rfl, rfl, rfl, by decide +kernel, rfl, by decide +kernel, by decide +kernel⟩
theorem ok_reqplace (F : Dn K mg "require_place" s_reqplace ["thing", "first", "last"]) (T : Bt mg) (c_isint : Cal P w K mg base 1 "is_integer" (spIsInt K) []) : Cal P w K mg base 2 "require_place" spReqPlace [] := by
  refine F.cal sc_reqplace (fun vs H Q E h => ?_) (fun f cdv A outer s H vs Q E hr h => ?_)
  · obtain ⟨n, a, l, rfl, _⟩ := h
    rfl
  · obtain ⟨n, a, l, rfl, n0, n1, q⟩ := h
    refine ⟨_, (pss_one (ps_if (PW.pt (pw_or (pt_not (pt_val (pe_c c_isint hr (by decide) (by rfl) (pa_cons (pv 0) pa_nil)))) (pw_or1 (pt_not (pt_chain op_le op_le (pv 1) (pv 0) (pv 2)))))) (pss_one ps_never) pss_nil)), ?_⟩
    walk_at "go"
    refine use_isInt ?_
    walk_at "go"
    refine iteF ?_
    walk_at "go"
    refine ite_d (fun _ => ?_) (fun h => absurd n0 h)
    walk_at "go"
    rw [decide_eq_true n1]
    refine iteF ?_
    walk_at "go"
    exact q
abbrev s_reqletter : Stmt := (top 23)
theorem sc_reqletter : FnScope ["thing"] ["thing"] (defScope s_reqletter) :=
  ⟨rfl, rfl, rfl, by decide +kernel, rfl, by decide +kernel, by decide +kernel⟩
theorem ok_reqletter (F : Dn K mg "require_letter" s_reqletter ["thing"]) (T : Bt mg) (c_isint : Cal P w K mg base 1 "is_integer" (spIsInt K) []) : Cal P w K mg base 2 "require_letter" spReqLetter [] := by
  refine F.cal sc_reqletter (fun vs H Q E h => ?_) (fun f cdv A outer s H vs Q E hr h => ?_)
  · obtain ⟨n, rfl, _⟩ := h
    rfl
  · obtain ⟨n, rfl, q⟩ := h
    refine ⟨_, (pss_one (ps_if (pt_not (pt_val (pe_c c_isint hr (by decide) (by rfl) (pa_cons (pv 0) pa_nil)))) (pss_one ps_never) pss_nil)), ?_⟩
    walk_at "go"
    refine use_isInt ?_
    walk_at "go"
    refine iteF ?_
    walk_at "go"
    exact q
abbrev s_eqmd : Stmt := (inClass (top 26) 1)
theorem sc_eqmd : FnScope ["self", "other"] ["self", "other"] (defScope s_eqmd) :=
  ⟨rfl, rfl, rfl, by decide +kernel, rfl, by decide +kernel, by decide +kernel⟩
theorem ok_eqmd {c : CA} {f : Addr} {fd : FuncData} (F : FunD K "__eq__" "Modulus.__eq__" (defArgs s_eqmd) (defBody s_eqmd) (defScope s_eqmd) [] [] f fd) (T : Bt mg) (X : Kx K mg c) : FnOk P w K mg base L2.CX0 1 f fd ["self", "other"] (spEqMd K c) := by
  refine fnD_ok F sc_eqmd (fun vs H Q E h => ?_) (fun cdv A outer s H vs Q E hr h => ?_)
  · obtain ⟨a, v, ps, rfl, _⟩ := h
    rfl
  · obtain ⟨a, v, ps, rfl, hm, h⟩ := h
    refine ⟨_, (pss_one (ps_ret (pe_and (pe_callB call_isiE (by rfl) T.isinstance (by decide +kernel) (pa_cons (pv 1) (pa_cons (pe_glob (v := .ref c.md) (by rfl) X.mgMd rfl) pa_nil))) (pe_one (pe_cmpR op_eq (pe_fld (pv 0) rfl) (pe_fld (pv 1) rfl) (nomark _)))))), ?_⟩
    walk_at "go"
    rcases h with ⟨t, ty, hk, q⟩ | ⟨b, ps', rfl, hm', q⟩
    · refine w_isiE ty hk ?_
      walk_at "go"
      refine iteF ?_
      exact q
    · obtain ⟨dx, tt, ts, hx, _⟩ := id hm'
      refine w_isiE (.x (X.md.ty hx)) kit_own ?_
      walk_at "go"
      refine iteT ?_
      walk_at "go"
      rw [decI]
      exact q
abbrev s_eqmk : Stmt := (inClass (top 29) 1)
theorem sc_eqmk : FnScope ["self", "other"] ["self", "other"] (defScope s_eqmk) :=
  ⟨rfl, rfl, rfl, by decide +kernel, rfl, by decide +kernel, by decide +kernel⟩
theorem ok_eqmk {c : CA} {f : Addr} {fd : FuncData} (F : FunD K "__eq__" "Marking.__eq__" (defArgs s_eqmk) (defBody s_eqmk) (defScope s_eqmk) [] [] f fd) (T : Bt mg) (X : Kx K mg c) : FnOk P w K mg base L2.CX0 1 f fd ["self", "other"] (spEqMk K c) := by
  refine fnD_ok F sc_eqmk (fun vs H Q E h => ?_) (fun cdv A outer s H vs Q E hr h => ?_)
  · obtain ⟨a, v, y, rfl, _⟩ := h
    rfl
  · obtain ⟨a, v, y, rfl, hm, h⟩ := h
    refine ⟨_, (pss_cons (ps_if (pt_not (pt_val (pe_callB call_isiE (by rfl) T.isinstance (by decide +kernel) (pa_cons (pv 1) (pa_cons (pe_glob (v := .ref c.kg) (by rfl) X.mgMk rfl) pa_nil))))) (pss_one (ps_ret pe_bl)) pss_nil)
      (pss_one (ps_ret (pe_cmpR (op_eqD hr.units) (pe_tup (pa_cons (pe_fld (pv 0) rfl) (pa_cons (pe_fld (pv 0) rfl) (pa_cons (pe_fld (pv 0) rfl) pa_nil)))) (pe_tup (pa_cons (pe_fld (pv 1) rfl) (pa_cons (pe_fld (pv 1) rfl) (pa_cons (pe_fld (pv 1) rfl) pa_nil)))) (nomark _))))), ?_⟩
    walk_at "go"
    rcases h with ⟨t, ty, hk, q⟩ | ⟨b, y', rfl, hm', q⟩
    · refine w_isiE ty hk ?_
      walk_at "go"
      refine iteT ?_
      walk_at "go"
      exact q
    · obtain ⟨dx, hx⟩ := id hm'
      refine w_isiE (.x (X.kg.ty hx)) kit_own ?_
      walk_at "go"
      refine iteF ?_
      walk_at "go"
      refine al fun p1 H1 n1 s1 h1 => ?_
      walk_at "go"
      refine al fun p2 H2 n2 s2 h2 => ?_
      walk_at "go"
      refine ⟨_, _, .tup (sqt (s2 _ _ h1)) (.cons (.bl _) (.cons (.int _) (.cons (.bl _) .nil))), .tup (sqt h2) (.cons (.bl _) (.cons (.int _) (.cons (.bl _) .nil))), shp_sty _ _ _, shp_sty _ _ _, ?_⟩
      rw [eqv_sty]
      exact q _ (s1.trans s2)
abbrev s_eqwy : Stmt := (inClass (top 32) 1)
theorem sc_eqwy : FnScope ["self", "other"] ["self", "other"] (defScope s_eqwy) :=
  ⟨rfl, rfl, rfl, by decide +kernel, rfl, by decide +kernel, by decide +kernel⟩
theorem ok_eqwy {c : CA} {f : Addr} {fd : FuncData} (F : FunD K "__eq__" "Way.__eq__" (defArgs s_eqwy) (defBody s_eqwy) (defScope s_eqwy) [] [] f fd) (T : Bt mg) (X : Kx K mg c) (q_eqmk : EqO P w K mg base 1 c.kg (spEqMk K c)) : FnOk P w K mg base L2.CX0 3 f fd ["self", "other"] (spEqWy K c) := by
  refine fnD_ok F sc_eqwy (fun vs H Q E h => ?_) (fun cdv A outer s H vs Q E hr h => ?_)
  · obtain ⟨a, v, r, ps, y, rfl, _⟩ := h
    rfl
  · obtain ⟨a, v, r, ps, y, rfl, hm, h⟩ := h
    refine ⟨_, (pss_cons (ps_if (pt_not (pt_val (pe_callB call_isiE (by rfl) T.isinstance (by decide +kernel) (pa_cons (pv 1) (pa_cons (pe_glob (v := .ref c.wy) (by rfl) X.mgWy rfl) pa_nil))))) (pss_one (ps_ret pe_bl)) pss_nil)
      (pss_one (ps_ret (pe_and (pe_cmpR (op_eqD hr.units) (pe_tup (pa_cons (pe_fld (pv 0) rfl) (pa_cons (pe_fld (pv 0) rfl) pa_nil))) (pe_tup (pa_cons (pe_fld (pv 1) rfl) (pa_cons (pe_fld (pv 1) rfl) pa_nil))) (nomark _)) (pe_one (pe_cmpR (op_eqO q_eqmk hr (by decide)) (pe_fld (pv 0) rfl) (pe_fld (pv 1) rfl) (nomark _))))))), ?_⟩
    walk_at "go"
    rcases h with ⟨t, ty, hk, q⟩ | ⟨b, r', ps', y', rfl, hm', q⟩
    · refine w_isiE ty hk ?_
      walk_at "go"
      refine iteT ?_
      walk_at "go"
      exact q
    · obtain ⟨dx, m, k, hx, _⟩ := id hm'
      refine w_isiE (.x (X.wy.ty hx)) kit_own ?_
      walk_at "go"
      refine iteF ?_
      walk_at "go"
      refine al fun p1 H1 n1 s1 h1 => ?_
      walk_at "go"
      refine al fun p2 H2 n2 s2 h2 => ?_
      walk_at "go"
      refine ⟨_, _, .tup (sqt (s2 _ _ h1)) (.cons (.int _) (.cons (.int _) .nil)), .tup (sqt h2) (.cons (.int _) (.cons (.int _) .nil)), shp_two _ _, shp_two _ _, ?_⟩
      rw [eqv_two]
      walk_at "go"
      have S := s1.trans s2
      unfold eqWay at q
      cases hb : (decide (r = r') && decide (num ps = num ps')) with
      | false =>
        refine iteF ?_
        rw [hb] at q
        exact q _ S
      | true =>
        refine iteT ?_
        rw [hb] at q
        walk_at "go"
        rename_i k1 k2 k3 k4
        refine eqMk X (by walk_at "hp") (by walk_at "hp") fun H3 s3 => ?_
        exact q _ (S.trans s3)

abbrev s_kpinit : Stmt := (inClass (top 35) 0)
theorem sc_kpinit : FnScope ["self", "text", "way"] ["self", "text", "way"] (defScope s_kpinit) :=
  ⟨rfl, rfl, rfl, by decide +kernel, rfl, by decide +kernel, by decide +kernel⟩
theorem ok_kpinit {c : CA} {Ck : Addr} {f : Addr} {fd : FuncData} (F : FunD K "__init__" "Kept.__init__" (defArgs s_kpinit) (defBody s_kpinit) (defScope s_kpinit) [] [] f fd) (T : Bt mg) (X : Kx K mg c) (KP : KpK K mg Ck) (hne : ∀ z ∈ [c.wy, c.md, c.kg], z ≠ Ck) (c_reqtext : Cal P w K mg base 3 "require_text" spRead []) (c_reqway : Cal P w K mg base 1 "require_way" (spReqWay c) []) :
    FnOk P w K mg base L2.CX0 4 f fd ["self", "text", "way"] (spKnInit c Ck) := by
  refine fnD_ok F sc_kpinit (fun vs H Q E h => ?_) (fun cdv A outer s H vs Q E hr h => ?_)
  · obtain ⟨x, dx, v, w, ls, b, ps, y, rfl, _⟩ := h
    rfl
  · obtain ⟨x, dx, v, wy, ls, b, ps, y, rfl, hx, tx, hl, hw, q⟩ := h
    refine ⟨_, (pss_cons (ps_fld (pv 0) (pe_callTy cListOf (by rfl) T.list (by decide +kernel) (pa_cons (pe_c c_reqtext hr (by decide) (by rfl) (pa_cons (pv 1) pa_nil)) pa_nil)) rfl)
      (pss_cons (ps_expr (pe_c c_reqway hr (by decide) (by rfl) (pa_cons (pv 2) pa_nil)))
      (pss_cons (ps_fld (pv 0) (pv 2) rfl)
      (pss_cons (ps_fld (pv 0) (pe_lst pa_nil) rfl)
      (pss_one (ps_fld (pv 0) pe_non rfl)))))), ?_⟩
    walk_at "go"
    refine ⟨v, ls, rfl, tx, fun H1 t s1 h1 => ?_⟩
    walk_at "go"
    refine w_listT (sqt h1) (al fun l H2 n2 s2 h2 => ?_)
    have hx2 := s2 _ _ (s1 _ _ hx)
    have nlx : l ≠ x := fun e => by rw [e, s1 _ _ hx] at n2; cases n2
    walk_at "go"
    refine w_sfldi hx2 KP.kp.cl KP.letters (by decide) ?_
    have S3 : Same (rm x H) (rm x (upd H2 x (.ins Ck dx (putF "letters" (.ref l) [])))) := fun b o hb => by
      have nb : b ≠ x := fun e => by rw [e] at hb; unfold rm at hb; rw [if_pos rfl] at hb; cases hb
      exact rm_of nb (by rw [upd_ne nb]; exact s2 _ _ (s1 _ _ (rm_le _ _ hb)))
    have hx3 : upd H2 x (.ins Ck dx (putF "letters" (.ref l) [])) x = some (.ins Ck dx (putF "letters" (.ref l) [])) := upd_same
    have hl3 : upd H2 x (.ins Ck dx (putF "letters" (.ref l) [])) l = some (.lst (ls.map V.int)) := by rw [upd_ne nlx]; exact h2
    have nl : H l = none := s1.free n2
    generalize upd H2 x (.ins Ck dx (putF "letters" (.ref l) [])) = H3 at S3 hx3 hl3 ⊢
    clear hx2 h2 s2 n2 h1
    walk_at "go"
    have hw3 := (hw.same S3).same rm_le
    refine use_reqway hw3 ?_
    walk_at "go"
    refine w_sfldi hx3 KP.kp.cl KP.way (by show 1 < 1000; decide) ?_
    walk_at "go"
    refine al fun p H4 n4 s4 h4 => ?_
    have npx : p ≠ x := fun e => by rw [e, upd_same] at n4; cases n4
    have npl : l ≠ p := fun e => by rw [← e, upd_ne nlx, hl3] at n4; cases n4
    walk_at "go"
    refine w_sfldi (s4 _ _ upd_same) KP.kp.cl KP.past (by rw [put0, putS (by decide +kernel)]; show 2 < 1000; decide) ?_
    walk_at "go"
    refine w_sfldi upd_same KP.kp.cl KP.rests (by rw [put0, putS (by decide +kernel), put0, putS (by decide +kernel), putS (by decide +kernel)]; show 3 < 1000; decide) ?_
    walk_at "go"
    have npH : H p = none := by
      rw [upd_ne npx] at n4
      have h0 : rm x H3 p = none := by unfold rm; rw [if_neg npx]; exact n4
      have := S3.free h0
      unfold rm at this
      rwa [if_neg npx] at this
    have S5 : Same (rm x H3) (rm x (upd (upd H4 x (.ins Ck dx (putF "past" (.ref p) (putF "way" (.ref wy) (putF "letters" (.ref l) []))))) x (.ins Ck dx (putF "rests" .non (putF "past" (.ref p) (putF "way" (.ref wy) (putF "letters" (.ref l) []))))))) := fun b o hb => by
      have nb : b ≠ x := fun e => by rw [e] at hb; unfold rm at hb; rw [if_pos rfl] at hb; cases hb
      exact rm_of nb (by rw [upd_ne nb, upd_ne nb]; exact s4 _ _ (by rw [upd_ne nb]; exact rm_le _ _ hb))
    refine q ⟨x, dx, l, p, wy⟩ _ rfl rfl rfl nl npH (S3.trans S5) ⟨⟨.non, ?_, .inl rfl⟩, ?_, ⟨[], ?_, .nil⟩, ((hw.same S3).same S5).same rm_le, npl, hl, Nat.zero_le _⟩ ?_
    · rw [upd_same, kp_put4]
    · rw [upd_ne nlx, upd_ne nlx]
      exact s4 _ _ (by rw [upd_ne nlx]; exact hl3)
    · rw [upd_ne npx, upd_ne npx]
      exact h4
    · rw [upd_same, kp_put4]
abbrev s_kptext : Stmt := (inClass (top 35) 1)
theorem sc_kptext : FnScope ["self"] ["self"] (defScope s_kptext) :=
  ⟨rfl, rfl, rfl, by decide +kernel, rfl, by decide +kernel, by decide +kernel⟩
theorem ok_kptext {c : CA} {Ck : Addr} {f : Addr} {fd : FuncData} (F : FunD K "text" "Kept.text" (defArgs s_kptext) (defBody s_kptext) (defScope s_kptext) [] [] f fd) (T : Bt mg) (KP : KpK K mg Ck) : FnOk P w K mg base L2.CX0 1 f fd ["self"] (spKpText c Ck) := by
  refine fnD_ok F sc_kptext (fun vs H Q E h => ?_) (fun cdv A outer s H vs Q E hr h => ?_)
  · obtain ⟨A, b, ps, y, ls, past, rfl, _⟩ := h
    rfl
  · obtain ⟨A, b, ps, y, ls, past, rfl, hk, q⟩ := h
    refine ⟨_, (pss_one (ps_ret (pe_callTy cTupOf (by rfl) T.tuple (by decide +kernel) (pa_cons (pe_fld (pv 0) rfl) pa_nil)))), ?_⟩
    walk_at "go"
    refine w_tupL (sq hk.ltr) (al fun t H1 n1 s1 h1 => ?_)
    walk_at "go"
    exact q t _ n1 s1 h1
abbrev s_kplen : Stmt := (inClass (top 35) 2)
theorem sc_kplen : FnScope ["self"] ["self"] (defScope s_kplen) :=
  ⟨rfl, rfl, rfl, by decide +kernel, rfl, by decide +kernel, by decide +kernel⟩
theorem ok_kplen {c : CA} {Ck : Addr} {f : Addr} {fd : FuncData} (F : FunD K "__len__" "Kept.__len__" (defArgs s_kplen) (defBody s_kplen) (defScope s_kplen) [] [] f fd) (T : Bt mg) (KP : KpK K mg Ck) : FnOk P w K mg base L2.CX0 1 f fd ["self"] (spKpLen c Ck) := by
  refine fnD_ok F sc_kplen (fun vs H Q E h => ?_) (fun cdv A outer s H vs Q E hr h => ?_)
  · obtain ⟨A, b, ps, y, ls, past, rfl, _⟩ := h
    rfl
  · obtain ⟨A, b, ps, y, ls, past, rfl, hk, q⟩ := h
    refine ⟨_, (pss_one (ps_ret (pe_callB cLen (by rfl) T.len (by decide +kernel) (pa_cons (pe_fld (pv 0) rfl) pa_nil)))), ?_⟩
    walk_at "go"
    refine w_len (sq hk.ltr) ?_
    walk_at "go"
    rw [List.length_map]
    exact q
abbrev s_kpput : Stmt := (inClass (top 35) 7)
theorem sc_kpput : FnScope ["self", "first", "last", "letters"] ["self", "first", "last", "letters"] (defScope s_kpput) :=
  ⟨rfl, rfl, rfl, by decide +kernel, rfl, by decide +kernel, by decide +kernel⟩
theorem ok_kpput {c : CA} {Ck : Addr} {f : Addr} {fd : FuncData} (F : FunD K "put" "Kept.put" (defArgs s_kpput) (defBody s_kpput) (defScope s_kpput) [] [] f fd) (T : Bt mg) (KP : KpK K mg Ck) (hne : ∀ z ∈ [c.wy, c.md, c.kg], z ≠ Ck) : FnOk P w K mg base L2.CX0 1 f fd ["self", "first", "last", "letters"] (spKpPut c Ck) := by
  refine fnD_ok F sc_kpput (fun vs H Q E h => ?_) (fun cdv A outer s H vs Q E hr h => ?_)
  · obtain ⟨A, b, ps, y, ls, past, i, j, m, ms, rfl, _⟩ := h
    rfl
  · obtain ⟨A, b, ps, y, ls, past, i, j, m, ms, rfl, hk, hpz, hz, hm, ml, mp, ij, jl, q⟩ := h
    refine ⟨_, (pss_cons (ps_expr (pe_bm PySem.F.plainAttrs_list PySem.F.slot_list_append PySem.F.type_list_append mt_append (pe_fld (pv 0) rfl) (pa_cons (pe_tup (pa_cons (pv 1) (pa_cons (pe_op op_add (pv 1) (pe_callB cLen (by rfl) T.len (by decide +kernel) (pa_cons (pv 3) pa_nil))) (pa_cons (pe_slice sl_list (pe_fld (pv 0) rfl) (po_some (pv 1)) (po_some (pv 2))) pa_nil)))) pa_nil)))
      (pss_cons (ps_asg (pv 3) (pg_slc (pe_fld (pv 0) rfl) (po_some (pv 1)) (po_some (pv 2))))
      (pss_one (ps_fld (pv 0) pe_non rfl)))), ?_⟩
    obtain ⟨ts0, hts0, _⟩ := id hk.pst
    walk_at "go"
    refine w_slL (sq hk.ltr) (al fun z H1 n1 s1 h1 => ?_)
    rw [cut_ij ls ij jl] at h1
    walk_at "go"
    refine al fun t H2 n2 s2 h2 => ?_
    have h1 := s2 _ _ h1
    have hk2 := hk.same (s1.trans s2)
    obtain ⟨ts, hts, pts⟩ := hk2.pst
    have hlen := pts.length
    walk_at "go"
    refine w_append hts (sz (by rw [List.length_map]; omega)) ?_
    have nzl : z ≠ A.l := fun e => by rw [e, hk.ltr] at n1; cases n1
    have nzp : z ≠ A.p := fun e => by
      obtain ⟨ts, hts, _⟩ := hk.pst
      rw [e, hts] at n1
      cases n1
    obtain ⟨o3, hk3⟩ := hk2.push (q := ⟨i, i + ms.length, (ls.take j).drop i⟩) hne hts pts ⟨z, by rw [h2, List.length_map, Int.natCast_add], h1, nzl, nzp⟩ hpz
    have hm3 : upd H2 A.p (.lst (ts.map V.ref ++ [.ref t])) m = some (.lst (ms.map V.int)) := by rw [upd_ne mp]; exact s2 _ _ (s1 _ _ hm)
    generalize upd H2 A.p (.lst (ts.map V.ref ++ [.ref t])) = H3 at o3 hk3 hm3 ⊢
    walk_at "go"
    refine ⟨A.l, m, ls.map V.int, ms.map V.int, i, j, rfl, rfl, rfl, rfl, hk3.ltr, hm3, ml.symm, by omega, by omega, by rw [List.length_map]; omega, by rw [List.length_map, List.length_map]; omega, ?_⟩
    rw [Int.toNat_natCast, Int.toNat_natCast, ← List.map_take, ← List.map_drop, ← List.map_append, ← List.map_append]
    walk_at "go"
    obtain ⟨r, hi, _⟩ := hk3.ins
    refine w_sfldi (by rw [upd_ne hk3.kl]; exact hi) KP.kp.cl KP.rests (by show 4 < 1000; decide) ?_
    rw [put_rests]
    walk_at "go"
    have hz4 : (ls.take i ++ ms ++ ls.drop j).length ≤ 1000 := by
      simp only [List.length_append, List.length_take, List.length_drop]
      omega
    obtain ⟨o4, hk4⟩ := hk3.setl (ls' := ls.take i ++ ms ++ ls.drop j) hne hz4
    exact q _ (Off.trans (Off.of (s1.trans s2)) (o3.trans o4)) hk4
abbrev s_kpget : Stmt := (inClass (top 35) 3)
theorem sc_kpget : FnScope ["self", "place"] ["self", "place"] (defScope s_kpget) :=
  ⟨rfl, rfl, rfl, by decide +kernel, rfl, by decide +kernel, by decide +kernel⟩
theorem ok_kpget {c : CA} {Ck : Addr} {f : Addr} {fd : FuncData} (F : FunD K "__getitem__" "Kept.__getitem__" (defArgs s_kpget) (defBody s_kpget) (defScope s_kpget) [] [] f fd) (T : Bt mg) (KP : KpK K mg Ck) (c_reqplace : Cal P w K mg base 2 "require_place" spReqPlace []) : FnOk P w K mg base L2.CX0 3 f fd ["self", "place"] (spKnGet c Ck) := by
  refine fnD_ok F sc_kpget (fun vs H Q E h => ?_) (fun cdv A outer s H vs Q E hr h => ?_)
  · obtain ⟨A, b, ps, y, ls, past, m, z, rfl, _⟩ := h
    rfl
  · obtain ⟨A, b, ps, y, ls, past, m, z, rfl, hk, hm, q⟩ := h
    have hm1 : m < ls.length := (List.getElem?_eq_some_iff.mp hm).1
    refine ⟨_, (pss_cons (ps_expr (pe_c c_reqplace hr (by decide) (by rfl) (pa_cons (pv 1) (pa_cons pe_int (pa_cons (pe_op op_sub (pe_callB cLen (by rfl) T.len (by decide +kernel) (pa_cons (pe_fld (pv 0) rfl) pa_nil)) pe_int) pa_nil)))))
      (pss_one (ps_ret (pe_ix ix_list (pe_fld (pv 0) rfl) (pv 1) (fun _ _ => rfl))))), ?_⟩
    have hl := hk.ltr
    walk_at "go"
    rw [List.length_map]
    refine ⟨_, _, _, rfl, by omega, by omega, ?_⟩
    walk_at "go"
    refine w_ixL (sq hl) (atI_nat (by rw [List.getElem?_map, hm]; rfl)) ?_
    walk_at "go"
    exact q
abbrev s_kpset : Stmt := (inClass (top 35) 5)
theorem sc_kpset : FnScope ["self", "place", "letter"] ["self", "place", "letter"] (defScope s_kpset) :=
  ⟨rfl, rfl, rfl, by decide +kernel, rfl, by decide +kernel, by decide +kernel⟩
theorem ok_kpset {c : CA} {Ck : Addr} {f : Addr} {fd : FuncData} (F : FunD K "__setitem__" "Kept.__setitem__" (defArgs s_kpset) (defBody s_kpset) (defScope s_kpset) [] [] f fd) (T : Bt mg) (KP : KpK K mg Ck) (c_reqplace : Cal P w K mg base 2 "require_place" spReqPlace []) (c_reqletter : Cal P w K mg base 2 "require_letter" spReqLetter []) (c_kpput : Met P w K mg base 1 Ck "put" (spKpPut c Ck) []) : FnOk P w K mg base L2.CX0 3 f fd ["self", "place", "letter"] (spKnSet c Ck) := by
  refine fnD_ok F sc_kpset (fun vs H Q E h => ?_) (fun cdv A outer s H vs Q E hr h => ?_)
  · obtain ⟨A, b, ps, y, ls, past, m, z, rfl, _⟩ := h
    rfl
  · obtain ⟨A, b, ps, y, ls, past, m, z, rfl, hk, hpz, hlz, hm, q⟩ := h
    refine ⟨_, (pss_cons (ps_expr (pe_c c_reqplace hr (by decide) (by rfl) (pa_cons (pv 1) (pa_cons pe_int (pa_cons (pe_op op_sub (pe_callB cLen (by rfl) T.len (by decide +kernel) (pa_cons (pe_fld (pv 0) rfl) pa_nil)) pe_int) pa_nil)))))
      (pss_cons (ps_expr (pe_c c_reqletter hr (by decide) (by rfl) (pa_cons (pv 2) pa_nil)))
      (pss_one (ps_expr (pe_mt c_kpput hr (by decide) (pv 0) (pa_cons (pv 1) (pa_cons (pe_op op_add (pv 1) pe_int) (pa_cons (pe_lst (pa_cons (pv 2) pa_nil)) pa_nil)))))))), ?_⟩
    have hl := hk.ltr
    walk_at "go"
    rw [List.length_map]
    refine ⟨_, _, _, rfl, by omega, by omega, ?_⟩
    walk_at "go"
    refine ⟨_, rfl, ?_⟩
    walk_at "go"
    refine w_insP hk ?_
    walk_at "go"
    refine al fun t H1 n1 s1 h1 => ?_
    have hk1 := hk.same s1
    obtain ⟨ts, hts, _⟩ := hk1.pst
    walk_at "go"
    refine ⟨A, b, ps, y, ls, past, m, m + 1, t, [z], by rw [Int.natCast_add]; rfl, hk1, hpz, by rw [List.length_singleton]; omega, h1, fun e => ?_, fun e => ?_, by omega, by omega, fun H2 o2 hk2 => ?_⟩
    · rw [e, hk.ltr] at n1; cases n1
    · obtain ⟨ts, hts, _⟩ := hk.pst
      rw [e, hts] at n1
      cases n1
    walk_at "go"
    exact q _ ((Off.of s1).trans o2) hk2
abbrev s_kpiadd : Stmt := (inClass (top 35) 6)
theorem sc_kpiadd : FnScope ["self", "text"] ["self", "text"] (defScope s_kpiadd) :=
  ⟨rfl, rfl, rfl, by decide +kernel, rfl, by decide +kernel, by decide +kernel⟩
theorem ok_kpiadd {c : CA} {Ck : Addr} {f : Addr} {fd : FuncData} (F : FunD K "__iadd__" "Kept.__iadd__" (defArgs s_kpiadd) (defBody s_kpiadd) (defScope s_kpiadd) [] [] f fd) (T : Bt mg) (KP : KpK K mg Ck) (c_reqtext : Cal P w K mg base 3 "require_text" spRead []) (c_kpput : Met P w K mg base 1 Ck "put" (spKpPut c Ck) []) : FnOk P w K mg base L2.CX0 4 f fd ["self", "text"] (spKnIadd c Ck) := by
  refine fnD_ok F sc_kpiadd (fun vs H Q E h => ?_) (fun cdv A outer s H vs Q E hr h => ?_)
  · obtain ⟨A, b, ps, y, ls, past, v, ms, rfl, _⟩ := h
    rfl
  · obtain ⟨A, b, ps, y, ls, past, v, ms, rfl, hk, hpz, tx, hz, q⟩ := h
    refine ⟨_, (pss_cons (ps_expr (pe_mt c_kpput hr (by decide) (pv 0) (pa_cons (pe_callB cLen (by rfl) T.len (by decide +kernel) (pa_cons (pe_fld (pv 0) rfl) pa_nil)) (pa_cons (pe_callB cLen (by rfl) T.len (by decide +kernel) (pa_cons (pe_fld (pv 0) rfl) pa_nil)) (pa_cons (pe_callTy cListOf (by rfl) T.list (by decide +kernel) (pa_cons (pe_c c_reqtext hr (by decide) (by rfl) (pa_cons (pv 1) pa_nil)) pa_nil)) pa_nil)))))
      (pss_one (ps_ret (pv 0)))), ?_⟩
    have hl := hk.ltr
    walk_at "go"
    refine w_insP hk ?_
    walk_at "go"
    rw [List.length_map]
    refine ⟨v, ms, rfl, tx, fun H1 t s1 h1 => ?_⟩
    walk_at "go"
    refine w_listT (sqt h1) (al fun l H2 n2 s2 h2 => ?_)
    have hk2 := hk.same (s1.trans s2)
    have n0 : H l = none := s1.free n2
    walk_at "go"
    refine ⟨A, b, ps, y, ls, past, ls.length, ls.length, l, ms, rfl, hk2, hpz, hz, h2, fun e => ?_, fun e => ?_, Nat.le_refl _, Nat.le_refl _, fun H3 o3 hk3 => ?_⟩
    · rw [e, hk.ltr] at n0; cases n0
    · obtain ⟨ts, hts, _⟩ := hk.pst
      rw [e, hts] at n0
      cases n0
    walk_at "go"
    exact q _ (Off.trans (Off.of (s1.trans s2)) o3) hk3
abbrev s_kpstr : Stmt := (inClass (top 35) 10)
theorem sc_kpstr : FnScope ["self", "first", "last"] ["self", "first", "last"] (defScope s_kpstr) :=
  ⟨rfl, rfl, rfl, by decide +kernel, rfl, by decide +kernel, by decide +kernel⟩
theorem ok_kpstr {c : CA} {Ck : Addr} {f : Addr} {fd : FuncData} (F : FunD K "require_stretch" "Kept.require_stretch" (defArgs s_kpstr) (defBody s_kpstr) (defScope s_kpstr) [] [] f fd) (T : Bt mg) (KP : KpK K mg Ck) (c_reqplace : Cal P w K mg base 2 "require_place" spReqPlace []) : FnOk P w K mg base L2.CX0 3 f fd ["self", "first", "last"] (spKnStr c Ck) := by
  refine fnD_ok F sc_kpstr (fun vs H Q E h => ?_) (fun cdv A outer s H vs Q E hr h => ?_)
  · obtain ⟨A, b, ps, y, ls, past, i, j, rfl, _⟩ := h
    rfl
  · obtain ⟨A, b, ps, y, ls, past, i, j, rfl, hk, hij, hj, q⟩ := h
    refine ⟨_, (pss_cons (ps_expr (pe_c c_reqplace hr (by decide) (by rfl) (pa_cons (pv 1) (pa_cons pe_int (pa_cons (pe_callB cLen (by rfl) T.len (by decide +kernel) (pa_cons (pe_fld (pv 0) rfl) pa_nil)) pa_nil)))))
      (pss_one (ps_expr (pe_c c_reqplace hr (by decide) (by rfl) (pa_cons (pv 2) (pa_cons (pv 1) (pa_cons (pe_callB cLen (by rfl) T.len (by decide +kernel) (pa_cons (pe_fld (pv 0) rfl) pa_nil)) pa_nil))))))), ?_⟩
    have hl := hk.ltr
    walk_at "go"
    rw [List.length_map]
    refine ⟨_, _, _, rfl, by omega, by omega, ?_⟩
    walk_at "go"
    rw [List.length_map]
    refine ⟨_, _, _, rfl, by omega, by omega, ?_⟩
    walk_at "go"
    exact q
abbrev s_kpchange : Stmt := (inClass (top 35) 8)
theorem sc_kpchange : FnScope ["self", "first", "last", "text"] ["self", "first", "last", "text"] (defScope s_kpchange) :=
  ⟨rfl, rfl, rfl, by decide +kernel, rfl, by decide +kernel, by decide +kernel⟩
theorem ok_kpchange {c : CA} {Ck : Addr} {f : Addr} {fd : FuncData} (F : FunD K "change" "Kept.change" (defArgs s_kpchange) (defBody s_kpchange) (defScope s_kpchange) [] [] f fd) (T : Bt mg) (KP : KpK K mg Ck) (c_reqtext : Cal P w K mg base 3 "require_text" spRead []) (c_kpstr : Met P w K mg base 3 Ck "require_stretch" (spKnStr c Ck) []) (c_kpput : Met P w K mg base 1 Ck "put" (spKpPut c Ck) []) : FnOk P w K mg base L2.CX0 4 f fd ["self", "first", "last", "text"] (spKnChange c Ck) := by
  refine fnD_ok F sc_kpchange (fun vs H Q E h => ?_) (fun cdv A outer s H vs Q E hr h => ?_)
  · obtain ⟨A, b, ps, y, ls, past, i, j, t, ms, rfl, _⟩ := h
    rfl
  · obtain ⟨A, b, ps, y, ls, past, i, j, t, ms, rfl, hk, hpz, hij, hj, tx, hz, q⟩ := h
    refine ⟨_, (pss_cons (ps_expr (pe_mt c_kpstr hr (by decide) (pv 0) (pa_cons (pv 1) (pa_cons (pv 2) pa_nil))))
      (pss_one (ps_expr (pe_mt c_kpput hr (by decide) (pv 0) (pa_cons (pv 1) (pa_cons (pv 2) (pa_cons (pe_callTy cListOf (by rfl) T.list (by decide +kernel) (pa_cons (pe_c c_reqtext hr (by decide) (by rfl) (pa_cons (pv 3) pa_nil)) pa_nil)) pa_nil))))))), ?_⟩
    have hl := hk.ltr
    walk_at "go"
    refine w_insP hk ?_
    walk_at "go"
    refine ⟨A, b, ps, y, ls, past, i, j, rfl, hk, hij, hj, ?_⟩
    walk_at "go"
    refine w_insP hk ?_
    walk_at "go"
    refine ⟨t, ms, rfl, tx, fun H1 t s1 h1 => ?_⟩
    walk_at "go"
    refine w_listT (sqt h1) (al fun l H2 n2 s2 h2 => ?_)
    have hk2 := hk.same (s1.trans s2)
    have n0 : H l = none := s1.free n2
    walk_at "go"
    refine ⟨A, b, ps, y, ls, past, i, j, l, ms, rfl, hk2, hpz, hz, h2, fun e => ?_, fun e => ?_, by omega, by omega, fun H3 o3 hk3 => ?_⟩
    · rw [e, hk.ltr] at n0; cases n0
    · obtain ⟨ts, hts, _⟩ := hk.pst
      rw [e, hts] at n0
      cases n0
    walk_at "go"
    exact q _ (Off.trans (Off.of (s1.trans s2)) o3) hk3
abbrev s_kprests : Stmt := (inClass (top 35) 11)
theorem sc_kprests : FnScope ["self", "number", "base", "shift", "found", "letter"] ["self"] (defScope s_kprests) :=
  ⟨rfl, rfl, rfl, by decide +kernel, rfl, by decide +kernel, by decide +kernel⟩
theorem ok_kprests {c : CA} {Ck : Addr} {f : Addr} {fd : FuncData} (F : FunD K "rests_of_ends" "Kept.rests_of_ends" (defArgs s_kprests) (defBody s_kprests) (defScope s_kprests) [] [] f fd) (T : Bt mg) (X : Kx K mg c) (KP : KpK K mg Ck) (hne : ∀ z ∈ [c.wy, c.md, c.kg], z ≠ Ck) : FnOk P w K mg base L2.CX0 1 f fd ["self"] (spKpRests c Ck) := by
  refine fnD_ok F sc_kprests (fun vs H Q E h => ?_) (fun cdv AA outer s H vs Q E hr h => ?_)
  · obtain ⟨A, b, ps, y, ls, past, rfl, _⟩ := h
    rfl
  · obtain ⟨A, b, ps, y, ls, past, rfl, hk, ft, q⟩ := h
    refine ⟨_, (pss_cons (ps_if (pt_cmpR op_isN1 (pe_fld (pv 0) rfl) pe_non (nomark _)) (pss_cons (ps_par3 (i := 1) (j := 2) (l := 3) (by rfl) sc_kprests.nd rfl rfl rfl (by decide) (by decide) (by decide) rfl rfl rfl (pa_cons (pe_fld (pe_fld (pv 0) rfl) rfl) (pa_cons (pe_fld (pe_fld (pv 0) rfl) rfl) (pa_cons (pe_fld (pe_fld (pe_fld (pv 0) rfl) rfl) rfl) pa_nil))) (by rfl))
      (pss_cons (ps_set (i := 4) sc_kprests.nd rfl (Or.inl rfl) (pe_lst (pa_cons pe_int pa_nil)))
      (pss_cons (ps_for PassesOwn.never rfl (pi_list (pe_ifExp (pt_val (pe_fld (pe_fld (pe_fld (pv 0) rfl) rfl) rfl)) (pe_revL (pe_fld (pv 0) rfl)) (pe_fld (pv 0) rfl))) (pg_name (i := 5) sc_kprests.nd rfl (Or.inl rfl)) (pss_one (ps_expr (pe_bm PySem.F.plainAttrs_list PySem.F.slot_list_append PySem.F.type_list_append mt_append (pv 4) (pa_cons (pe_op op_mod (pe_op op_add (pe_op op_add (pe_op oMul (pe_ix ix_list (pv 4) (pe_un un_neg pe_int) (fun _ _ => rfl)) (pv 2)) (pv 5)) (pv 3)) (pv 1)) pa_nil)))))
      (pss_one (ps_fld (pv 0) (pe_ifExp (pt_val (pe_fld (pe_fld (pe_fld (pv 0) rfl) rfl) rfl)) (pe_revL (pv 4)) (pv 4)) rfl))))) pss_nil)
      (pss_one (ps_ret (pe_fld (pv 0) rfl)))), ?_⟩
    have hl := hk.ltr
    have hlz := hk.sz
    have hw := hk.way
    obtain ⟨_, _, _, _, _, _, b0, bn⟩ := id hw
    have hN : 0 < num ps := by omega
    obtain ⟨r, hi, hr0⟩ := hk.ins
    walk_at "go"
    refine w_fldi hi KP.kp.cl KP.rests ((lkS (by decide +kernel)).trans ((lkS (by decide +kernel)).trans ((lkS (by decide +kernel)).trans lk0))) ?_
    walk_at "go"
    rcases hr0 with rfl | ⟨qa, rfl, hq, nl, np⟩
    · rw [decide_eq_true rfl]
      refine iteT ?_
      walk_at "go"
      unfold tPar3
      walk_at "go"
      refine ⟨_, _, _, rfl, ?_⟩
      walk_at "go"
      refine al fun D H1 n1 s1 h1 => ?_
      have hw1 := hw.same s1
      have hk1 := hk.same s1
      walk_at "go"
      cases hlow : y.low with
      | true =>
        refine iteT ?_
        walk_at "go"
        refine w_revi (sq (s1 _ _ hl)) (al fun xa H2 n2 s2 h2 => ?_)
        rw [← List.map_reverse] at h2
        have S2 := s1.trans s2
        have hD2 := s2 _ _ h1
        have nxD : xa ≠ D := fun e => by rw [e, h1] at n2; cases n2
        walk_at "go"
        refine for_list (K := K) (a := xa) (xs := (ls.reverse).map V.int) (fun i σ H' => ∃ v5 : Option V, σ = [some (.ref A.k), some (.int (num ps)), some (.int b), some (.int y.shift), some (.ref D), v5] ∧ Same H H' ∧ H' xa = some (.lst ((ls.reverse).map V.int)) ∧ H' D = some (.lst (((List.range (i + 1)).map fun k => Gr b y.shift (num ps) ((ls.reverse).take k)).map V.int)))
          ⟨_, rfl, S2, h2, hD2⟩ (fun i σ H' _ z => by obtain ⟨_, _, _, z, _⟩ := z; exact sq z) ?_ ?_
        · rintro i x σ H3 hi ⟨v5, rfl, s3, hx3, hD3⟩
          obtain ⟨z, hz, rfl⟩ := get_map hi
          have hil : i < (ls.reverse).length := (List.getElem?_eq_some_iff.mp hz).1
          have htk : (ls.reverse).take (i + 1) = (ls.reverse).take i ++ [z] := by rw [List.take_add_one, hz]; rfl
          have hsp : ((List.range (i + 1)).map fun k => Gr b y.shift (num ps) ((ls.reverse).take k)) = ((List.range i).map fun k => Gr b y.shift (num ps) ((ls.reverse).take k)) ++ [Gr b y.shift (num ps) ((ls.reverse).take i)] := by rw [List.range_succ, List.map_append]; rfl
          have hG := Gr_range (b := b) (s := y.shift) hN ((ls.reverse).take i)
          have hmx : CMx (Gr b y.shift (num ps) ((ls.reverse).take i)) b := mx_w (a := 8000) (b := 8000) (wide_le hG.1 (Int.le_of_lt hG.2) ft.n) (wide_le b0 (Int.le_of_lt bn) ft.n) (by decide)
          walk_at "go"
          refine w_ixL (sq hD3) (by rw [hsp]; exact at_lastz _ _) ?_
          walk_at "go"
          refine w_append hD3 (sz (by simp only [List.length_map, List.length_range]; simp only [List.length_reverse] at hil; omega)) ?_
          walk_at "go"
          refine ⟨_, rfl, same_up n1 s3, by rw [upd_ne nxD]; exact hx3, ?_⟩
          rw [L2.upd_same, List.range_succ (n := i + 1), List.map_append, List.map_append]
          show some (HO.lst (_ ++ [V.int _])) = some (HO.lst (_ ++ [V.int (Gr b y.shift (num ps) ((ls.reverse).take (i + 1)))]))
          rw [htk, Gr_snoc]
        · rintro σ H3 ⟨v5, rfl, s3, hx3, hD3⟩
          rw [List.length_map] at hD3
          have hU : H3 D = some (.lst ((rsU b y.shift (num ps) (ls.reverse)).map V.int)) := hD3
          have hk3 := hk.same s3
          have hw3 := hw.same s3
          have nDl : D ≠ A.l := fun e => by rw [e, hl] at n1; cases n1
          have nDp : D ≠ A.p := fun e => by
            obtain ⟨ts, hts, _⟩ := hk.pst
            rw [e, hts] at n1
            cases n1
          obtain ⟨r3, hi3, _⟩ := hk3.ins
          walk_at "go"
          rw [hlow]
          refine iteT ?_
          walk_at "go"
          refine w_revi (sq hU) (al fun q1 H4 n4 s4 h4 => ?_)
          rw [← List.map_reverse] at h4
          have n0 : H q1 = none := s3.free n4
          have nql : q1 ≠ A.l := fun e => by rw [e, hl] at n0; cases n0
          have nqp : q1 ≠ A.p := fun e => by
            obtain ⟨ts, hts, _⟩ := hk.pst
            rw [e, hts] at n0
            cases n0
          have e4 : (rsU b y.shift (num ps) ls.reverse).reverse = rsts y b (num ps) ls := by unfold rsts; rw [hlow]; rfl
          rw [e4] at h4
          have hk4 := hk3.same s4
          have S4 := s3.trans s4
          have hi4 := s4 _ _ hi3
          walk_at "go"
          refine w_sfldi hi4 KP.kp.cl KP.rests (by show 4 < 1000; decide) ?_
          rw [put_rests]
          walk_at "go"
          obtain ⟨o5, hk5⟩ := hk4.setr hne h4 nql nqp
          have hq5 : upd H4 A.k (.ins Ck A.dx (kpF A.l A.w A.p (.ref q1))) q1 = some (.lst ((rsts y b (num ps) ls).map V.int)) := by
            rw [upd_ne (fun e => by rw [e, hi4] at h4; cases h4)]
            exact h4
          refine w_fldi upd_same KP.kp.cl KP.rests ((lkS (by decide +kernel)).trans ((lkS (by decide +kernel)).trans ((lkS (by decide +kernel)).trans lk0))) ?_
          walk_at "go"
          exact q q1 _ (Off.trans (Off.of S4) o5) hk5 hq5
      | false =>
        refine iteF ?_
        walk_at "go"
        have S2 := s1
        have hD2 := h1
        have h2 := s1 _ _ hl
        have nxD : A.l ≠ D := fun e => by rw [← e, hl] at n1; cases n1
        walk_at "go"
        refine for_list (K := K) (a := A.l) (xs := (ls).map V.int) (fun i σ H' => ∃ v5 : Option V, σ = [some (.ref A.k), some (.int (num ps)), some (.int b), some (.int y.shift), some (.ref D), v5] ∧ Same H H' ∧ H' A.l = some (.lst ((ls).map V.int)) ∧ H' D = some (.lst (((List.range (i + 1)).map fun k => Gr b y.shift (num ps) ((ls).take k)).map V.int)))
          ⟨_, rfl, S2, h2, hD2⟩ (fun i σ H' _ z => by obtain ⟨_, _, _, z, _⟩ := z; exact sq z) ?_ ?_
        · rintro i x σ H3 hi ⟨v5, rfl, s3, hx3, hD3⟩
          obtain ⟨z, hz, rfl⟩ := get_map hi
          have hil : i < (ls).length := (List.getElem?_eq_some_iff.mp hz).1
          have htk : (ls).take (i + 1) = (ls).take i ++ [z] := by rw [List.take_add_one, hz]; rfl
          have hsp : ((List.range (i + 1)).map fun k => Gr b y.shift (num ps) ((ls).take k)) = ((List.range i).map fun k => Gr b y.shift (num ps) ((ls).take k)) ++ [Gr b y.shift (num ps) ((ls).take i)] := by rw [List.range_succ, List.map_append]; rfl
          have hG := Gr_range (b := b) (s := y.shift) hN ((ls).take i)
          have hmx : CMx (Gr b y.shift (num ps) ((ls).take i)) b := mx_w (a := 8000) (b := 8000) (wide_le hG.1 (Int.le_of_lt hG.2) ft.n) (wide_le b0 (Int.le_of_lt bn) ft.n) (by decide)
          walk_at "go"
          refine w_ixL (sq hD3) (by rw [hsp]; exact at_lastz _ _) ?_
          walk_at "go"
          refine w_append hD3 (sz (by simp only [List.length_map, List.length_range]; omega)) ?_
          walk_at "go"
          refine ⟨_, rfl, same_up n1 s3, by rw [upd_ne nxD]; exact hx3, ?_⟩
          rw [L2.upd_same, List.range_succ (n := i + 1), List.map_append, List.map_append]
          show some (HO.lst (_ ++ [V.int _])) = some (HO.lst (_ ++ [V.int (Gr b y.shift (num ps) ((ls).take (i + 1)))]))
          rw [htk, Gr_snoc]
        · rintro σ H3 ⟨v5, rfl, s3, hx3, hD3⟩
          rw [List.length_map] at hD3
          have hU : H3 D = some (.lst ((rsU b y.shift (num ps) (ls)).map V.int)) := hD3
          have hk3 := hk.same s3
          have hw3 := hw.same s3
          have nDl : D ≠ A.l := fun e => by rw [e, hl] at n1; cases n1
          have nDp : D ≠ A.p := fun e => by
            obtain ⟨ts, hts, _⟩ := hk.pst
            rw [e, hts] at n1
            cases n1
          obtain ⟨r3, hi3, _⟩ := hk3.ins
          walk_at "go"
          rw [hlow]
          refine iteF ?_
          walk_at "go"
          have e4 : rsU b y.shift (num ps) ls = rsts y b (num ps) ls := by unfold rsts; rw [hlow]; rfl
          have h4 := hU
          rw [e4] at h4
          have nql := nDl
          have nqp := nDp
          have hk4 := hk3
          have S4 := s3
          have hi4 := hi3
          walk_at "go"
          refine w_sfldi hi4 KP.kp.cl KP.rests (by show 4 < 1000; decide) ?_
          rw [put_rests]
          walk_at "go"
          obtain ⟨o5, hk5⟩ := hk4.setr hne h4 nql nqp
          have hq5 : upd H3 A.k (.ins Ck A.dx (kpF A.l A.w A.p (.ref D))) D = some (.lst ((rsts y b (num ps) ls).map V.int)) := by
            rw [upd_ne (fun e => by rw [e, hi4] at h4; cases h4)]
            exact h4
          refine w_fldi upd_same KP.kp.cl KP.rests ((lkS (by decide +kernel)).trans ((lkS (by decide +kernel)).trans ((lkS (by decide +kernel)).trans lk0))) ?_
          walk_at "go"
          exact q D _ (Off.trans (Off.of S4) o5) hk5 hq5
    · rw [decide_eq_false (by simp)]
      refine iteF ?_
      walk_at "go"
      refine w_fldi hi KP.kp.cl KP.rests ((lkS (by decide +kernel)).trans ((lkS (by decide +kernel)).trans ((lkS (by decide +kernel)).trans lk0))) ?_
      walk_at "go"
      exact q qa _ (Off.of (Same.refl _)) hk hq
abbrev s_kpmarkb : Stmt := (inClass (top 35) 12)
theorem sc_kpmarkb : FnScope ["self", "first", "last", "rests", "scale", "near", "far"] ["self", "first", "last"] (defScope s_kpmarkb) :=
  ⟨rfl, rfl, rfl, by decide +kernel, rfl, by decide +kernel, by decide +kernel⟩
theorem ok_kpmarkb {c : CA} {Ck : Addr} {f : Addr} {fd : FuncData} (F : FunD K "mark_between" "Kept.mark_between" (defArgs s_kpmarkb) (defBody s_kpmarkb) (defScope s_kpmarkb) [] [] f fd) (T : Bt mg) (X : Kx K mg c) (KP : KpK K mg Ck) (c_power : Cal P w K mg base 1 "power_rest" spPower []) (c_kprests : Met P w K mg base 1 Ck "rests_of_ends" (spKpRests c Ck) []) : FnOk P w K mg base L2.CX0 2 f fd ["self", "first", "last"] (spKpMarkB c Ck) := by
  refine fnD_ok F sc_kpmarkb (fun vs H Q E h => ?_) (fun cdv AA outer s H vs Q E hr h => ?_)
  · obtain ⟨A, b, ps, y, ls, past, i, j, rfl, _⟩ := h
    rfl
  · obtain ⟨A, b, ps, y, ls, past, i, j, rfl, hk, ft, hij, hj, q⟩ := h
    refine ⟨_, (pss_cons (ps_set (i := 3) sc_kpmarkb.nd rfl (Or.inl rfl) (pe_mt0 c_kprests hr (by decide) (pv 0)))
      (pss_cons (ps_set (i := 4) sc_kpmarkb.nd rfl (Or.inl rfl) (pe_c c_power hr (by decide) (by rfl) (pa_cons (pe_fld (pe_fld (pv 0) rfl) rfl) (pa_cons (pe_op op_sub (pv 2) (pv 1)) (pa_cons (pe_fld (pe_fld (pv 0) rfl) rfl) pa_nil)))))
      (pss_cons (ps_asg (pe_ifExp (pt_val (pe_fld (pe_fld (pe_fld (pv 0) rfl) rfl) rfl)) (pe_tup (pa_cons (pv 2) (pa_cons (pv 1) pa_nil))) (pe_tup (pa_cons (pv 1) (pa_cons (pv 2) pa_nil)))) (pg_tup rfl (pgs_cons (pg_name (i := 5) sc_kpmarkb.nd rfl (Or.inl rfl)) (pgs_cons (pg_name (i := 6) sc_kpmarkb.nd rfl (Or.inl rfl)) pgs_nil))))
      (pss_one (ps_ret (pe_op op_mod (pe_op op_add (pe_ix ix_list (pv 3) (pv 6) (fun _ _ => rfl)) (pe_op oMul (pv 4) (pe_op op_sub (pe_callTy cInt1 (by rfl) T.int (by decide +kernel) (pa_cons (pe_fld (pe_fld (pe_fld (pv 0) rfl) rfl) rfl) pa_nil)) (pe_ix ix_list (pv 3) (pv 5) (fun _ _ => rfl))))) (pe_fld (pe_fld (pv 0) rfl) rfl))))))), ?_⟩
    have hlz := hk.sz
    obtain ⟨_, _, _, _, _, _, b0, bn⟩ := id hk.way
    have hN : 0 < num ps := by omega
    walk_at "go"
    refine w_insP hk ?_
    walk_at "go"
    refine ⟨A, b, ps, y, ls, past, rfl, hk, ft, fun q1 H1 o1 hk1 h1 => ?_⟩
    have hw1 := hk1.way
    walk_at "go"
    refine ⟨b, (j : Int) - i, num ps, 8000, rfl, by omega, by omega, hN, ft.n, by decide, ?_⟩
    walk_at "go"
    have hpw := Int.emod_nonneg (b ^ ((j : Int) - i).toNat) (b := num ps) (by omega)
    have hpw2 := Int.emod_lt_of_pos (b ^ ((j : Int) - i).toNat) hN
    have eji : ((j : Int) - i).toNat = j - i := by omega
    rw [eji] at hpw hpw2 ⊢
    have fin := kp_mark (y := y) (b := b) (ls := ls) hN hij hj
    have gi : ∀ k : Nat, k ≤ ls.length → atI ((rsts y b (num ps) ls).map V.int) (k : Int) = some (.int (Gr b y.shift (num ps) (if y.low then (ls.drop k).reverse else ls.take k))) := fun k hk => atI_map (by omega) (by rw [Int.toNat_natCast]; exact rsts_get hk)
    have gb : ∀ k : Nat, (Gr b y.shift (num ps) (if y.low then (ls.drop k).reverse else ls.take k)).natAbs < 2 ^ 8000 := fun k => by
      have := Gr_range (b := b) (s := y.shift) hN (if y.low then (ls.drop k).reverse else ls.take k)
      exact wide_le this.1 (Int.le_of_lt this.2) ft.n
    have hpb : (b ^ (j - i) % num ps).natAbs < 2 ^ 8000 := wide_le hpw (Int.le_of_lt hpw2) ft.n
    have hmx : ∀ k : Nat, CMx (b ^ (j - i) % num ps) ((if y.lead then 1 else 0) - Gr b y.shift (num ps) (if y.low then (ls.drop k).reverse else ls.take k)) := fun k => by
      refine mx_w (a := 8000) (b := 8001) hpb ?_ (by decide)
      have h1 := gb k
      have h2 : ((if y.lead then (1 : Int) else 0) - Gr b y.shift (num ps) (if y.low then (ls.drop k).reverse else ls.take k)).natAbs ≤ 1 + (Gr b y.shift (num ps) (if y.low then (ls.drop k).reverse else ls.take k)).natAbs := by
        cases y.lead <;> simp <;> omega
      have h3 : (2 : Nat) ^ 8001 = 2 ^ 8000 * 2 := by rw [show 8001 = 8000 + 1 from rfl, Nat.pow_succ]
      omega
    cases hlow : y.low with
    | true =>
      refine iteT ?_
      walk_at "go"
      refine al fun t H2 n2 s2 h2 => ?_
      have hw2 := hw1.same s2
      have h12 := s2 _ _ h1
      walk_at "go"
      refine w_ixL (sq h12) (gi i (by omega)) ?_
      walk_at "go"
      refine w_ixL (sq h12) (gi j hj) ?_
      walk_at "go"
      walk_at "go"
      · rw [hlow] at fin ⊢
        simp only [if_true] at fin ⊢
        rw [fin]
        exact q _ (o1.trans (Off.of s2)) (hk1.same s2)
      · exact hmx j
    | false =>
      refine iteF ?_
      walk_at "go"
      refine al fun t H2 n2 s2 h2 => ?_
      have hw2 := hw1.same s2
      have h12 := s2 _ _ h1
      walk_at "go"
      refine w_ixL (sq h12) (gi j hj) ?_
      walk_at "go"
      refine w_ixL (sq h12) (gi i (by omega)) ?_
      walk_at "go"
      walk_at "go"
      · rw [hlow] at fin ⊢
        simp only [Bool.false_eq_true, if_false] at fin ⊢
        rw [fin]
        exact q _ (o1.trans (Off.of s2)) (hk1.same s2)
      · exact hmx i
abbrev s_kpmark : Stmt := (inClass (top 35) 13)
theorem sc_kpmark : FnScope ["self", "first", "last"] ["self", "first", "last"] (defScope s_kpmark) :=
  ⟨rfl, rfl, rfl, by decide +kernel, rfl, by decide +kernel, by decide +kernel⟩
theorem ok_kpmark {c : CA} {Ck : Addr} {f : Addr} {fd : FuncData} {dvs : List V} (F : FunD K "mark_of" "Kept.mark_of" (defArgs s_kpmark) (defBody s_kpmark) (defScope s_kpmark) dvs [] f fd) (T : Bt mg) (X : Kx K mg c) (KP : KpK K mg Ck) (c_kpstr : Met P w K mg base 3 Ck "require_stretch" (spKnStr c Ck) []) (c_kpmarkb : Met P w K mg base 2 Ck "mark_between" (spKpMarkB c Ck) []) : FnOk P w K mg base L2.CX0 4 f fd ["self", "first", "last"] (spKnMark c Ck) := by
  refine fnD_ok F sc_kpmark (fun vs H Q E h => ?_) (fun cdv AA outer s H vs Q E hr h => ?_)
  · obtain ⟨A, b, ps, y, ls, past, i, j, u, rfl, _⟩ := h
    rfl
  · obtain ⟨A, b, ps, y, ls, past, i, j, u, rfl, hu0, hk, hij, hj, ft, q⟩ := h
    refine ⟨_, (pss_cons (ps_if (pt_cmpR op_isN1 (pv 2) pe_non (nomark _)) (pss_one (ps_set (i := 2) sc_kpmark.nd rfl (Or.inl rfl) (pe_callB cLen (by rfl) T.len (by decide +kernel) (pa_cons (pe_fld (pv 0) rfl) pa_nil)))) pss_nil)
      (pss_cons (ps_expr (pe_mt c_kpstr hr (by decide) (pv 0) (pa_cons (pv 1) (pa_cons (pv 2) pa_nil))))
      (pss_one (ps_ret (pe_mt c_kpmarkb hr (by decide) (pv 0) (pa_cons (pv 1) (pa_cons (pv 2) pa_nil))))))), ?_⟩
    have hl := hk.ltr
    walk_at "goI"
    refine w_ifJq (fun σ' H' => σ' = [some (.ref A.k), some (.int (i : Nat)), some (if u = .non then .int ls.length else u)] ∧ H' = H) ?_ ?_
    rotate_left
    · intro N hN
      walk_at "go"
      by_cases hu : u = .non
      · rw [decide_eq_true hu]
        refine iteT ?_
        walk_at "go"
        rw [List.length_map]
        exact hN _ _ ⟨by rw [if_pos hu], rfl⟩
      · rw [decide_eq_false hu]
        refine iteF ?_
        walk_at "go"
        exact hN _ _ ⟨by rw [if_neg hu], rfl⟩
    rintro σ' H' ⟨rfl, rfl⟩
    rw [hu0]
    walk_at "go"
    refine w_insP hk ?_
    walk_at "go"
    refine ⟨A, b, ps, y, ls, past, i, j, rfl, hk, hij, hj, ?_⟩
    walk_at "go"
    refine w_insP hk ?_
    walk_at "go"
    refine ⟨A, b, ps, y, ls, past, i, j, rfl, hk, ft, by omega, by omega, fun H1 o1 hk1 => ?_⟩
    walk_at "go"
    exact q _ o1 hk1
theorem ok_kpiaddS {c : CA} {Ck : Addr} {f : Addr} {fd : FuncData} (F : FunD K "__iadd__" "Kept.__iadd__" (defArgs s_kpiadd) (defBody s_kpiadd) (defScope s_kpiadd) [] [] f fd) (T : Bt mg) (KP : KpK K mg Ck) (c_reqtext : Cal P w K mg base 3 "require_text" spRead []) (c_kpput : Met P w K mg base 1 Ck "put" (fr (spKpPut c Ck)) []) : FnOk P w K mg base L2.CX0 4 f fd ["self", "text"] (spKnIaddS c Ck) := by
  refine fnD_ok F sc_kpiadd (fun vs H Q E h => ?_) (fun cdv A outer s H vs Q E hr h => ?_)
  · obtain ⟨A, b, ps, y, ls, past, p, ms, rfl, _⟩ := h
    rfl
  · obtain ⟨A, b, ps, y, ls, past, p, ms, rfl, hk, hpz, hp, hz, q⟩ := h
    refine ⟨_, (pss_cons (ps_expr (pe_mt c_kpput hr (by decide) (pv 0) (pa_cons (pe_callB cLen (by rfl) T.len (by decide +kernel) (pa_cons (pe_fld (pv 0) rfl) pa_nil)) (pa_cons (pe_callB cLen (by rfl) T.len (by decide +kernel) (pa_cons (pe_fld (pv 0) rfl) pa_nil)) (pa_cons (pe_callTy cListOf (by rfl) T.list (by decide +kernel) (pa_cons (pe_c c_reqtext hr (by decide) (by rfl) (pa_cons (pv 1) pa_nil)) pa_nil)) pa_nil)))))
      (pss_one (ps_ret (pv 0)))), ?_⟩
    have hl := rm_le _ _ hk.ltr
    walk_at "go"
    refine w_insP (hk.same rm_le) ?_
    walk_at "go"
    rw [List.length_map]
    refine ⟨_, ms, rfl, .lst p ms hp (by omega), fun H1 t s1 h1 => ?_⟩
    walk_at "go"
    refine w_listT (sqt h1) (al fun l H2 n2 s2 h2 => ?_)
    have S2 := s1.trans s2
    have hk2 := hk.same S2.rm
    have n0 : H l = none := s1.free n2
    have nlp : l ≠ p := ne_of_none' hp n0
    walk_at "go"
    refine .inr ⟨p, _, S2 _ _ hp, A, b, ps, y, ls, past, ls.length, ls.length, l, ms, rfl, hk2, hpz, hz, rm_of nlp h2, fun e => ?_, fun e => ?_, Nat.le_refl _, Nat.le_refl _, fun H3 o3 hk3 n3 => ?_⟩
    · rw [e, rm_le _ _ hk.ltr] at n0; cases n0
    · obtain ⟨ts, hts, _⟩ := hk.pst
      rw [e, rm_le _ _ hts] at n0
      cases n0
    walk_at "go"
    refine q _ ?_ upd_same ?_
    · rw [rm_updD, rm_eq n3]
      exact Off.trans (Off.of S2.rm) o3
    · rw [rm_updD, rm_eq n3]
      exact hk3
theorem ok_kpchangeS {c : CA} {Ck : Addr} {f : Addr} {fd : FuncData} (F : FunD K "change" "Kept.change" (defArgs s_kpchange) (defBody s_kpchange) (defScope s_kpchange) [] [] f fd) (T : Bt mg) (KP : KpK K mg Ck) (c_reqtext : Cal P w K mg base 3 "require_text" spRead []) (c_kpstr : Met P w K mg base 3 Ck "require_stretch" (spKnStr c Ck) []) (c_kpput : Met P w K mg base 1 Ck "put" (fr (spKpPut c Ck)) []) : FnOk P w K mg base L2.CX0 4 f fd ["self", "first", "last", "text"] (spKnChangeS c Ck) := by
  refine fnD_ok F sc_kpchange (fun vs H Q E h => ?_) (fun cdv A outer s H vs Q E hr h => ?_)
  · obtain ⟨A, b, ps, y, ls, past, i, j, p, ms, rfl, _⟩ := h
    rfl
  · obtain ⟨A, b, ps, y, ls, past, i, j, p, ms, rfl, hk, hpz, hij, hj, hp, hz, q⟩ := h
    refine ⟨_, (pss_cons (ps_expr (pe_mt c_kpstr hr (by decide) (pv 0) (pa_cons (pv 1) (pa_cons (pv 2) pa_nil))))
      (pss_one (ps_expr (pe_mt c_kpput hr (by decide) (pv 0) (pa_cons (pv 1) (pa_cons (pv 2) (pa_cons (pe_callTy cListOf (by rfl) T.list (by decide +kernel) (pa_cons (pe_c c_reqtext hr (by decide) (by rfl) (pa_cons (pv 3) pa_nil)) pa_nil)) pa_nil))))))), ?_⟩
    have hl := rm_le _ _ hk.ltr
    walk_at "go"
    refine w_insP (hk.same rm_le) ?_
    walk_at "go"
    refine ⟨A, b, ps, y, ls, past, i, j, rfl, hk.same rm_le, hij, hj, ?_⟩
    walk_at "go"
    refine w_insP (hk.same rm_le) ?_
    walk_at "go"
    refine ⟨_, ms, rfl, .lst p ms hp (by omega), fun H1 t s1 h1 => ?_⟩
    walk_at "go"
    refine w_listT (sqt h1) (al fun l H2 n2 s2 h2 => ?_)
    have S2 := s1.trans s2
    have hk2 := hk.same S2.rm
    have n0 : H l = none := s1.free n2
    have nlp : l ≠ p := ne_of_none' hp n0
    walk_at "go"
    refine .inr ⟨p, _, S2 _ _ hp, A, b, ps, y, ls, past, i, j, l, ms, rfl, hk2, hpz, hz, rm_of nlp h2, fun e => ?_, fun e => ?_, by omega, by omega, fun H3 o3 hk3 n3 => ?_⟩
    · rw [e, rm_le _ _ hk.ltr] at n0; cases n0
    · obtain ⟨ts, hts, _⟩ := hk.pst
      rw [e, rm_le _ _ hts] at n0
      cases n0
    walk_at "go"
    refine q _ ?_ upd_same ?_
    · rw [rm_updD, rm_eq n3]
      exact Off.trans (Off.of S2.rm) o3
    · rw [rm_updD, rm_eq n3]
      exact hk3

abbrev s_kpclash : Stmt := (inClass (top 35) 14)
theorem sc_kpclash : FnScope ["self", "length", "found", "places", "marks", "place", "stretches", "first", "second"] ["self", "length"] (defScope s_kpclash) :=
  ⟨rfl, rfl, rfl, by decide +kernel, rfl, by decide +kernel, by decide +kernel⟩
theorem ok_kpclash {c : CA} {Ck : Addr} {f : Addr} {fd : FuncData} (F : FunD K "clashing" "Kept.clashing" (defArgs s_kpclash) (defBody s_kpclash) (defScope s_kpclash) [] [] f fd) (T : Bt mg) (X : Kx K mg c) (KP : KpK K mg Ck) (c_reqlen : Cal P w K mg base 2 "require_length" spReqLen []) (c_kpmarkb : Met P w K mg base 2 Ck "mark_between" (fr (fr (spKpMarkB c Ck))) []) : FnOk P w K mg base L2.CX0 3 f fd ["self", "length"] (spKnClash c Ck) := by
  refine fnD_ok F sc_kpclash (fun vs H Q E h => ?_) (fun cdv AA outer s H vs Q E hr h => ?_)
  · obtain ⟨A, b, ps, y, ls, past, k, rfl, _⟩ := h
    rfl
  · obtain ⟨A, b, ps, y, ls, past, k, rfl, hk, ft, hkz, hlz, q⟩ := h
    refine ⟨_, (pss_cons (ps_expr (pe_c c_reqlen hr (by decide) (by rfl) (pa_cons (pv 1) pa_nil)))
      (pss_cons (ps_set (i := 2) sc_kpclash.nd rfl (Or.inl rfl) (pe_lst pa_nil))
      (pss_cons (ps_set (i := 3) sc_kpclash.nd rfl (Or.inl rfl) (pe_listRg rfl (by rfl) T.list (prg_1 (by rfl) T.range (pe_op op_add (pe_op op_sub (pe_callB cLen (by rfl) T.len (by decide +kernel) (pa_cons (pe_fld (pv 0) rfl) pa_nil)) (pv 1)) pe_int))))
      (pss_cons (ps_setLc (i := 4) (own := [("place", 5)]) (g := gName 5) (tt := tYes) (te := (tMeth _ _ _ _ _ (tVar 0) (tCons (tVar 5) (tCons (tOp _ (tVar 5) (tVar 1)) tNil)))) rfl sc_kpclash.nd rfl rfl (sw_true rfl rfl rfl (by decide +kernel)) (pi_list (pv 3)) (blkOk_by (own := [("place", 5)]) (N := ["self", "length", "found", "places", "marks", "place", "stretches", "first", "second"]) (sc := defScope s_kpclash) (by decide +kernel)) (fun _ _ _ _ _ => (pg_name (i := 5) sc_kpclash.nd rfl (Or.inl rfl))) (fun _ _ _ _ _ => pts_nil) (fun _ _ _ _ _ => (pe_mt c_kpmarkb hr (by decide) (pv 0) (pa_cons (pv 5) (pa_cons (pe_op op_add (pv 5) (pv 1)) pa_nil)))))
      (pss_cons (ps_setLc (i := 6) (own := [("place", 5)]) (g := gName 5) (tt := tYes) (te := (tSl (rSlL K) (tFld K (tVar 0) "letters") (tPart (tVar 5)) (tPart (tOp _ (tVar 5) (tVar 1))))) rfl sc_kpclash.nd rfl rfl (sw_true rfl rfl rfl (by decide +kernel)) (pi_list (pv 3)) (blkOk_by (own := [("place", 5)]) (N := ["self", "length", "found", "places", "marks", "place", "stretches", "first", "second"]) (sc := defScope s_kpclash) (by decide +kernel)) (fun _ _ _ _ _ => (pg_name (i := 5) sc_kpclash.nd rfl (Or.inl rfl))) (fun _ _ _ _ _ => pts_nil) (fun _ _ _ _ _ => (pe_slice sl_list (pe_fld (pv 0) rfl) (po_some (pv 5)) (po_some (pe_op op_add (pv 5) (pv 1))))))
      (pss_cons (ps_for PassesOwn.never rfl (pi_list (pv 3)) (pg_name (i := 7) sc_kpclash.nd rfl (Or.inl rfl)) (pss_one (ps_for PassesOwn.never rfl (pi_list (pe_slice sl_list (pv 3) (po_some (pe_op op_add (pv 7) pe_int)) po_none)) (pg_name (i := 8) sc_kpclash.nd rfl (Or.inl rfl)) (pss_one (ps_if (PW.pt (pw_and (pt_cmpR op_eq (pe_ix ix_list (pv 4) (pv 7) (fun _ _ => rfl)) (pe_ix ix_list (pv 4) (pv 8) (fun _ _ => rfl)) (nomark _)) (pw_and1 (pt_cmpR (op_neD hr.units) (pe_ix ix_list (pv 6) (pv 7) (fun _ _ => rfl)) (pe_ix ix_list (pv 6) (pv 8) (fun _ _ => rfl)) (nomark _))))) (pss_one (ps_expr (pe_bm PySem.F.plainAttrs_list PySem.F.slot_list_append PySem.F.type_list_append mt_append (pv 2) (pa_cons (pe_tup (pa_cons (pv 7) (pa_cons (pv 8) pa_nil))) pa_nil)))) pss_nil)))))
      (pss_one (ps_ret (pv 2))))))))), ?_⟩
    walk_at "go"
    refine ⟨_, rfl, by omega, ?_⟩
    walk_at "go"
    refine al fun l H1 n1 s1 h1 => ?_
    have hk1 := hk.same s1
    walk_at "go"
    refine w_len (sq hk1.ltr) ?_
    rw [List.length_map]
    walk_at "go"
    refine al fun pl H2 n2 s2 h2 => ?_
    have hpl : H2 pl = some (.lst ((List.range (nSt ls k)).map fun i : Nat => V.int i)) := by
      rw [h2, rgV_nat (m := nSt ls k) (by unfold nSt; omega)]
    clear h2
    have nlp : pl ≠ l := ne_of_none' h1 n2
    have hl2 : H2 l = some (.lst []) := s2 _ _ h1
    have hk2 : KpAt c Ck (rm l H2) A b ps y ls past := hk.same (rm_in n1 (s1.trans s2))
    have np0 : H pl = none := s1.free n2
    walk_at "go"
    intro D hD
    refine lc_gen ((List.range (nSt ls k)).map fun i : Nat => V.int i) (fun i ys G => G l = some (.lst []) ∧ Off A (rm l H2) (rm l G) ∧ KpAt c Ck (rm l G) A b ps y ls past ∧ ys = (List.range i).map fun j => V.int (mark y b (num ps) (strch ls k j))) (G := fun G => SqL K G pl ((List.range (nSt ls k)).map fun i : Nat => V.int i)) walk_list hD ⟨hl2, Off.of (Same.refl _), hk2, rfl⟩ ?_ ?_ (fun _ => rfl) ?_ ?_
    · rintro i ys G ⟨g1, g2, g3, g4⟩
      have hkp := hk2.pst
      refine sq (rm_le _ _ (rm_le _ _ (g2 pl _ (fun e => ?_) (fun e => ?_) (fun e => ?_) (rm_of nlp hpl))))
      · obtain ⟨r, h1, _⟩ := hk.ins
        rw [e, h1] at np0; cases np0
      · rw [e, hk.ltr] at np0; cases np0
      · obtain ⟨ts, h1, _⟩ := hk.pst
        rw [e, h1] at np0; cases np0
    · rw [List.length_map, List.length_range]
      unfold nSt
      omega
    · intro i xx ys H3 hx hD3 ⟨g1, g2, g3, g4⟩ Q' q'
      obtain ⟨i', hi', rfl⟩ := get_map hx
      obtain ⟨hil, rfl⟩ := List.getElem?_eq_some_iff.mp hi'
      rw [List.getElem_range] at *
      rw [List.length_range] at hil
      have hik : i + k ≤ ls.length := by unfold nSt at hil; omega
      have hkF : KpAt c Ck H3 A b ps y ls past := (g3.same rm_le).same rm_le
      walk_at "go"
      refine w_insP hkF ?_
      walk_at "go"
      refine .inr ⟨D, ys, hD3, .inr ⟨l, [], g1, A, b, ps, y, ls, past, i, i + k, by rw [Int.natCast_add]; rfl, g3, ft, by omega, hik, fun H4 o4 hk4 nl4 nD4 => ?_⟩⟩
      refine q' _ _ upd_same ?_
      rw [rm_updD, rm_eq nD4]
      refine ⟨upd_same, ?_, ?_, ?_⟩
      · rw [rm_updD, rm_eq nl4]
        exact g2.trans o4
      · rw [rm_updD, rm_eq nl4]
        exact hk4
      · rw [g4, List.range_succ, List.map_append]
        rfl
    · intro H3 mk hD3 hyl ⟨g1, g2, g3, g4⟩
      rw [List.length_map, List.length_range] at g4
      subst g4
      have nDl : D ≠ l := fun e => by rw [e, hl2] at hD; cases hD
      have nDp : pl ≠ D := fun e => by rw [e, hD] at hpl; cases hpl
      have hl3 : H3 l = some (.lst []) := rm_le _ _ g1
      have hk3 : KpAt c Ck (rm l H3) A b ps y ls past := g3.same (by rw [rm_comm]; exact rm_le)
      have o3 : Off A (rm l H2) (rm l H3) := g2.trans (Off.of (by rw [rm_comm]; exact rm_le))
      have hD3' : rm l H3 D = some (.lst ((List.range (nSt ls k)).map fun j => V.int (mark y b (num ps) (strch ls k j)))) := rm_of nDl hD3
      have nDk : D ≠ A.k ∧ D ≠ A.l ∧ D ≠ A.p := by
        have n0 : H D = none := s1.free (s2.free hD)
        obtain ⟨r, h1, _⟩ := hk.ins
        obtain ⟨ts, h2, _⟩ := hk.pst
        exact ⟨(fun e => by rw [e, h1] at n0; cases n0), (fun e => by rw [e, hk.ltr] at n0; cases n0), (fun e => by rw [e, h2] at n0; cases n0)⟩
      have hp3 : H3 pl = some (.lst ((List.range (nSt ls k)).map fun i : Nat => V.int i)) := by
        refine rm_le _ _ (o3 pl _ (fun e => ?_) (fun e => ?_) (fun e => ?_) (rm_of nlp hpl))
        · obtain ⟨r, h1, _⟩ := hk.ins
          rw [e, h1] at np0; cases np0
        · rw [e, hk.ltr] at np0; cases np0
        · obtain ⟨ts, h1, _⟩ := hk.pst
          rw [e, h1] at np0; cases np0
      clear g1 g2 g3
      walk_at "go"
      intro D2 hD2
      refine lc_rel ((List.range (nSt ls k)).map fun i : Nat => V.int i) (fun x y G => ∃ t, y = .ref t ∧ ∀ i : Nat, x = .int i → t ≠ l ∧ G t = some (.lst ((strch ls k i).map V.int))) (fun x y G G' s h => by
        obtain ⟨t, e, h⟩ := h
        exact ⟨t, e, fun i ei => ⟨(h i ei).1, s _ _ (h i ei).2⟩⟩) walk_list hD2 (fun H' s => sq (s _ _ hp3)) (by rw [List.length_map, List.length_range]; unfold nSt; omega) (fun _ => rfl) ?_ ?_
      · rintro i x H4 hx s4 ⟨acc, hacc⟩ Q' q'
        obtain ⟨i', hi', rfl⟩ := get_map hx
        obtain ⟨hil, rfl⟩ := List.getElem?_eq_some_iff.mp hi'
        rw [List.getElem_range] at *
        rw [List.length_range] at hil
        have hik : i + k ≤ ls.length := by unfold nSt at hil; omega
        have hkF : KpAt c Ck H4 A b ps y ls past := (hk3.same rm_le).same s4
        walk_at "go"
        refine w_slL (sq hkF.ltr) (al fun u H5 n5 s5 h5 => ?_)
        rw [← Int.natCast_add, cut_ij ls (by omega) hik] at h5
        refine q' _ _ s5 ⟨u, rfl, fun j ej => ?_⟩
        obtain rfl : i = j := by
          have ej : (i : Int) = j := by injection ej
          omega
        exact ⟨ne_of_none' (s4 _ _ hl3) n5, rm_of (ne_of_none' hacc n5) h5⟩
      · intro H4 ys s4 hD4 pr
        obtain ⟨ss, rfl, pr2⟩ : ∃ ss : List Addr, ys = ss.map V.ref ∧ Paired (fun (i : Nat) t => t ≠ l ∧ H4 t = some (.lst ((strch ls k i).map V.int))) (List.range (nSt ls k)) ss := refs_of pr fun i => rfl
        have nl2 : D2 ≠ l := fun e => by rw [e, hl3] at hD2; cases hD2
        have hl4 := s4 _ _ hl3
        have hp4 : rm l H4 pl = _ := rm_of nlp (s4 _ _ hp3)
        have hm4 : rm l H4 D = _ := rm_of nDl (s4 _ _ hD3)
        have hs4 : rm l H4 D2 = _ := rm_of nl2 hD4
        have hk4 : KpAt c Ck (rm l H4) A b ps y ls past := hk3.same s4.rm
        have o4 : Off A (rm l H2) (rm l H4) := o3.trans (Off.of s4.rm)
        have hst : ∀ i, i < nSt ls k → ∃ t, (ss.map V.ref)[i]? = some (.ref t) ∧ rm l H4 t = some (.lst ((strch ls k i).map V.int)) := fun i hi => by
          obtain ⟨t, h1, h2, h3⟩ := paired_get pr2 (show (List.range (nSt ls k))[i]? = some i by rw [List.getElem?_range hi])
          exact ⟨t, by rw [List.getElem?_map, h1]; rfl, rm_of h2 h3⟩
        have hmk : ∀ i, i < nSt ls k → ((List.range (nSt ls k)).map fun j => V.int (mark y b (num ps) (strch ls k j)))[i]? = some (.int (mark y b (num ps) (strch ls k i))) := fun i hi => by
          rw [List.getElem?_map, List.getElem?_range hi]; rfl
        have hm1000 : nSt ls k ≤ 201 := by unfold nSt; omega
        generalize ((List.range (nSt ls k)).map fun j => V.int (mark y b (num ps) (strch ls k j))) = mks at hm4 hmk
        generalize ss.map V.ref = sts at hs4 hst
        clear pr pr2 s4 hl3 hp3 hD3 hD3' hk3 o3 hD2 hD4
        walk_at "go"
        refine for_it (walk_list (xs := (List.range (nSt ls k)).map fun i : Nat => V.int i)) (fun i σ H' => ∃ (v7 v8 : Option V) (ts : List Addr), σ = [some (.ref A.k), some (.int k), some (.ref l), some (.ref pl), some (.ref D), none, some (.ref D2), v7, v8] ∧ Same (rm l H4) (rm l H') ∧ H' l = some (.lst (ts.map V.ref)) ∧ ts.length ≤ i * 201 ∧ Paired (fun (p : Nat × Nat) t => rm l H' t = some (.tup [.int p.1, .int p.2])) ((List.range i).flatMap fun i => clRow y b (num ps) ls k i ((List.range (nSt ls k)).drop (i + 1))) ts) ⟨_, _, [], rfl, Same.refl _, hl4, Nat.zero_le _, .nil⟩ (fun i σ H' _ z => by obtain ⟨_, _, _, _, z, _⟩ := z; exact sq (rm_le _ _ (z _ _ hp4))) ?_ ?_
        · rintro i x σ H5 H5' hi ⟨v7, v8, ts, rfl, s5, hl5, htl, pp⟩ ⟨rfl, hx⟩
          obtain ⟨i', hi', rfl⟩ := get_map hx
          obtain ⟨hil, rfl⟩ := List.getElem?_eq_some_iff.mp hi'
          rw [List.getElem_range] at *
          rw [List.length_range] at hil
          walk_at "go"
          refine w_slL (sq (rm_le _ _ (s5 _ _ hp4))) (al fun q1 H6 n6 s6 h6 => ?_)
          rw [← Int.natCast_one, ← Int.natCast_add, cut_from'] at h6
          have hl6 := s6 _ _ hl5
          have S6 : Same (rm l H4) (rm l H6) := s5.trans s6.rm
          have pp6 := paired_imp (fun _ _ z => s6.rm _ _ z) pp
          have nq1 : q1 ≠ l := ne_of_none' hl5 n6
          walk_at "go"
          refine for_it (walk_list (xs := ((List.range (nSt ls k)).drop (i + 1)).map fun i : Nat => V.int i)) (fun j σ H' => ∃ (v8 : Option V) (ts : List Addr), σ = [some (.ref A.k), some (.int k), some (.ref l), some (.ref pl), some (.ref D), none, some (.ref D2), some (.int (i : Nat)), v8] ∧ Same (rm l H6) (rm l H') ∧ H' l = some (.lst (ts.map V.ref)) ∧ ts.length ≤ i * 201 + j ∧ Paired (fun (p : Nat × Nat) t => rm l H' t = some (.tup [.int p.1, .int p.2])) (((List.range i).flatMap fun i => clRow y b (num ps) ls k i ((List.range (nSt ls k)).drop (i + 1))) ++ clRow y b (num ps) ls k i (((List.range (nSt ls k)).drop (i + 1)).take j)) ts) ⟨_, ts, rfl, Same.refl _, hl6, by omega, ?_⟩ (fun j σ H' _ z => by obtain ⟨_, _, _, z, _⟩ := z; exact sq (rm_le _ _ (z _ _ (rm_of nq1 h6)))) ?_ ?_
          · rw [List.take_zero]
            show Paired _ (_ ++ []) _
            rw [List.append_nil]
            exact pp6
          · rintro jj x σ H7 H7' hjj ⟨v8, ts, rfl, s7, hl7, htl7, pp7⟩ ⟨rfl, hx⟩
            obtain ⟨j, hj, rfl⟩ := get_map hx
            rw [List.length_map, List.length_drop, List.length_range] at hjj
            have hjm : j < nSt ls k := List.mem_range.mp (List.mem_of_mem_drop (List.mem_of_getElem? hj))
            have S7 := S6.trans s7
            obtain ⟨ti, hti, eti⟩ := hst i hil
            obtain ⟨tj, htj, etj⟩ := hst j hjm
            have tk : clRow y b (num ps) ls k i (((List.range (nSt ls k)).drop (i + 1)).take (jj + 1)) = clRow y b (num ps) ls k i (((List.range (nSt ls k)).drop (i + 1)).take jj) ++ clRow y b (num ps) ls k i [j] := by
              unfold clRow
              rw [List.take_add_one, hj, List.filter_append, List.map_append]
              rfl
            rw [tk]
            have no : clP y b (num ps) ls k i j = false → clRow y b (num ps) ls k i [j] = [] := fun h => by unfold clRow; rw [List.filter_cons, if_neg (by rw [h]; decide)]; rfl
            have yes : clP y b (num ps) ls k i j = true → clRow y b (num ps) ls k i [j] = [(i, j)] := fun h => by unfold clRow; rw [List.filter_cons, if_pos h]; rfl
            walk_at "go"
            refine w_ixL (sq (rm_le _ _ (S7 _ _ hm4))) (atI_nat (hmk i hil)) ?_
            walk_at "go"
            refine w_ixL (sq (rm_le _ _ (S7 _ _ hm4))) (atI_nat (hmk j hjm)) ?_
            walk_at "go"
            rw [decI]
            refine ite_d (fun he => ?_) (fun he => ?_)
            · walk_at "go"
              refine w_ixL (sq (rm_le _ _ (S7 _ _ hs4))) (atI_nat hti) ?_
              walk_at "go"
              refine w_ixL (sq (rm_le _ _ (S7 _ _ hs4))) (atI_nat htj) ?_
              walk_at "go"
              refine w_neLL (ls := strch ls k i) (ms := strch ls k j) (sq (rm_le _ _ (S7 _ _ eti))) (sq (rm_le _ _ (S7 _ _ etj))) ?_
              walk_at "go"
              by_cases h2 : strch ls k i = strch ls k j
              · rw [decide_eq_true h2]
                refine iteF ?_
                walk_at "go"
                rw [no (by unfold clP; rw [decide_eq_true h2, Bool.not_true, Bool.and_false]), List.append_nil]
                exact ⟨_, ts, rfl, s7, hl7, by omega, pp7⟩
              · rw [decide_eq_false h2]
                refine iteT ?_
                walk_at "go"
                refine al fun t1 H8 n8 s8 h8 => ?_
                walk_at "go"
                refine w_append (s8 _ _ hl7) (sz (by rw [List.length_map]; omega)) ?_
                have nt1 : t1 ≠ l := ne_of_none' hl7 n8
                walk_at "go"
                rw [yes (by unfold clP; rw [decide_eq_true he, decide_eq_false h2]; rfl), ← List.append_assoc]
                refine ⟨_, ts ++ [t1], rfl, ?_, by rw [upd_same, List.map_append]; rfl, by rw [List.length_append, List.length_singleton]; omega, ?_⟩
                · rw [rm_updS]
                  exact s7.trans s8.rm
                · rw [rm_updS]
                  exact Paired.snoc (paired_imp (fun _ _ z => s8.rm _ _ z) pp7) (rm_of nt1 h8)
            · walk_at "go"
              rw [no (by unfold clP; rw [decide_eq_false he, Bool.false_and]), List.append_nil]
              exact ⟨_, ts, rfl, s7, hl7, by omega, pp7⟩
          · rintro σ H7 ⟨v8, ts, rfl, s7, hl7, htl7, pp7⟩
            rw [List.length_map, List.length_drop, List.length_range] at htl7
            rw [List.take_of_length_le (by rw [List.length_map]; exact Nat.le_refl _)] at pp7
            walk_at "go"
            refine ⟨_, _, ts, rfl, S6.trans s7, hl7, by omega, ?_⟩
            rw [List.range_succ, List.flatMap_append]
            show Paired _ (_ ++ (_ ++ [])) _
            rw [List.append_nil]
            exact pp7
        · rintro σ H5 ⟨v7, v8, ts, rfl, s5, hl5, htl, pp⟩
          walk_at "go"
          refine q l H5 n1 (fun x o e1 e2 e3 h => ?_) (hk4.same s5) ⟨ts, hl5, ?_⟩
          · exact rm_le _ _ (s5 _ _ (o4 _ _ e1 e2 e3 (rm_of (ne_of_none h n1) (s2 _ _ (s1 _ _ h)))))
          · rw [List.length_map, List.length_range] at pp
            exact paired_imp (fun _ _ z => rm_le _ _ z) pp

abbrev s_kpundo : Stmt := (inClass (top 35) 9)
theorem sc_kpundo : FnScope ["self", "first", "last", "letters"] ["self"] (defScope s_kpundo) :=
  ⟨rfl, rfl, rfl, by decide +kernel, rfl, by decide +kernel, by decide +kernel⟩
theorem ok_kpundo {c : CA} {Ck : Addr} {f : Addr} {fd : FuncData} (F : FunD K "undo" "Kept.undo" (defArgs s_kpundo) (defBody s_kpundo) (defScope s_kpundo) [] [] f fd) (T : Bt mg) (KP : KpK K mg Ck) (hne : ∀ z ∈ [c.wy, c.md, c.kg], z ≠ Ck) : FnOk P w K mg base L2.CX0 1 f fd ["self"] (spKnUndo c Ck) := by
  refine fnD_ok F sc_kpundo (fun vs H Q E h => ?_) (fun cdv A outer s H vs Q E hr h => ?_)
  · obtain ⟨A, b, ps, y, ls, pre, q0, rfl, _⟩ := h
    rfl
  · obtain ⟨A, b, ps, y, ls, pre, q0, rfl, hk, fe, el, hz, q⟩ := h
    refine ⟨_, (pss_cons (ps_if (pt_cmpR (op_eqE hr.units) (pe_fld (pv 0) rfl) (pe_lst pa_nil) (nomark _)) (pss_one ps_never) pss_nil)
      (pss_cons (ps_asg (pe_bm0 PySem.F.plainAttrs_list PySem.F.slot_list_pop PySem.F.type_list_pop mt_pop (pe_fld (pv 0) rfl)) (pg_tup rfl (pgs_cons (pg_name (i := 1) sc_kpundo.nd rfl (Or.inl rfl)) (pgs_cons (pg_name (i := 2) sc_kpundo.nd rfl (Or.inl rfl)) (pgs_cons (pg_name (i := 3) sc_kpundo.nd rfl (Or.inl rfl)) pgs_nil)))))
      (pss_cons (ps_asg (pv 3) (pg_slc (pe_fld (pv 0) rfl) (po_some (pv 1)) (po_some (pv 2))))
      (pss_one (ps_fld (pv 0) pe_non rfl))))), ?_⟩
    obtain ⟨ts, hts, pts⟩ := hk.pst
    walk_at "go"
    refine al fun z H1 n1 s1 h1 => ?_
    walk_at "go"
    refine w_eqE (sq (s1 _ _ hts)) (sq h1) ?_
    · obtain ⟨ts, t, rfl⟩ : ∃ ts' t, ts = ts' ++ [t] := by
        rcases List.eq_nil_or_concat ts with e | ⟨a, b, e⟩
        · subst e
          have := pts.length
          simp at this
        · exact ⟨a, b, by rw [e, List.concat_eq_append]⟩
      rw [show ((ts ++ [t]).map V.ref).isEmpty = false by simp]
      walk_at "go"
      refine iteF ?_
      have hk1 := hk.same s1
      have hts1 := s1 _ _ hts
      have pts1 := paired_imp (fun _ _ z => PsT.same z s1) pts
      walk_at "go"
      refine w_pop (by rw [hts1, List.map_append]; rfl) ?_
      obtain ⟨o2, hk2, hq⟩ := hk1.pop hne hts1 pts1
      have O2 := (Off.of s1).trans o2
      generalize upd H1 A.p (.lst (ts.map V.ref)) = H2 at O2 hk2 hq ⊢
      obtain ⟨zl, e1, e2, zn1, zn2⟩ := hq
      refine w_gtup (sqt e1) rfl ?_
      walk_at "go"
      refine ⟨A.l, zl, ls.map V.int, q0.ls.map V.int, q0.f, q0.e, rfl, rfl, rfl, rfl, hk2.ltr, e2, zn1.symm, by omega, by omega, by rw [List.length_map]; omega, by rw [List.length_map, List.length_map]; omega, ?_⟩
      rw [Int.toNat_natCast, Int.toNat_natCast, ← List.map_take, ← List.map_drop, ← List.map_append, ← List.map_append]
      walk_at "go"
      obtain ⟨r, hi, _⟩ := hk2.ins
      refine w_sfldi (by rw [upd_ne hk2.kl]; exact hi) KP.kp.cl KP.rests (by show 4 < 1000; decide) ?_
      rw [put_rests]
      walk_at "go"
      have hz4 : (ls.take q0.f ++ q0.ls ++ ls.drop q0.e).length ≤ 1000 := by
        simp only [List.length_append, List.length_take, List.length_drop]
        omega
      obtain ⟨o4, hk4⟩ := hk2.setl (ls' := ls.take q0.f ++ q0.ls ++ ls.drop q0.e) hne hz4
      exact q _ (O2.trans o4) hk4
abbrev s_kptwin : Stmt := (inClass (top 35) 15)
theorem sc_kptwin : FnScope ["self", "found"] ["self"] (defScope s_kptwin) :=
  ⟨rfl, rfl, rfl, by decide +kernel, rfl, by decide +kernel, by decide +kernel⟩
theorem ok_kptwin {c : CA} {Ck : Addr} {f : Addr} {fd : FuncData} (F : FunD K "twin" "Kept.twin" (defArgs s_kptwin) (defBody s_kptwin) (defScope s_kptwin) [] [] f fd) (T : Bt mg) (X : Kx K mg c) (KP : KpK K mg Ck) (c_kp2 : C8.Mak P w K mg base 4 "Kept" Ck (spKnInit c Ck) []) : FnOk P w K mg base L2.CX0 6 f fd ["self"] (spKnTwin c Ck) := by
  refine fnD_ok F sc_kptwin (fun vs H Q E h => ?_) (fun cdv AA outer s H vs Q E hr h => ?_)
  · obtain ⟨A, b, ps, y, ls, past, rfl, _⟩ := h
    rfl
  · obtain ⟨A, b, ps, y, ls, past, rfl, hk, q⟩ := h
    refine ⟨_, (pss_cons (ps_set (i := 1) sc_kptwin.nd rfl (Or.inl rfl) (pe_mk c_kp2 hr (by decide) (by rfl) (pa_cons (pe_fld (pv 0) rfl) (pa_cons (pe_fld (pv 0) rfl) pa_nil))))
      (pss_cons (ps_fld (pv 1) (pe_callTy cListOf (by rfl) T.list (by decide +kernel) (pa_cons (pe_fld (pv 0) rfl) pa_nil)) rfl)
      (pss_one (ps_ret (pv 1))))), ?_⟩
    walk_at "go"
    refine use_kn (.lst _ _ hk.ltr (by have := hk.sz; omega)) hk.sz hk.way fun A1 H1 nk nl np ew s1 hk1 => ?_
    walk_at "go"
    obtain ⟨ts, hts, pts⟩ := hk.pst
    refine w_listL (sq (s1 _ _ hts)) (al fun p2 H2 n2 s2 h2 => ?_)
    obtain ⟨r, hi, hr1⟩ := hk1.ins
    have n1p : ∀ {x : Addr} {o : HO}, H1 x = some o → x ≠ p2 := fun h => ne_of_none h n2
    have nk0 : ∀ {x : Addr} {o : HO}, H x = some o → x ≠ A1.k := fun h => ne_of_none h nk
    have hl1 := hk1.ltr
    have nlk := hk1.kl.symm
    walk_at "go"
    refine w_sfldi (s2 _ _ hi) KP.kp.cl KP.past (by show 4 < 1000; decide) ?_
    rw [put_past]
    walk_at "go"
    have sF : Same H (upd H2 A1.k (.ins Ck A1.dx (kpF A1.l A1.w p2 r))) := same_up nk (s1.trans s2)
    have hlF : upd H2 A1.k (.ins Ck A1.dx (kpF A1.l A1.w p2 r)) A1.l = some (.lst (ls.map V.int)) := by rw [upd_ne nlk]; exact s2 _ _ hl1
    have hpF : upd H2 A1.k (.ins Ck A1.dx (kpF A1.l A1.w p2 r)) p2 = some (.lst (ts.map V.ref)) := by rw [upd_ne (n1p hi).symm]; exact h2
    refine q ⟨A1.k, A1.dx, A1.l, p2, A1.w⟩ _ nk nl (s1.free n2) sF ⟨⟨r, upd_same, ?_⟩, hlF, ⟨ts, hpF, paired_imp (fun qq t z => ?_) pts⟩, ?_, n1p hl1, hk.sz, hk.pz⟩
    · rcases hr1 with h | ⟨q1, e1, e2, e3, e4⟩
      · exact .inl h
      · refine .inr ⟨q1, e1, ?_, e3, n1p e2⟩
        rw [upd_ne (fun e => by rw [e, hi] at e2; cases e2)]
        exact s2 _ _ e2
    · obtain ⟨z1, h1, h2, h3, h4⟩ := z
      exact ⟨z1, sF _ _ h1, sF _ _ h2, ne_of_none h2 nl, ne_of_none h2 (s1.free n2)⟩
    · have h := hk.way.same sF
      rw [← ew] at h
      exact h

abbrev s_mod9 : Stmt := (top 45)
theorem sc_mod9 : FnScope ["_law_purse_here", "_law_most", "_law_found", "_law_size", "_law_prime", "_law_power"] ["_law_purse_here", "_law_most"] (defScope s_mod9) :=
  ⟨rfl, rfl, rfl, by decide +kernel, rfl, by decide +kernel, by decide +kernel⟩
theorem ok_mod9 (F : Dn K mg "_law_modulus" s_mod9 ["_law_purse_here", "_law_most"]) (T : Bt mg) (c_draw : Cal P w K mg base 2 "_law_draw" spDraw []) : Cal P w K mg base 3 "_law_modulus" spMod9 [] := by
  refine F.cal sc_mod9 (fun vs H Q E h => ?_) (fun f cdv A outer s H vs Q E hr h => ?_)
  · obtain ⟨a, n, c, rfl, _⟩ := h
    rfl
  · obtain ⟨a, n, c, rfl, n0, n1, hc, pu, q⟩ := h
    refine ⟨_, (pss_cons (ps_set (i := 2) sc_mod9.nd rfl (Or.inl rfl) (pe_lst pa_nil))
      (pss_cons (ps_set (i := 3) sc_mod9.nd rfl (Or.inl rfl) pe_int)
      (pss_cons (ps_for PassesOwn.never rfl (pi_list (pe_lst (pa_cons pe_int (pa_cons pe_int (pa_cons pe_int (pa_cons pe_int (pa_cons pe_int (pa_cons pe_int (pa_cons pe_int (pa_cons pe_int (pa_cons pe_int (pa_cons pe_int pa_nil)))))))))))) (pg_name (i := 4) sc_mod9.nd rfl (Or.inl rfl)) (pss_cons (ps_set (i := 5) sc_mod9.nd rfl (Or.inl rfl) pe_int)
      (pss_cons (ps_while PassesOwn.never (PW.pt (pw_and (pt_cmpR op_eq (pe_c c_draw hr (by decide) (by rfl) (pa_cons (pv 0) (pa_cons pe_int pa_nil))) pe_int (nomark _)) (pw_and1 (pt_cmpR op_le (pe_op oMul (pv 3) (pv 4)) (pv 1) (nomark _))))) (pss_cons (ps_set (i := 5) sc_mod9.nd rfl (Or.inl rfl) (pe_op op_add (pv 5) pe_int))
      (pss_one (ps_set (i := 3) sc_mod9.nd rfl (Or.inl rfl) (pe_op oMul (pv 3) (pv 4))))))
      (pss_one (ps_if (pt_cmpR op_gt (pv 5) pe_int (nomark _)) (pss_one (ps_expr (pe_bm PySem.F.plainAttrs_list PySem.F.slot_list_append PySem.F.type_list_append mt_append (pv 2) (pa_cons (pe_tup (pa_cons (pv 4) (pa_cons (pv 5) pa_nil))) pa_nil)))) pss_nil)))))
      (pss_one (ps_ret (pe_lst (pa_cons (pv 2) (pa_cons (pv 3) pa_nil)))))))), ?_⟩
    walk_at "go"
    refine alR pu fun fa H1 s1 u1 h1 m1 => ?_
    walk_at "go"
    refine alR u1 fun la H2 s2 u2 h2 m2 => ?_
    walk_at "go"
    have hla : rm fa (rm a H2) la = some (.lst (PL2.map V.int)) := rm_of (fun e => by rw [e, h1] at m2; cases m2) h2
    refine for_list (K := K) (a := la) (xs := PL2.map V.int) (fun i σ H' => ∃ (ts : List Addr) (ps : List (Int × Int)) (v4 v5 : Option V), σ = [some (.ref a), some (.int n), some (.ref fa), some (.int (num ps)), v4, v5] ∧ Same (rm a H) (rm fa (rm a H')) ∧ rm fa (rm a H') la = some (.lst (PL2.map V.int)) ∧ Purse H' a (c + i + num ps) ∧
        rm a H' fa = some (.lst (ts.map V.ref)) ∧ Paired (Tp (rm fa (rm a H'))) ps ts ∧ Asc 0 ps ∧ (ps.getLast?.map (·.1)).getD 0 < PL2.getD i 10000 ∧ (∀ q ∈ ps, 0 < q.1 ∧ q.1 < 1024 ∧ 0 < q.2 ∧ q.2 ≤ 100) ∧ ps.length ≤ i ∧ 1 ≤ num ps ∧ num ps ≤ n)
      ⟨[], [], none, none, rfl, rm_in m1 (by walk_at "same"), hla, u2.le (by show c ≤ c + ((0 : Nat) : Int) + 1; omega), hpL h1 (by walk_at "same"), .nil, trivial, by decide, (fun q hq => by cases hq), by simp, by decide, by show (1 : Int) ≤ n; omega⟩
      (fun i σ H' _ z => by obtain ⟨_, _, _, _, _, _, z, _⟩ := z; exact sq (rm_le _ _ (rm_le _ _ z))) ?_ ?_
    · rintro i x σ H3 hi ⟨ts, ps, v4, v5, rfl, s3, hla3, u3, hf3, hp, ha, hlast, hsm, hlen, hn1, hn2⟩
      obtain ⟨p, hpi, rfl⟩ := get_map hi
      have hi10 : i < 10 := (List.getElem?_eq_some_iff.mp hpi).1
      have hP := PL2_pr ⟨i, hi10⟩
      have ep : PL2.getD i 0 = p := by rw [List.getD_eq_getElem?_getD, hpi]; rfl
      have ep2 : PL2.getD i 10000 = p := by rw [List.getD_eq_getElem?_getD, hpi]; rfl
      dsimp only at hP
      rw [ep] at hP
      rw [ep2] at hlast
      obtain ⟨hpr, hp2, hp3, hnx⟩ := hP
      walk_at "go"
      refine while_m (fun m σ H' => ∃ (k : Nat), σ = [some (.ref a), some (.int n), some (.ref fa), some (.int (num ps * p ^ k)), some (.int p), some (.int k)] ∧ Same (rm a H3) (rm a H') ∧ Purse H' a (c + i + num ps * p ^ k) ∧ 1 ≤ num ps * p ^ k ∧ num ps * p ^ k ≤ n ∧ m = (n - num ps * p ^ k).toNat) _
        ⟨0, by rw [Int.pow_zero, Int.mul_one]; rfl, Same.refl _, u3.le (by rw [Int.pow_zero, Int.mul_one]; exact Int.le_refl _), by rw [Int.pow_zero, Int.mul_one]; exact hn1, by rw [Int.pow_zero, Int.mul_one]; exact hn2, rfl⟩ ?_
      rintro m σ H4 ⟨k, rfl, s4, u4, b1, b2, rfl⟩
      have hk10 := pow_small9 hp2 hn1 b2 n1
      walk_at "go"
      refine use_drawR u4 (by decide) (by decide) (by omega) fun r H5 r0 r1 s5 u5 => ?_
      walk_at "go"
      rw [decI]
      refine ite_d (fun hr => ?_) (fun hr => ?_)
      walk_at "go"
      refine ite_d (fun hs => ?_) (fun hs => ?_)
      · walk_at "go"
        have hgrow : num ps * p ^ k + 1 ≤ num ps * p ^ k * p := by
          have := Int.mul_le_mul_of_nonneg_left hp2 (show 0 ≤ num ps * p ^ k by omega)
          omega
        refine ⟨_, ?_, k + 1, by rw [Int.pow_succ, ← Int.mul_assoc]; rfl, by walk_at "same", u5.le ?_, ?_, ?_, rfl⟩
        · rw [Int.pow_succ, ← Int.mul_assoc]
          omega
        · rw [Int.pow_succ, ← Int.mul_assoc]
          omega
        · rw [Int.pow_succ, ← Int.mul_assoc]
          omega
        · rw [Int.pow_succ, ← Int.mul_assoc]
          exact hs
      all_goals
        try refine iteF ?_
        walk_at "go"
        refine ite_d (fun hk => ?_) (fun hk => ?_)
        · walk_at "go"
          refine alR u5 fun tq H6 s6 u6 h6 n6 => ?_
          walk_at "go"
          have h5f : rm a H5 fa = some (.lst (ts.map V.ref)) := by walk_at "hp"
          have ntq : tq ≠ fa := fun e => by rw [e, h5f] at n6; cases n6
          have hl2 : ps.length = ts.length := hp.length
          refine w_appendR u6 (xs := ts.map V.ref) (by walk_at "hp") (by rw [List.length_map]; have : (100000 : Nat) < sizeLine := (by decide); omega) fun H7 s7 u7 h7 => ?_
          walk_at "go"
          have hq7 : rm fa (rm a H7) tq = some (.tup [.int p, .int k]) := hpL (rm_of ntq h6) (by walk_at "same")
          have sG : Same (rm fa (rm a H3)) (rm fa (rm a H7)) := by walk_at "same"
          have en : num (ps ++ [(p, (k : Int))]) = num ps * p ^ k := by rw [num_snoc]; rfl
          refine ⟨ts ++ [tq], ps ++ [(p, (k : Int))], _, _, by rw [en], s3.trans sG, sG _ _ hla3, u7.le (by rw [en]; omega), by rw [h7, List.map_append]; rfl, Paired.snoc (paired_imp (fun _ _ z => sG _ _ z) hp) hq7, ha.snoc hlast (by show (0 : Int) < k; omega) hpr, ?_, ?_, ?_, by rw [en]; exact b1, by rw [en]; exact b2⟩
          · rw [List.getLast?_concat]
            exact hnx
          · intro q hq
            rcases List.mem_append.mp hq with h | h
            · exact hsm q h
            · have e : q = (p, (k : Int)) := by simpa using h
              subst e
              exact ⟨by show 0 < p; omega, hp3, by show (0 : Int) < k; omega, by show (k : Int) ≤ 100; omega⟩
          · rw [List.length_append]
            simp only [List.length_cons, List.length_nil]
            omega
        · have ek : k = 0 := by omega
          subst ek
          walk_at "go"
          rw [Int.pow_zero, Int.mul_one] at u5
          have sG : Same (rm fa (rm a H3)) (rm fa (rm a H5)) := by walk_at "same"
          exact ⟨ts, ps, _, _, by rw [Int.pow_zero, Int.mul_one], s3.trans sG, sG _ _ hla3, u5.le (by omega), by walk_at "hp", paired_imp (fun _ _ z => sG _ _ z) hp, ha, Int.lt_trans hlast hnx, hsm, by omega, hn1, hn2⟩
    · rintro σ H3 ⟨ts, ps, v4, v5, rfl, s3, hla3, u3, hf3, hp, ha, hlast, hsm, hlen, hn1, hn2⟩
      walk_at "go"
      refine alR u3 fun r H4 s4 u4 h4 n4 => ?_
      walk_at "go"
      have e10 : (PL2.map V.int).length = 10 := rfl
      rw [e10] at u4 hlen
      refine q r fa H4 ps (by walk_at "same") (u4.le (by omega)) h4 ⟨ts, by walk_at "hp", paired_imp (fun _ _ z => hpL z (by walk_at "same")) hp⟩ ha ⟨hsm, by omega⟩ hn2

abbrev s_sum : Stmt := (top 43)
theorem sc_sum : FnScope ["_law_letters_here", "_law_root_here", "_law_given", "_law_found", "_law_letter"] ["_law_letters_here", "_law_root_here", "_law_given"] (defScope s_sum) :=
  ⟨rfl, rfl, rfl, by decide +kernel, rfl, by decide +kernel, by decide +kernel⟩
theorem ok_sum (F : Dn K mg "_law_sum" s_sum ["_law_letters_here", "_law_root_here", "_law_given"]) (T : Bt mg) : Cal P w K mg base 1 "_law_sum" spSum [] := by
  refine F.cal sc_sum (fun vs H Q E h => ?_) (fun f cdv A outer s H vs Q E hr h => ?_)
  · obtain ⟨l, g, r, ls, y, rfl, _⟩ := h
    rfl
  · obtain ⟨l, g, r, ls, y, rfl, hl, hg, hlen, hr4, hls, hs, q⟩ := h
    have hfb := hf_bits (y := y) (R := 4000) (by decide) hls hs
    refine ⟨_, (pss_cons (ps_set (i := 3) sc_sum.nd rfl (Or.inl rfl) (pe_callTy cInt1 (by rfl) T.int (by decide +kernel) (pa_cons (pe_ix ix_list (pv 2) pe_int (fun _ _ => rfl)) pa_nil)))
      (pss_cons (ps_for PassesOwn.never rfl (pi_list (pe_ifExp (pt_val (pe_ix ix_list (pv 2) pe_int (fun _ _ => rfl))) (pe_revL (pv 0)) (pv 0))) (pg_name (i := 4) sc_sum.nd rfl (Or.inl rfl)) (pss_one (ps_set (i := 3) sc_sum.nd rfl (Or.inl rfl) (pe_op op_add (pe_op op_add (pe_op oMul (pv 3) (pv 1)) (pv 4)) (pe_ix ix_list (pv 2) pe_int (fun _ _ => rfl))))))
      (pss_one (ps_ret (pv 3))))), ?_⟩
    walk_at "go"
    obtain ⟨cs, ecs, hcl, rev⟩ : ∃ cs : List Int, hf y ls = Bc.ld y :: cs.map (· + y.shift) ∧ cs.length = ls.length ∧ (if y.low then ls.reverse else ls) = cs := ⟨if y.low then ls.reverse else ls, by unfold hf Bc.ld; cases y.low <;> simp, by cases y.low <;> simp, rfl⟩
    rcases Bool.eq_false_or_eq_true y.low with hlow | hlow
    rw [hlow] at rev ⊢
    simp only [if_true] at rev
    refine iteT ?_
    walk_at "go"
    refine w_revx (sq hl) (al fun p H1 n1 s1 h1 => ?_)
    rw [map_rev, rev] at h1
    rotate_left
    rw [hlow] at rev ⊢
    simp only [Bool.false_eq_true, if_false] at rev
    refine iteF ?_
    walk_at "go"
    have h1 : H l = some (.lst (cs.map V.int)) := by rw [← rev]; exact hl
    have s1 := Same.refl H
    all_goals
      walk_at "go"
      refine for_list (K := K) (xs := cs.map V.int) (fun i σ H' => ∃ (u : Option V), σ = [some (.ref l), some (.int r), some (.ref g), some (.int (hv ((hf y ls).take (i + 1)) r)), u] ∧ H' = _)
        ⟨none, by rw [ecs]; simp [hv]; rfl, rfl⟩ (fun i σ H' _ z => by obtain ⟨_, _, rfl⟩ := z; exact sq h1) ?_ ?_
      · rintro i x σ H' hi ⟨u, rfl, rfl⟩
        obtain ⟨z, hz, rfl⟩ := get_map hi
        have hil : i < cs.length := (List.getElem?_eq_some_iff.mp hz).1
        have hc : (hf y ls)[i + 1]? = some (z + y.shift) := by rw [ecs, List.getElem?_cons_succ, List.getElem?_map, hz]; rfl
        have hm : CMx (hv ((hf y ls).take (i + 1)) r) r := mx_w (hv_bits hr4 hfb (i + 1)) hr4 (by omega)
        walk_at "go"
        exact ⟨_, by rw [hv_take hc, Int.add_assoc], rfl⟩
      · rintro σ H' ⟨u, rfl, rfl⟩
        walk_at "go"
        have e : (hf y ls).take ((cs.map V.int).length + 1) = hf y ls := List.take_of_length_le (by rw [ecs]; simp)
        rw [e]
        exact q _ s1

abbrev s_some : Stmt := (top 46)
theorem sc_some : FnScope ["_law_purse_here", "_law_most", "_law_kind", "_law_found", "_law_k"] ["_law_purse_here", "_law_most"] (defScope s_some) :=
  ⟨rfl, rfl, rfl, by decide +kernel, rfl, by decide +kernel, by decide +kernel⟩
theorem ok_some (F : Dn K mg "_law_some" s_some ["_law_purse_here", "_law_most"]) (T : Bt mg) (c_draw : Cal P w K mg base 2 "_law_draw" spDraw []) : Cal P w K mg base 3 "_law_some" spSome87 [] := by
  refine F.cal sc_some (fun vs H Q E h => ?_) (fun f cdv AA outer s H vs Q E hr h => ?_)
  · obtain ⟨a, cc, m, rfl, _⟩ := h
    rfl
  · obtain ⟨a, cc, m, rfl, hm, hc, u0, q⟩ := h
    refine ⟨_, (pss_cons (ps_set (i := 2) sc_some.nd rfl (Or.inl rfl) (pe_c c_draw hr (by decide) (by rfl) (pa_cons (pv 0) (pa_cons pe_int pa_nil))))
      (pss_cons (ps_if (pt_cmpR op_eq (pv 2) pe_int (nomark _)) (pss_one (ps_ret (pe_ix ix_list (pe_lst (pa_cons pe_str (pa_cons pe_str (pa_cons pe_str (pa_cons pe_str pa_nil))))) (pe_c c_draw hr (by decide) (by rfl) (pa_cons (pv 0) (pa_cons pe_int pa_nil))) (fun _ _ => rfl)))) pss_nil)
      (pss_cons (ps_setLc (i := 3) (own := [("_law_k", 4)]) (g := gName 4) (tt := tYes) (te := (tOp _ (tCall _ _ _ (tCons (tVar 0) (tCons _ tNil))) (tOp _ _ (tCall _ _ _ (tCons (tVar 0) (tCons _ tNil)))))) rfl sc_some.nd rfl rfl (sw_true rfl rfl rfl (by decide +kernel)) (pi_range1 (by rfl) T.range (pa_cons (pe_c c_draw hr (by decide) (by rfl) (pa_cons (pv 0) (pa_cons (pe_op op_add (pv 1) pe_int) pa_nil))) pa_nil)) (blkOk_by (own := [("_law_k", 4)]) (N := ["_law_purse_here", "_law_most", "_law_kind", "_law_found", "_law_k"]) (sc := defScope s_some) (by decide +kernel)) (fun _ _ _ _ _ => (pg_name (i := 4) sc_some.nd rfl (Or.inl rfl))) (fun _ _ _ _ _ => pts_nil) (fun _ _ _ _ _ => (pe_op op_add (pe_c c_draw hr (by decide) (by rfl) (pa_cons (pv 0) (pa_cons pe_int pa_nil))) (pe_op oMul pe_int (pe_c c_draw hr (by decide) (by rfl) (pa_cons (pv 0) (pa_cons pe_int pa_nil)))))))
      (pss_one (ps_ret (pe_ix ix_list (pe_lst (pa_cons (pv 3) (pa_cons (pe_callTy cTupOf (by rfl) T.tuple (by decide +kernel) (pa_cons (pv 3) pa_nil)) pa_nil))) (pe_op op_fdivW (pv 2) pe_int) (fun _ _ => rfl))))))), ?_⟩
    walk_at "go"
    refine use_drawR u0 (by decide) (by decide) (by omega) fun kd H1 k0 k1 s1 u1 => ?_
    walk_at "go"
    rw [decI]
    refine ite_d (fun hk => ?_) (fun hk => ?_)
    · walk_at "go"
      refine alR u1 fun L H2 s2 u2 h2 _ => ?_
      walk_at "go"
      refine use_drawR u2 (by decide) (by decide) (by omega) fun j H3 j0 j1 s3 u3 => ?_
      have cj : j = 0 ∨ j = 1 ∨ j = 2 ∨ j = 3 := by omega
      have S3 := s1.trans (s2.trans s3)
      rcases cj with rfl | rfl | rfl | rfl
      · refine w_ixL (by walk_at "hp") (atI_nat (j := 0) rfl) ?_
        walk_at "go"
        exact q _ [] _ S3 (u3.le (by omega)) (.inl ⟨_, rfl, .str "" (by decide +kernel) (by decide +kernel)⟩) (Nat.zero_le _) (by unfold SmL; decide)
      · refine w_ixL (by walk_at "hp") (atI_nat (j := 1) rfl) ?_
        walk_at "go"
        exact q _ [97, 98] _ S3 (u3.le (by omega)) (.inl ⟨_, rfl, .str "ab" (by decide +kernel) (by decide +kernel)⟩) (by show 2 ≤ max m 4; omega) (by unfold SmL; decide)
      · refine w_ixL (by walk_at "hp") (atI_nat (j := 2) rfl) ?_
        walk_at "go"
        exact q _ [98, 97, 32, 126] _ S3 (u3.le (by omega)) (.inl ⟨_, rfl, .str "ba ~" (by decide +kernel) (by decide +kernel)⟩) (by show 4 ≤ max m 4; omega) (by unfold SmL; decide)
      · refine w_ixL (by walk_at "hp") (atI_nat (j := 3) rfl) ?_
        walk_at "go"
        exact q _ [97, 97, 98] _ S3 (u3.le (by omega)) (.inl ⟨_, rfl, .str "aab" (by decide +kernel) (by decide +kernel)⟩) (by show 3 ≤ max m 4; omega) (by unfold SmL; decide)
    · walk_at "go"
      refine use_drawR u1 (by omega) (by omega) (by omega) fun d H2 d0 d1 s2 u2 => ?_
      walk_at "go"
      intro D hD
      refine lc_drawsR ((List.range d.toNat).map fun i : Nat => V.int (0 + (i : Int))) 2 (fun z => 0 ≤ z ∧ z < 100) walk_rangeY u2 hD (fun _ _ => trivial) (by rw [List.length_map, List.length_range]; omega) (fun _ => rfl) ?_ ?_
      · intro i x H' hx s' u' Q' q'
        have hi : i < d.toNat := by have := (List.getElem?_eq_some_iff.mp hx).1; simpa using this
        walk_at "go"
        refine use_drawR u' (by decide) (by decide) (by omega) fun z H2 z0 z1 s2 u2 => ?_
        walk_at "go"
        refine use_drawR u2 (by decide) (by decide) (by omega) fun e H3 e0 e1 s3 u3 => ?_
        walk_at "go"
        exact q' _ H3 ⟨by omega, by omega⟩ (s2.trans s3) (u3.le (by omega))
      intro H3 ls hls hR h3 s3 u3
      rw [List.length_map, List.length_range] at hls u3
      have sm : SmL ls := fun z hz => Nat.lt_of_lt_of_le (show z.natAbs < 2 ^ 7 by have := hR z hz; omega) (Nat.pow_le_pow_right (by decide) (by decide))
      have nD : rm a H D = none := (s1.trans s2).free (rm_none hD)
      walk_at "go"
      refine w_tupL (sq (rm_le _ _ h3)) (alR u3 fun t H4 s4 u4 h4 _ => ?_)
      walk_at "go"
      refine alR u4 fun L H5 s5 u5 h5 _ => ?_
      walk_at "go"
      have S5 := s1.trans (s2.trans (s3.trans (s4.trans s5)))
      have ck : kd / 3 = 0 ∨ kd / 3 = 1 := by omega
      rcases ck with e | e
      · rw [e]
        refine w_ixL (by walk_at "hp") (atI_nat (j := 0) rfl) ?_
        walk_at "go"
        exact q _ ls _ S5 (u5.le (by omega)) (.inr (.inl ⟨D, rfl, nD, s5 _ _ (s4 _ _ h3)⟩)) (by omega) sm
      · rw [e]
        refine w_ixL (by walk_at "hp") (atI_nat (j := 1) rfl) ?_
        walk_at "go"
        exact q _ ls _ S5 (u5.le (by omega)) (.inr (.inr ⟨t, rfl, s5 _ _ h4⟩)) (by omega) sm

abbrev s_clsh : Stmt := (top 48)
theorem sc_clsh : FnScope ["_law_letters_here", "_law_many", "_law_root_here", "_law_given", "_law_size", "_law_found", "_law_cuts", "_law_spot", "_law_marks", "_law_cut", "_law_start", "_law_stop"] ["_law_letters_here", "_law_many", "_law_root_here", "_law_given", "_law_size"] (defScope s_clsh) :=
  ⟨rfl, rfl, rfl, by decide +kernel, rfl, by decide +kernel, by decide +kernel⟩
theorem ok_clsh (F : Dn K mg "_law_clashing" s_clsh ["_law_letters_here", "_law_many", "_law_root_here", "_law_given", "_law_size"]) (T : Bt mg) (c_sum : Cal P w K mg base 1 "_law_sum" spSum []) : Cal P w K mg base 2 "_law_clashing" spClsh [] := by
  refine F.cal sc_clsh (fun vs H Q E h => ?_) (fun f cdv AA outer s H vs Q E hr h => ?_)
  · obtain ⟨l, g, k, b, ps, y, ls, rfl, _⟩ := h
    rfl
  · obtain ⟨L, g, k, b, ps, y, ls, rfl, hL, hg, hlz, sm, hy, b0, bn, n40, hkz, q⟩ := h
    refine ⟨_, (pss_cons (ps_set (i := 5) sc_clsh.nd rfl (Or.inl rfl) (pe_lst pa_nil))
      (pss_cons (ps_setLc (i := 6) (own := [("_law_spot", 7)]) (g := gName 7) (tt := tYes) (te := (tSl (rSlL K) (tVar 0) (tPart (tVar 7)) (tPart (tOp _ (tVar 7) (tVar 1))))) rfl sc_clsh.nd rfl rfl (sw_true rfl rfl rfl (by decide +kernel)) (pi_range1 (by rfl) T.range (pa_cons (pe_op op_add (pe_op op_sub (pe_callB cLen (by rfl) T.len (by decide +kernel) (pa_cons (pv 0) pa_nil)) (pv 1)) pe_int) pa_nil)) (blkOk_by (own := [("_law_spot", 7)]) (N := ["_law_letters_here", "_law_many", "_law_root_here", "_law_given", "_law_size", "_law_found", "_law_cuts", "_law_spot", "_law_marks", "_law_cut", "_law_start", "_law_stop"]) (sc := defScope s_clsh) (by decide +kernel)) (fun _ _ _ _ _ => (pg_name (i := 7) sc_clsh.nd rfl (Or.inl rfl))) (fun _ _ _ _ _ => pts_nil) (fun _ _ _ _ _ => (pe_slice sl_list (pv 0) (po_some (pv 7)) (po_some (pe_op op_add (pv 7) (pv 1))))))
      (pss_cons (ps_setLc (i := 8) (own := [("_law_cut", 9)]) (g := gName 9) (tt := tYes) (te := (tOp _ (tCall _ _ _ (tCons (tVar 9) (tCons (tVar 2) (tCons (tVar 3) tNil)))) (tVar 4))) rfl sc_clsh.nd rfl rfl (sw_true rfl rfl rfl (by decide +kernel)) (pi_list (pv 6)) (blkOk_by (own := [("_law_cut", 9)]) (N := ["_law_letters_here", "_law_many", "_law_root_here", "_law_given", "_law_size", "_law_found", "_law_cuts", "_law_spot", "_law_marks", "_law_cut", "_law_start", "_law_stop"]) (sc := defScope s_clsh) (by decide +kernel)) (fun _ _ _ _ _ => (pg_name (i := 9) sc_clsh.nd rfl (Or.inl rfl))) (fun _ _ _ _ _ => pts_nil) (fun _ _ _ _ _ => (pe_op op_mod (pe_c c_sum hr (by decide) (by rfl) (pa_cons (pv 9) (pa_cons (pv 2) (pa_cons (pv 3) pa_nil)))) (pv 4))))
      (pss_cons (ps_for PassesOwn.never rfl (pi_range1 (by rfl) T.range (pa_cons (pe_callB cLen (by rfl) T.len (by decide +kernel) (pa_cons (pv 6) pa_nil)) pa_nil)) (pg_name (i := 10) sc_clsh.nd rfl (Or.inl rfl)) (pss_one (ps_for PassesOwn.never rfl (pi_range2 (by rfl) T.range (pa_cons (pe_op op_add (pv 10) pe_int) (pa_cons (pe_callB cLen (by rfl) T.len (by decide +kernel) (pa_cons (pv 6) pa_nil)) pa_nil))) (pg_name (i := 11) sc_clsh.nd rfl (Or.inl rfl)) (pss_one (ps_if (PW.pt (pw_and (pt_cmpR (op_neD hr.units) (pe_ix ix_list (pv 6) (pv 10) (fun _ _ => rfl)) (pe_ix ix_list (pv 6) (pv 11) (fun _ _ => rfl)) (nomark _)) (pw_and1 (pt_cmpR op_eq (pe_ix ix_list (pv 8) (pv 10) (fun _ _ => rfl)) (pe_ix ix_list (pv 8) (pv 11) (fun _ _ => rfl)) (nomark _))))) (pss_one (ps_expr (pe_bm PySem.F.plainAttrs_list PySem.F.slot_list_append PySem.F.type_list_append mt_append (pv 5) (pa_cons (pe_tup (pa_cons (pv 10) (pa_cons (pv 11) pa_nil))) pa_nil)))) pss_nil)))))
      (pss_one (ps_ret (pv 5))))))), ?_⟩
    walk_at "go"
    refine al fun l H1 n1 s1 h1 => ?_
    walk_at "go"
    rw [List.length_map]
    refine ⟨_, rfl, by omega, by omega, ?_⟩
    intro D hD
    have eN : ((ls.length : Int) - (k : Int) + 1).toNat = nSt ls k := by unfold nSt; omega
    rw [eN]
    have hm1000 : nSt ls k ≤ 151 := by unfold nSt; omega
    refine lc_rel ((List.range (nSt ls k)).map fun i : Nat => V.int (0 + (i : Int))) (fun x y G => ∃ t, y = .ref t ∧ ∀ i : Nat, x = .int (0 + (i : Int)) → t ≠ l ∧ G t = some (.lst ((strch ls k i).map V.int))) (fun x y G G' s h => by
        obtain ⟨t, e, h⟩ := h
        exact ⟨t, e, fun i ei => ⟨(h i ei).1, s _ _ (h i ei).2⟩⟩) walk_rangeY hD (fun _ _ => trivial) (by rw [List.length_map, List.length_range]; omega) (fun _ => rfl) ?_ ?_
    · rintro i x H4 hx s4 ⟨acc, hacc⟩ Q' q'
      obtain ⟨i', hi', rfl⟩ := get_map hx
      obtain ⟨hil, rfl⟩ := List.getElem?_eq_some_iff.mp hi'
      rw [List.getElem_range] at *
      rw [List.length_range] at hil
      have hik : i + k ≤ ls.length := by unfold nSt at hil; omega
      rw [Int.zero_add]
      walk_at "go"
      refine w_slL (sq (s4 _ _ (s1 _ _ hL))) (al fun u H5 n5 s5 h5 => ?_)
      rw [← Int.natCast_add, cut_ij ls (by omega) hik] at h5
      refine q' _ _ s5 ⟨u, rfl, fun j ej => ?_⟩
      obtain rfl : i = j := by
        injection ej with ej
        omega
      exact ⟨ne_of_none' (s4 _ _ h1) n5, rm_of (ne_of_none' hacc n5) h5⟩
    intro H2 ys s2 hD2 pr
    obtain ⟨ss, rfl, pr2⟩ : ∃ ss : List Addr, ys = ss.map V.ref ∧ Paired (fun (i : Nat) t => t ≠ l ∧ H2 t = some (.lst ((strch ls k i).map V.int))) (List.range (nSt ls k)) ss := by
      have e : ((List.range (nSt ls k)).map fun i : Nat => V.int (0 + (i : Int))) = (List.range (nSt ls k)).map fun i : Nat => V.int i := List.map_congr_left fun i _ => by rw [Int.zero_add]
      rw [e] at pr
      refine refs_of (f := fun i : Nat => V.int i) (paired_imp (fun x y z => ?_) pr) fun i => rfl
      obtain ⟨t, e, h⟩ := z
      exact ⟨t, e, fun i ei => h i (by rw [Int.zero_add]; exact ei)⟩
    have hL2 := s2 _ _ (s1 _ _ hL)
    have hg2 := s2 _ _ (s1 _ _ hg)
    have hl2 := s2 _ _ h1
    have nD : D ≠ l := fun e => by rw [e, h1] at hD; cases hD
    clear pr
    have hssl := pr2.length
    rw [List.length_range] at hssl
    have hss : ∀ i, i < nSt ls k → ∃ t, (ss.map V.ref)[i]? = some (.ref t) ∧ t ≠ l ∧ H2 t = some (.lst ((strch ls k i).map V.int)) := fun i hi => by
      obtain ⟨t, h1, h2, h3⟩ := paired_get pr2 (show (List.range (nSt ls k))[i]? = some i by rw [List.getElem?_range hi])
      exact ⟨t, by rw [List.getElem?_map, h1]; rfl, h2, h3⟩
    walk_at "go"
    intro D2 hDb
    refine lc_pure (ss.map V.ref) ((List.range (nSt ls k)).map fun j => V.int (mark y b (num ps) (strch ls k j))) walk_list hDb (fun H' s' => sq (s' _ _ hD2)) (by rw [List.length_map, List.length_map, List.length_range, hssl]) (by rw [List.length_map, List.length_range]; omega) (fun _ => rfl) ?_ ?_
    · intro i x z H3 hx hz s3 Q' q'
      have hil : i < nSt ls k := by
        have := (List.getElem?_eq_some_iff.mp hx).1
        rwa [List.length_map, ← hssl] at this
      obtain ⟨t, ht, ntl, et⟩ := hss i hil
      rw [hx] at ht
      cases ht
      rw [List.getElem?_map, List.getElem?_range hil] at hz
      cases hz
      walk_at "go"
      have sml : ((strch ls k i).length : Nat) ≤ 150 := by unfold strch; rw [List.length_drop, List.length_take]; omega
      have smi : ∀ x ∈ strch ls k i, x.natAbs < 10 ^ 31 := fun x hx => by
        have := (sm.take (i + k)).drop i x hx
        exact Nat.lt_trans this (by decide)
      refine ⟨t, g, b, strch ls k i, y, rfl, s3 _ _ et, s3 _ _ hg2, sml, Nat.lt_of_lt_of_le (show b.natAbs < 2 ^ 40 by omega) (Nat.pow_le_pow_right (by decide) (by decide)), smi, hy, fun H4 s4 => ?_⟩
      walk_at "go"
      have e : hv (hf y (strch ls k i)) b % num ps = mark y b (num ps) (strch ls k i) := by unfold mark; rw [rest_hv]
      rw [e]
      exact q' _ s4
    intro H3 s3 hm3
    have hl3 := s3 _ _ hl2
    have hD3 := s3 _ _ hD2
    have nD2 : D2 ≠ l := fun e => by rw [e, hl2] at hDb; cases hDb
    have S3 : Same H1 H3 := s2.trans s3
    have hm4 : rm l H3 D2 = _ := rm_of nD2 hm3
    have hs4 : rm l H3 D = _ := rm_of nD hD3
    have hst : ∀ i, i < nSt ls k → ∃ t, (ss.map V.ref)[i]? = some (.ref t) ∧ rm l H3 t = some (.lst ((strch ls k i).map V.int)) := fun i hi => by
      obtain ⟨t, h1, h2, h3⟩ := hss i hi
      exact ⟨t, h1, rm_of h2 (s3 _ _ h3)⟩
    have hmk : ∀ i, i < nSt ls k → ((List.range (nSt ls k)).map fun j => V.int (mark y b (num ps) (strch ls k j)))[i]? = some (.int (mark y b (num ps) (strch ls k i))) := fun i hi => by
      rw [List.getElem?_map, List.getElem?_range hi]; rfl
    have hstl : (ss.map V.ref).length = nSt ls k := by rw [List.length_map, hssl]
    generalize ((List.range (nSt ls k)).map fun j => V.int (mark y b (num ps) (strch ls k j))) = mks at hm4 hmk
    generalize ss.map V.ref = sts at hs4 hst hstl
    clear pr2 hss hssl s2 s3 hm3 hD3 hD2 hl2 hL2 hg2
    walk_at "go"
    rw [hstl]
    refine for_range (lo := 0) (n := nSt ls k) (fun i σ H' => ∃ (v10 v11 : Option V) (ts : List Addr), σ = [some (.ref L), some (.int k), some (.int b), some (.ref g), some (.int (num ps)), some (.ref l), some (.ref D), none, some (.ref D2), none, v10, v11] ∧ Same (rm l H3) (rm l H') ∧ H' l = some (.lst (ts.map V.ref)) ∧ ts.length ≤ i * 201 ∧ Paired (fun (p : Nat × Nat) t => rm l H' t = some (.tup [.int p.1, .int p.2])) ((List.range i).flatMap fun i => clRow y b (num ps) ls k i ((List.range (nSt ls k)).drop (i + 1))) ts) ⟨_, _, [], rfl, Same.refl _, hl3, Nat.zero_le _, .nil⟩ ?_ ?_
    · rintro i σ H5 hil ⟨v10, v11, ts, rfl, s5, hl5, htl, pp⟩
      rw [Int.zero_add]
      walk_at "go"
      rw [hstl, show ((nSt ls k : Int) - ((i : Int) + 1)).toNat = nSt ls k - (i + 1) by omega]
      refine for_range (lo := (i : Int) + 1) (n := nSt ls k - (i + 1)) (fun j σ H' => ∃ (v11 : Option V) (ts : List Addr), σ = [some (.ref L), some (.int k), some (.int b), some (.ref g), some (.int (num ps)), some (.ref l), some (.ref D), none, some (.ref D2), none, some (.int (i : Nat)), v11] ∧ Same (rm l H3) (rm l H') ∧ H' l = some (.lst (ts.map V.ref)) ∧ ts.length ≤ i * 201 + j ∧ Paired (fun (p : Nat × Nat) t => rm l H' t = some (.tup [.int p.1, .int p.2])) (((List.range i).flatMap fun i => clRow y b (num ps) ls k i ((List.range (nSt ls k)).drop (i + 1))) ++ clRow y b (num ps) ls k i (((List.range (nSt ls k)).drop (i + 1)).take j)) ts) ⟨_, ts, rfl, s5, hl5, by omega, ?_⟩ ?_ ?_
      · rw [List.take_zero]
        show Paired _ (_ ++ []) _
        rw [List.append_nil]
        exact pp
      · rintro jj σ H7 hjj ⟨v11, ts, rfl, S7, hl7, htl7, pp7⟩
        obtain ⟨j, hj⟩ : ∃ j, j = i + 1 + jj := ⟨_, rfl⟩
        have hjm : j < nSt ls k := by omega
        rw [show (i : Int) + 1 + (jj : Int) = (j : Int) by omega]
        obtain ⟨ti, hti, eti⟩ := hst i hil
        obtain ⟨tj, htj, etj⟩ := hst j hjm
        have hjd : ((List.range (nSt ls k)).drop (i + 1))[jj]? = some j := by rw [List.getElem?_drop, List.getElem?_range (by omega), hj]
        have tk : clRow y b (num ps) ls k i (((List.range (nSt ls k)).drop (i + 1)).take (jj + 1)) = clRow y b (num ps) ls k i (((List.range (nSt ls k)).drop (i + 1)).take jj) ++ clRow y b (num ps) ls k i [j] := by
          unfold clRow
          rw [List.take_add_one, hjd, List.filter_append, List.map_append]
          rfl
        rw [tk]
        have no : clP y b (num ps) ls k i j = false → clRow y b (num ps) ls k i [j] = [] := fun h => by unfold clRow; rw [List.filter_cons, if_neg (by rw [h]; decide)]; rfl
        have yes : clP y b (num ps) ls k i j = true → clRow y b (num ps) ls k i [j] = [(i, j)] := fun h => by unfold clRow; rw [List.filter_cons, if_pos h]; rfl
        walk_at "go"
        refine w_ixL (sq (rm_le _ _ (S7 _ _ hs4))) (atI_nat hti) ?_
        walk_at "go"
        refine w_ixL (sq (rm_le _ _ (S7 _ _ hs4))) (atI_nat htj) ?_
        walk_at "go"
        refine w_neLL (ls := strch ls k i) (ms := strch ls k j) (sq (rm_le _ _ (S7 _ _ eti))) (sq (rm_le _ _ (S7 _ _ etj))) ?_
        walk_at "go"
        by_cases h2 : strch ls k i = strch ls k j
        · rw [decide_eq_true h2]
          refine iteF ?_
          walk_at "go"
          rw [no (by unfold clP; rw [decide_eq_true h2, Bool.not_true, Bool.and_false]), List.append_nil]
          exact ⟨_, ts, rfl, S7, hl7, by omega, pp7⟩
        · rw [decide_eq_false h2]
          refine iteT ?_
          walk_at "go"
          refine w_ixL (sq (rm_le _ _ (S7 _ _ hm4))) (atI_nat (hmk i hil)) ?_
          walk_at "go"
          refine w_ixL (sq (rm_le _ _ (S7 _ _ hm4))) (atI_nat (hmk j hjm)) ?_
          walk_at "go"
          rw [decI]
          refine ite_d (fun he => ?_) (fun he => ?_)
          · walk_at "go"
            refine al fun t1 H8 n8 s8 h8 => ?_
            walk_at "go"
            refine w_append (s8 _ _ hl7) (sz (by rw [List.length_map]; omega)) ?_
            have nt1 : t1 ≠ l := ne_of_none' hl7 n8
            walk_at "go"
            rw [yes (by unfold clP; rw [decide_eq_true he, decide_eq_false h2]; rfl), ← List.append_assoc]
            refine ⟨_, ts ++ [t1], rfl, ?_, by rw [upd_same, List.map_append]; rfl, by rw [List.length_append, List.length_singleton]; omega, ?_⟩
            · rw [rm_updS]
              exact S7.trans s8.rm
            · rw [rm_updS]
              exact Paired.snoc (paired_imp (fun _ _ z => s8.rm _ _ z) pp7) (rm_of nt1 h8)
          · walk_at "go"
            rw [no (by unfold clP; rw [decide_eq_false he, Bool.false_and]), List.append_nil]
            exact ⟨_, ts, rfl, S7, hl7, by omega, pp7⟩
      · rintro σ H7 ⟨v11, ts, rfl, S7, hl7, htl7, pp7⟩
        rw [List.take_of_length_le (by rw [List.length_drop, List.length_range]; exact Nat.le_refl _)] at pp7
        walk_at "go"
        refine ⟨_, _, ts, rfl, S7, hl7, by omega, ?_⟩
        rw [List.range_succ, List.flatMap_append]
        show Paired _ (_ ++ (_ ++ [])) _
        rw [List.append_nil]
        exact pp7
    · rintro σ H5 ⟨v10, v11, ts, rfl, s5, hl5, htl, pp⟩
      walk_at "go"
      refine q l H5 n1 (fun x o h => ?_) ⟨ts, hl5, paired_imp (fun _ _ z => rm_le _ _ z) pp⟩
      exact rm_le _ _ (s5 _ _ (rm_of (ne_of_none h n1) (S3 _ _ (s1 _ _ h))))

abbrev s_agr : Stmt := (top 49)
theorem sc_agr : FnScope ["_law_purse_here", "_law_made", "_law_letters_here", "_law_given", "_law_ring", "_law_size", "_law_spot", "_law_start", "_law_stop", "_law_many", "_law_told"] ["_law_purse_here", "_law_made", "_law_letters_here", "_law_given"] (defScope s_agr) :=
  ⟨rfl, rfl, rfl, by decide +kernel, rfl, by decide +kernel, by decide +kernel⟩
theorem ok_agr {c : CA} {Ck : Addr} (F : Dn K mg "_law_agrees" s_agr ["_law_purse_here", "_law_made", "_law_letters_here", "_law_given"]) (T : Bt mg) (X : Kx K mg c) (KP : KpK K mg Ck) (c_draw : Cal P w K mg base 2 "_law_draw" spDraw []) (c_callO : CalO P w K mg base 4 c.wy (spMarkOf c)) (c_sum : Cal P w K mg base 1 "_law_sum" spSum []) (c_clsh : Cal P w K mg base 2 "_law_clashing" spClsh []) (o_kp_len : OwnM P w K mg base L2.CX0 1 Ck "__len__" (spKpLen c Ck)) (o_kp_get : OwnM P w K mg base L2.CX0 3 Ck "__getitem__" (spKnGet c Ck)) (p_text : PropM P w K mg base L2.CX0 1 Ck "text" (spKpText c Ck))
    (c_kpmark2 : C8.Met P w K mg base 4 Ck "mark_of" (fr (spKnMark c Ck)) []) (c_kpmark1 : C8.Met P w K mg base 4 Ck "mark_of" (fr (spKnMark c Ck)) [.non]) (c_kpmark0 : C8.Met P w K mg base 4 Ck "mark_of" (fr (spKnMark c Ck)) [.int 0, .non]) (c_kpclash : C8.Met P w K mg base 3 Ck "clashing" (fr (spKnClash c Ck)) [])
    (c_kpclashK : MetK P w K mg base 3 Ck "clashing" 0 ["length"] (fr (spKnClash c Ck)) (fun vs zs => vs ++ zs)) (c_kpmarkK : MetK P w K mg base 4 Ck "mark_of" 0 ["last", "first"] (fr (spKnMark c Ck)) (fun vs zs => vs ++ zs.reverse)) : Cal P w K mg base 6 "_law_agrees" (spAgr87 c Ck) [] := by
  refine F.cal sc_agr (fun vs H Q E h => ?_) (fun f cdv AA outer s H vs Q E hr h => ?_)
  · obtain ⟨a, L, g, cc, A, b, ps, y, ls, past, rfl, _⟩ := h
    rfl
  · obtain ⟨a, L, g, cc, A, b, ps, y, ls, past, rfl, hc, ⟨u0, hk, fN, sm⟩, hl, hL, nL, hg, ng, q⟩ := h
    have fit := fN.fit (b := b) sm
    have hw := hk.waz
    obtain ⟨_, _, _, _, _, _, b0, bn⟩ := id hw
    refine ⟨_, (pss_cons (ps_set (i := 4) sc_agr.nd rfl (Or.inl rfl) (pe_fld (pv 1) rfl))
      (pss_cons (ps_set (i := 5) sc_agr.nd rfl (Or.inl rfl) (pe_fld (pv 4) rfl))
      (pss_cons (ps_if (PW.pt (pw_or (pt_cmpR op_ne (pe_callB (call_lenO o_kp_len ex00 hr (by decide)) (by rfl) T.len (by decide +kernel) (pa_cons (pv 1) pa_nil)) (pe_callB cLen (by rfl) T.len (by decide +kernel) (pa_cons (pv 2) pa_nil)) (nomark _)) (pw_or (pt_cmpR (op_neD hr.units) (pe_propO p_text pass00 hr (by decide) (pv 1) rfl) (pe_callTy cTupOf (by rfl) T.tuple (by decide +kernel) (pa_cons (pv 2) pa_nil)) (nomark _)) (pw_or1 (pt_not (pt_val (pe_callB call_isi (by rfl) T.isinstance (by decide +kernel) (pa_cons (pe_propO p_text pass00 hr (by decide) (pv 1) rfl) (pa_cons (pe_bltn (v := .ty "tuple") (by rfl) T.tuple (by decide +kernel) rfl) pa_nil))))))))) (pss_one (ps_ret pe_bl)) pss_nil)
      (pss_cons (ps_if (pt_cmpR (op_neD hr.units) (pe_lc (own := [("_law_spot", 6)]) (g := gName 6) (tt := tYes) (te := (tOp (rIxO _ _ L2.E0) (tVar 1) (tVar 6))) rfl sc_agr.nd (pi_range1 (by rfl) T.range (pa_cons (pe_callB cLen (by rfl) T.len (by decide +kernel) (pa_cons (pv 2) pa_nil)) pa_nil)) (blkOk_by (own := [("_law_spot", 6)]) (N := ["_law_purse_here", "_law_made", "_law_letters_here", "_law_given", "_law_ring", "_law_size", "_law_spot", "_law_start", "_law_stop", "_law_many", "_law_told"]) (sc := defScope s_agr) (by decide +kernel)) (fun _ _ _ _ _ => (pg_name (i := 6) sc_agr.nd rfl (Or.inl rfl))) (fun _ _ _ _ _ => pts_nil) (fun _ _ _ _ _ => (pe_ixO o_kp_get ex00 hr (by decide) (pv 1) (pv 6) (fun _ _ => rfl)))) (pv 2) (nomark _)) (pss_one (ps_ret pe_bl)) pss_nil)
      (pss_cons (ps_set (i := 7) sc_agr.nd rfl (Or.inl rfl) (pe_c c_draw hr (by decide) (by rfl) (pa_cons (pv 0) (pa_cons (pe_op op_add (pe_callB cLen (by rfl) T.len (by decide +kernel) (pa_cons (pv 2) pa_nil)) pe_int) pa_nil))))
      (pss_cons (ps_set (i := 8) sc_agr.nd rfl (Or.inl rfl) (pe_op op_add (pv 7) (pe_c c_draw hr (by decide) (by rfl) (pa_cons (pv 0) (pa_cons (pe_op op_add (pe_op op_sub (pe_callB cLen (by rfl) T.len (by decide +kernel) (pa_cons (pv 2) pa_nil)) (pv 7)) pe_int) pa_nil)))))
      (pss_cons (ps_if (pt_cmpR op_ne (pe_mt c_kpmark2 hr (by decide) (pv 1) (pa_cons (pv 7) (pa_cons (pv 8) pa_nil))) (pe_op op_mod (pe_c c_sum hr (by decide) (by rfl) (pa_cons (pe_slice sl_list (pv 2) (po_some (pv 7)) (po_some (pv 8))) (pa_cons (pe_fld (pv 4) rfl) (pa_cons (pv 3) pa_nil)))) (pv 5)) (nomark _)) (pss_one (ps_ret pe_bl)) pss_nil)
      (pss_cons (ps_if (pt_cmpR (op_neD hr.units) (pe_lst (pa_cons (pe_mt c_kpmark1 hr (by decide) (pv 1) (pa_cons (pv 7) pa_nil)) (pa_cons (pe_mt0 c_kpmark0 hr (by decide) (pv 1)) pa_nil))) (pe_lst (pa_cons (pe_cO (pv 4) c_callO hr (by decide) (pa_cons (pe_slice sl_list (pv 2) (po_some (pv 7)) po_none) pa_nil)) (pa_cons (pe_op op_mod (pe_c c_sum hr (by decide) (by rfl) (pa_cons (pv 2) (pa_cons (pe_fld (pv 4) rfl) (pa_cons (pv 3) pa_nil)))) (pv 5)) pa_nil))) (nomark _)) (pss_one (ps_ret pe_bl)) pss_nil)
      (pss_cons (ps_set (i := 9) sc_agr.nd rfl (Or.inl rfl) (pe_c c_draw hr (by decide) (by rfl) (pa_cons (pv 0) (pa_cons pe_int pa_nil))))
      (pss_cons (ps_set (i := 10) sc_agr.nd rfl (Or.inl rfl) (pe_mt c_kpclash hr (by decide) (pv 1) (pa_cons (pv 9) pa_nil)))
      (pss_cons (ps_if (pt_cmpR (op_neD hr.units) (pv 10) (pe_c c_clsh hr (by decide) (by rfl) (pa_cons (pv 2) (pa_cons (pv 9) (pa_cons (pe_fld (pv 4) rfl) (pa_cons (pv 3) (pa_cons (pv 5) pa_nil)))))) (nomark _)) (pss_one (ps_ret pe_bl)) pss_nil)
      (pss_cons (ps_expr (pe_bm PySem.F.plainAttrs_list PySem.F.slot_list_append PySem.F.type_list_append mt_append (pv 10) (pa_cons pe_non pa_nil)))
      (pss_one (ps_ret (pe_and (pe_cmpR (op_eqD hr.units) (pe_mtK0 c_kpclashK hr (by decide) (pv 1) (pk_cons (pv 9) pk_nil)) (pe_slice sl_list (pv 10) po_none (po_some (pe_un un_neg pe_int))) (nomark _)) (pe_one (pe_cmpR op_eq (pe_mtK0 c_kpmarkK hr (by decide) (pv 1) (pk_cons (pv 8) (pk_cons (pv 7) pk_nil))) (pe_mt c_kpmark2 hr (by decide) (pv 1) (pa_cons (pv 7) (pa_cons (pv 8) pa_nil))) (nomark _)))))))))))))))))), ?_⟩
    walk_at "go"
    refine w_lenK (hk.same rm_le) ?_
    walk_at "go"
    rw [List.length_map, decide_eq_true rfl]
    refine iteF ?_
    walk_at "go"
    refine w_insQ (hk.same rm_le) ?_
    refine ⟨A, b, ps, y, _, _, rfl, hk.same rm_le, fun t1 H1 _ s1 h1 => ?_⟩
    walk_at "go"
    refine w_tupL (sq (s1 _ _ (rm_le _ _ hL))) (al fun t2 H2 _ s2 h2 => ?_)
    walk_at "go"
    refine w_neTT (sqt (s2 _ _ h1)) (sqt h2) ?_
    rw [decide_eq_true rfl]
    walk_at "go"
    refine iteF ?_
    walk_at "go"
    have hk2 := hk.same (s1.trans s2).rm
    refine w_insQ (hk2.same rm_le) ?_
    refine ⟨A, b, ps, y, _, _, rfl, hk2.same rm_le, fun t3 H3 _ s3 h3 => ?_⟩
    walk_at "go"
    refine w_isi (b := true) (.base (.tup h3)) (kit_ty (by decide +kernel)) ?_
    walk_at "go"
    refine iteF ?_
    have S3 : Same (rm a H) (rm a H3) := (s1.trans (s2.trans s3)).rm
    have u3 := u0.same (s1.trans (s2.trans s3))
    have hk3 := hk.same S3
    have hL3 := S3 _ _ hL
    have hg3 := S3 _ _ hg
    clear s1 s2 s3 h1 h2 h3 hk2
    walk_at "go"
    rw [List.length_map]
    refine ⟨_, rfl, by omega, by omega, ?_⟩
    intro D hD
    refine lc_pure ((List.range ls.length).map fun i : Nat => V.int (0 + (i : Int))) (ls.map V.int) walk_rangeY hD (fun _ _ => trivial) (by rw [List.length_map, List.length_map, List.length_range]) (by rw [List.length_map]; omega) (fun _ => rfl) ?_ ?_
    · intro i x z H' hx hz s' Q' q'
      obtain ⟨i', hi', rfl⟩ := get_map hx
      obtain rfl : i' = i := by
        obtain ⟨h1, h2⟩ := List.getElem?_eq_some_iff.mp hi'
        rw [List.getElem_range] at h2
        exact h2.symm
      obtain ⟨z0, hz0, rfl⟩ := get_map hz
      rw [Int.zero_add]
      walk_at "go"
      refine w_getK ((hk3.same s'.rm).same rm_le) hz0 ?_
      exact q' _ (Same.refl _)
    intro H4 s4 h4
    have hk4 := hk3.same s4.rm
    have u4 := u3.same s4
    have hL4 := s4.rm _ _ hL3
    have hg4 := s4.rm _ _ hg3
    walk_at "go"
    refine w_neLL (sq h4) (sq (rm_le _ _ hL4)) ?_
    rw [decide_eq_true rfl]
    walk_at "go"
    refine iteF ?_
    walk_at "go"
    rw [List.length_map]
    refine use_drawR u4 (by omega) (by omega) (by omega) fun st H5 st0 st1 s5 u5 => ?_
    obtain ⟨st, rfl⟩ := Int.eq_ofNat_of_zero_le st0
    have hL5 := s5 _ _ hL4
    walk_at "go"
    rw [List.length_map]
    refine use_drawR u5 (by omega) (by omega) (by omega) fun d H6 d0 d1 s6 u6 => ?_
    obtain ⟨d, rfl⟩ := Int.eq_ofNat_of_zero_le d0
    have hk6 := hk4.same (s5.trans s6)
    have S6 : Same (rm a H) (rm a H6) := S3.trans (s4.rm.trans (s5.trans s6))
    have hL6 := s6 _ _ hL5
    have hg6 := s6 _ _ (s5 _ _ hg4)
    clear s4 h4 s5 s6 hL5 hL4 hg4 hk4 u4 u5 hk3 hL3 hg3 u3 S3
    walk_at "go"
    refine w_insP (hk6.same rm_le) ?_
    walk_at "go"
    refine use_knMarkR (j := st + d) u6 hk6 (if_neg (by simp)) (by omega) (by omega) fit fun H7 o7 u7 hk7 => ?_
    have hL7 := o7.at nL hL6
    have hg7 := o7.at ng hg6
    walk_at "go"
    refine w_slL (sq (rm_le _ _ hL7)) (al fun L2 H8 n8 s8 h8 => ?_)
    rw [← Int.natCast_add, cut_ij ls (by omega) (by omega)] at h8
    have hw8 := (hk7.same s8.rm).waz
    have smi : ∀ {i j : Nat}, ∀ x ∈ (ls.take j).drop i, x.natAbs < 10 ^ 31 := fun {i j} x hx => Nat.lt_trans ((sm.take j).drop i x hx) (by decide)
    have sml : ∀ x ∈ ls, x.natAbs < 10 ^ 31 := fun x hx => Nat.lt_trans (sm x hx) (by decide)
    have hbw : b.natAbs < 2 ^ 4000 := Nat.lt_of_lt_of_le (show b.natAbs < 2 ^ 40 by have := fN.1; omega) (Nat.pow_le_pow_right (by decide) (by decide))
    have emk : ∀ l : List Int, hv (hf y l) b % num ps = mark y b (num ps) l := fun l => by unfold mark; rw [rest_hv]
    walk_at "go"
    refine ⟨L2, g, b, (ls.take (st + d)).drop st, y, rfl, h8, s8 _ _ (rm_le _ _ hg7), by rw [List.length_drop, List.length_take]; omega, hbw, smi, fN.2, fun H9 s9 => ?_⟩
    walk_at "go"
    rw [emk, decide_eq_true rfl]
    refine iteF ?_
    have hk9 := hk7.same (s8.trans s9).rm
    have u9 := u7.same (s8.trans s9)
    have hL9 := (s8.trans s9).rm _ _ hL7
    have hg9 := (s8.trans s9).rm _ _ hg7
    have o9 : Off A (rm a H) (rm a H9) := ((Off.of S6).trans o7).trans (Off.of (s8.trans s9).rm)
    clear s8 s9 h8 n8 hL7 hg7 o7 hL6 hg6 S6 u7 hk7 u6 hk6 hw8
    walk_at "go"
    refine w_insP (hk9.same rm_le) ?_
    walk_at "go"
    refine use_knMarkR (j := ls.length) u9 hk9 (if_pos rfl) (by omega) (Nat.le_refl _) fit fun H10 o10 u10 hk10 => ?_
    have hL10 := o10.at nL hL9
    have hg10 := o10.at ng hg9
    walk_at "go"
    refine w_insP (hk10.same rm_le) ?_
    walk_at "go"
    refine use_knMarkR (i := 0) (j := ls.length) u10 hk10 (if_pos rfl) (Nat.zero_le _) (Nat.le_refl _) fit fun H11 o11 u11 hk11 => ?_
    have hL11 := o11.at nL hL10
    have hg11 := o11.at ng hg10
    rw [List.take_length, List.drop_zero]
    have o11' := o9.trans (o10.trans o11)
    clear o9 o10 o11 hL10 hg10 hL9 hg9 u10 u9 hk9 hk10
    walk_at "go"
    refine al fun m1 H12 n12 s12 h12 => ?_
    walk_at "go"
    refine w_slL (sq (s12 _ _ (rm_le _ _ hL11))) (al fun L3 H13 n13 s13 h13 => ?_)
    rw [cut_from'] at h13
    have hw13 := (hk11.same (s12.trans s13).rm).waz
    walk_at "go"
    refine w_insW hw13 ?_
    refine ⟨A.w, _, b, ps, y, ls.drop st, rfl, hw13, .lst L3 _ h13 (by rw [List.length_drop]; omega), fun H14 s14 => ?_⟩
    have S14 := s12.trans (s13.trans s14)
    have hw14 := (hk11.same S14.rm).waz
    walk_at "go"
    refine ⟨L, g, b, ls, y, rfl, S14 _ _ (rm_le _ _ hL11), S14 _ _ (rm_le _ _ hg11), by omega, hbw, sml, fN.2, fun H15 s15 => ?_⟩
    walk_at "go"
    rw [emk]
    refine al fun m2 H16 n16 s16 h16 => ?_
    walk_at "go"
    refine w_neLL (ls := [mark y b (num ps) (ls.drop st), mark y b (num ps) ls]) (ms := [mark y b (num ps) (ls.drop st), mark y b (num ps) ls]) (sq ((s13.trans (s14.trans (s15.trans s16))) _ _ h12)) (sq h16) ?_
    rw [decide_eq_true rfl]
    walk_at "go"
    refine iteF ?_
    have S16 := S14.trans (s15.trans s16)
    have hk16 := hk11.same S16.rm
    have u16 := u11.same S16
    have hL16 := S16.rm _ _ hL11
    have hg16 := S16.rm _ _ hg11
    have o16 := o11'.trans (Off.of S16.rm)
    clear s12 h12 s13 h13 s14 s15 s16 h16 S14 S16 n12 n13 n16 hw13 hw14 hL11 hg11 o11' u11 hk11
    walk_at "go"
    refine use_drawR u16 (by decide) (by decide) (by omega) fun k H17 k0 k1 s17 u17 => ?_
    obtain ⟨k, rfl⟩ := Int.eq_ofNat_of_zero_le k0
    have hk17 := hk16.same s17
    have hL17 := s17 _ _ hL16
    have hg17 := s17 _ _ hg16
    walk_at "go"
    refine w_insP (hk17.same rm_le) ?_
    walk_at "go"
    refine use_knClashS u17 hk17 fit (by omega) (by omega) fun t1 H18 nt1 o18 u18 hk18 prs => ?_
    have hL18 := o18.at nL hL17
    have hg18 := o18.at ng hg17
    have hw18 := (hk18.same rm_le).waz
    walk_at "go"
    refine ⟨L, g, k, b, ps, y, ls, rfl, rm_le _ _ hL18, rm_le _ _ hg18, by omega, sm, fN.2, b0, bn, by have := fN.1; omega, by omega, fun t2 H19 nt2 s19 prs2 => ?_⟩
    walk_at "go"
    refine w_nePrs ((prs.same rm_le).same s19) prs2 rfl ?_
    walk_at "go"
    refine iteF ?_
    obtain ⟨ts1, ht1, pts1⟩ := prs
    have t1a : t1 ≠ a := fun e => by rw [e, rm_self] at ht1; cases ht1
    have ht19 := s19 _ _ (rm_le _ _ ht1)
    have hlt1 : ts1.length ≤ 30000 := by
      have h1 := clashP_len (y := y) (b := b) (n := num ps) (ls := ls) (k := k)
      have h2 : nSt ls k ≤ 141 := by unfold nSt; omega
      have h3 := Nat.mul_le_mul h2 h2
      rw [← pts1.length]
      omega
    walk_at "go"
    refine w_append ht19 (sz (by rw [List.length_map]; omega)) ?_
    have tT := hk18.neR
    have nL1 : L ≠ t1 := fun e => by rw [← e, hL17] at nt1; cases nt1
    have hk20 : KpAt c Ck (rm t1 (rm a (upd H19 t1 (.lst (ts1.map V.ref ++ [.non]))))) A b ps y ls past := by
      rw [rm_upd t1a, rm_updD]
      exact hk18.same s19.rm.rm
    have u20 : Purse (upd H19 t1 (.lst (ts1.map V.ref ++ [.non]))) a (cc + 3) := ((u18.same s19).upd t1a).le (by omega)
    have o20 : Off A (rm a H17) (rm a (upd H19 t1 (.lst (ts1.map V.ref ++ [.non])))) := fun x o n1 n2 n3 h => by
      have nx : x ≠ t1 := fun e => by rw [e, nt1] at h; cases h
      obtain ⟨na, _⟩ := rm_some h
      exact rm_of na (by rw [upd_ne nx]; exact s19 _ _ (rm_le _ _ (o18 x o n1 n2 n3 h)))
    have h20 : (upd H19 t1 (.lst (ts1.map V.ref ++ [.non]))) t1 = some (.lst (ts1.map V.ref ++ [.non])) := upd_same
    have p20 : Paired (fun (p : Nat × Nat) t => rm a (upd H19 t1 (.lst (ts1.map V.ref ++ [.non]))) t = some (.tup [.int p.1, .int p.2])) (clashP y b (num ps) ls k) ts1 := paired_imp (fun p t z => by
      obtain ⟨na, z⟩ := rm_some z
      have nt : t ≠ t1 := fun e => by rw [e] at z; rw [rm_le _ _ ht1] at z; cases z
      exact rm_of na (by rw [upd_ne nt]; exact s19 _ _ z)) pts1
    generalize upd H19 t1 (.lst (ts1.map V.ref ++ [.non])) = H20 at hk20 u20 o20 h20 p20 ⊢
    have h20 := rm_of t1a h20
    have hk20 := hk20.same rm_le
    have o20' : Off A (rm a H) (rm a H20) := (o16.trans (Off.of s17)).trans o20
    clear s19 o18 u18 hk18 prs2 hL18 hg18 hw18 ht1 pts1 ht19 o20 hk17 u17 hk16 u16 nt1
    walk_at "go"
    refine w_insP (hk20.same rm_le) ?_
    walk_at "go"
    refine ⟨rfl, rfl, use_knClashR u20 hk20 fit (by omega) (by omega) fun t3 H21 nt3 o21 u21 hk21 prs3 => ?_⟩
    have h21 := o21.at tT h20
    have p21 := paired_imp (fun _ _ z => Off.tup hk20 o21 z) p20
    walk_at "go"
    refine w_slL (sq (rm_le _ _ h21)) (al fun t4 H22 n22 s22 h22 => ?_)
    rw [cut_m1] at h22
    walk_at "go"
    refine w_eqPrs ((prs3.same rm_le).same s22) ⟨ts1, h22, paired_imp (fun _ _ z => s22 _ _ (rm_le _ _ z)) p21⟩ rfl ?_
    have hk22 := hk21.same s22.rm
    have u22 := u21.same s22
    walk_at "go"
    refine iteT ?_
    walk_at "go"
    refine w_insP (hk22.same rm_le) ?_
    walk_at "go"
    refine ⟨rfl, rfl, use_knMarkR (i := st) (j := st + d) u22 hk22 (if_neg (by simp)) (by omega) (by omega) fit fun H23 o23 u23 hk23 => ?_⟩
    walk_at "go"
    refine w_insP (hk23.same rm_le) ?_
    walk_at "go"
    refine use_knMarkR (i := st) (j := st + d) u23 hk23 (if_neg (by simp)) (by omega) (by omega) fit fun H24 o24 u24 hk24 => ?_
    walk_at "go"
    rw [decide_eq_true rfl]
    exact q _ (o20'.trans ((o21.trans (Off.of s22.rm)).trans (o23.trans o24))) ⟨u24.le (by omega), hk24, fN, sm⟩

abbrev s_deed : Stmt := (top 50)
theorem sc_deed : FnScope ["_law_purse_here", "_law_made", "_law_past", "_law_letters_here", "_law_kind", "_law_spot", "_law_more", "_law_start", "_law_stop"] ["_law_purse_here", "_law_made", "_law_past"] (defScope s_deed) :=
  ⟨rfl, rfl, rfl, by decide +kernel, rfl, by decide +kernel, by decide +kernel⟩
theorem ok_deed {c : CA} {Ck : Addr} (F : Dn K mg "_law_deed" s_deed ["_law_purse_here", "_law_made", "_law_past"]) (T : Bt mg) (X : Kx K mg c) (KP : KpK K mg Ck) (nq_kp : PySem.W.noSeq K Ck = true) (sf_kp : PySem.W.selfFirst K Ck = true) (c_draw : Cal P w K mg base 2 "_law_draw" spDraw []) (c_some : Cal P w K mg base 3 "_law_some" spSome87 []) (c_letters : Cal P w K mg base 1 "_law_letters" spLetters []) (o_kp_set : OwnM P w K mg base L2.CX0 3 Ck "__setitem__" (hid (spKnSet c Ck))) (o_kp_iadd : OwnM P w K mg base L2.CX0 4 Ck "__iadd__" (hid (spIaddB c Ck)))
    (c_kpundo : C8.Met P w K mg base 1 Ck "undo" (hid (spKnUndo c Ck)) []) (c_kpchange : C8.Met P w K mg base 4 Ck "change" (hid (spChangeB c Ck)) []) : Cal P w K mg base 6 "_law_deed" (spDeed87 c Ck) [] := by
  refine F.cal sc_deed (fun vs H Q E h => ?_) (fun f cdv AA outer s H vs Q E hr h => ?_)
  · obtain ⟨a, P, cc, N, A, b, ps, y, ts, past, rfl, _⟩ := h
    rfl
  · obtain ⟨a, Pl, cc, N, A, b, ps, y, ts, past, rfl, hc, hN, htz, nP, ⟨u0, ⟨pre, ls, rfl, hk⟩, ⟨rs, hrs, prs⟩, hh, hn⟩, q⟩ := h
    refine ⟨_, (pss_cons (ps_set (i := 3) sc_deed.nd rfl (Or.inl rfl) (pe_callTy cListOf (by rfl) T.list (by decide +kernel) (pa_cons (pe_ix ix_list (pv 2) (pe_un un_neg pe_int) (fun _ _ => rfl)) pa_nil)))
      (pss_cons (ps_set (i := 4) sc_deed.nd rfl (Or.inl rfl) (pe_c c_draw hr (by decide) (by rfl) (pa_cons (pv 0) (pa_cons pe_int pa_nil))))
      (pss_cons (ps_if (PW.pt (pw_and (pt_cmpR op_eq (pv 4) pe_int (nomark _)) (pw_and1 (pt_cmpR (op_neD hr.units) (pv 3) (pe_lst pa_nil) (nomark _))))) (pss_cons (ps_set (i := 5) sc_deed.nd rfl (Or.inl rfl) (pe_c c_draw hr (by decide) (by rfl) (pa_cons (pv 0) (pa_cons (pe_callB cLen (by rfl) T.len (by decide +kernel) (pa_cons (pv 3) pa_nil)) pa_nil))))
      (pss_cons (ps_asg (pe_ix ix_list (pe_lst (pa_cons (pe_op op_sub (pe_c c_draw hr (by decide) (by rfl) (pa_cons (pv 0) (pa_cons pe_int pa_nil))) pe_int) (pa_cons (pe_ix ix_list (pv 3) (pv 5) (fun _ _ => rfl)) pa_nil))) (pe_c c_draw hr (by decide) (by rfl) (pa_cons (pv 0) (pa_cons pe_int pa_nil))) (fun _ _ => rfl)) (pg_sub (pv 3) (pv 5) set_list))
      (pss_one (ps_asg (pe_ix ix_list (pv 3) (pv 5) (fun _ _ => rfl)) (pg_sub (pv 1) (pv 5) (set_own o_kp_set nq_kp ex00 hr (by decide))))))) (pss_one (ps_if (pt_cmpR op_eq (pv 4) pe_int (nomark _)) (pss_cons (ps_set (i := 6) sc_deed.nd rfl (Or.inl rfl) (pe_c c_some hr (by decide) (by rfl) (pa_cons (pv 0) (pa_cons pe_int pa_nil))))
      (pss_cons (ps_aug (i := 1) sc_deed.nd rfl (Or.inl rfl) (pv 6) (ip_own rfl o_kp_iadd sf_kp ex00 hr (by decide)))
      (pss_cons (ps_set (i := 3) sc_deed.nd rfl (Or.inl rfl) (pe_op op_cat (pv 3) (pe_c c_letters hr (by decide) (by rfl) (pa_cons (pv 6) pa_nil))))
      (pss_one (ps_if (pt_val (pe_callB call_isi (by rfl) T.isinstance (by decide +kernel) (pa_cons (pv 6) (pa_cons (pe_bltn (v := .ty "list") (by rfl) T.list (by decide +kernel) rfl) pa_nil)))) (pss_one (ps_expr (pe_bm PySem.F.plainAttrs_list PySem.F.slot_list_append PySem.F.type_list_append mt_append (pv 6) (pa_cons pe_int pa_nil)))) pss_nil))))) (pss_one (ps_if (PW.pt (pw_and (pt_cmpR op_eq (pv 4) pe_int (nomark _)) (pw_and1 (pt_cmpR op_gt (pe_callB cLen (by rfl) T.len (by decide +kernel) (pa_cons (pv 2) pa_nil)) pe_int (nomark _))))) (pss_cons (ps_expr (pe_mt0 c_kpundo hr (by decide) (pv 1)))
      (pss_cons (ps_expr (pe_bm0 PySem.F.plainAttrs_list PySem.F.slot_list_pop PySem.F.type_list_pop mt_pop (pv 2)))
      (pss_one (ps_ret (pv 1))))) (pss_cons (ps_set (i := 7) sc_deed.nd rfl (Or.inl rfl) (pe_c c_draw hr (by decide) (by rfl) (pa_cons (pv 0) (pa_cons (pe_op op_add (pe_callB cLen (by rfl) T.len (by decide +kernel) (pa_cons (pv 3) pa_nil)) pe_int) pa_nil))))
      (pss_cons (ps_set (i := 8) sc_deed.nd rfl (Or.inl rfl) (pe_op op_add (pv 7) (pe_c c_draw hr (by decide) (by rfl) (pa_cons (pv 0) (pa_cons (pe_callB (cMin2 rfl) (by rfl) T.min (by decide +kernel) (pa_cons pe_int (pa_cons (pe_op op_add (pe_op op_sub (pe_callB cLen (by rfl) T.len (by decide +kernel) (pa_cons (pv 3) pa_nil)) (pv 7)) pe_int) pa_nil))) pa_nil)))))
      (pss_cons (ps_set (i := 6) sc_deed.nd rfl (Or.inl rfl) (pe_c c_some hr (by decide) (by rfl) (pa_cons (pv 0) (pa_cons pe_int pa_nil))))
      (pss_cons (ps_expr (pe_mt c_kpchange hr (by decide) (pv 1) (pa_cons (pv 7) (pa_cons (pv 8) (pa_cons (pv 6) pa_nil)))))
      (pss_cons (ps_set (i := 3) sc_deed.nd rfl (Or.inl rfl) (pe_op op_cat (pe_op op_cat (pe_slice sl_list (pv 3) po_none (po_some (pv 7))) (pe_c c_letters hr (by decide) (by rfl) (pa_cons (pv 6) pa_nil))) (pe_slice sl_list (pv 3) (po_some (pv 8)) po_none)))
      (pss_one (ps_if (pt_val (pe_callB call_isi (by rfl) T.isinstance (by decide +kernel) (pa_cons (pv 6) (pa_cons (pe_bltn (v := .ty "list") (by rfl) T.list (by decide +kernel) rfl) pa_nil)))) (pss_one (ps_expr (pe_bm PySem.F.plainAttrs_list PySem.F.slot_list_append PySem.F.type_list_append mt_append (pv 6) (pa_cons pe_int pa_nil)))) pss_nil))))))))))))
      (pss_cons (ps_expr (pe_bm PySem.F.plainAttrs_list PySem.F.slot_list_append PySem.F.type_list_append mt_append (pv 2) (pa_cons (pv 3) pa_nil)))
      (pss_one (ps_ret (pv 1))))))), ?_⟩
    obtain ⟨r0, r, rfl, hr1, hr2, hr3, hr4⟩ : ∃ r0 r, rs = r0 ++ [r] ∧ r ≠ Pl ∧ rm a H r = some (.lst (ls.map V.int)) ∧ r ≠ A.l ∧ r ≠ A.p := by
      rcases List.eq_nil_or_concat rs with e | ⟨r0, r, e⟩
      · subst e
        have := prs.length
        simp at this
      · rw [List.concat_eq_append] at e
        subst e
        obtain ⟨_, z1, z2, z3, z4⟩ := paired_unsnoc prs
        exact ⟨r0, r, rfl, z1, z2, z3, z4⟩
    have hlN := (hn ls (by simp)).1
    have smL := (hn ls (by simp)).2
    have hpz : past.length ≤ 50 := by have := hh.len; omega
    have hrl : (r0 ++ [r]).length ≤ 50 := by rw [← prs.length]; exact htz
    have hP0 : H Pl = some (.lst ((r0 ++ [r]).map V.ref)) := (rm_some hrs).2
    walk_at "go"
    refine w_ixL (sq hP0) (by rw [List.map_append]; exact at_lastR _ _) ?_
    walk_at "go"
    refine w_listL (sq (rm_le _ _ hr2)) (al fun L H1 n1 s1 h1 => ?_)
    have nLk := (hk.fresh (p := L) (rm_none (rm_none n1)))
    have nLa : L ≠ a := u0.fresh n1
    have nLP : L ≠ Pl := ne_of_none' hP0 n1
    have u1 := u0.same s1
    walk_at "go"
    refine use_drawR u1 (by decide) (by decide) (by omega) fun kd H2 k0 k1 s2 u2 => ?_
    have S2 : Same (rm a H) (rm a H2) := s1.rm.trans s2
    have h2 : rm a H2 L = some (.lst (ls.map V.int)) := s2 _ _ (rm_of nLa h1)
    have hP2 : rm a H2 Pl = some (.lst ((r0 ++ [r]).map V.ref)) := S2 _ _ hrs
    have hk2 := hk.same S2.rm
    clear s1 s2 h1 u1
    walk_at "goI"
    refine w_ifJq (fun σ H' => ∃ (L' : Addr) (ls' : List Int) (qq : Pst) (v5 v6 v7 v8 : Option V), σ = [some (.ref a), some (.ref A.k), some (.ref Pl), some (.ref L'), some (.int kd), v5, v6, v7, v8] ∧ DJ c Ck a Pl (cc + 100) (N + 6) H A b ps y pre ls past (r0 ++ [r]) L' ls' qq H') ?_ ?_
    · rintro σ H' ⟨L', ls', qq, v5, v6, v7, v8, rfl, dj⟩
      have f := dj.fin nP hk prs hn (by omega)
      rw [List.map_append] at f
      have hPj := dj.hP
      walk_at "go"
      refine w_append hPj (sz (by rw [List.length_map]; omega)) ?_
      walk_at "go"
      exact q _ _ _ f.2 f.1 (by simp only [List.length_append, List.length_singleton]; omega)
    intro Nx hNx
    have hxs : ∃ r1, ((r0 ++ [r]).map V.ref) = .ref r1 :: ((r0 ++ [r]).map V.ref).tail := by
      cases r0 with
      | nil => exact ⟨r, rfl⟩
      | cons x xs => exact ⟨x, rfl⟩
    -- behind a text put in: its letters stand in a list, and the handed one is put off
    refine w_if3 (fun H3 => Same (rm a H2) (rm a H3) ∧ Purse H3 a (cc + 1)) ?_ ?_
    · rintro H3 ⟨s3, u3⟩
      have hP3 := s3 _ _ hP2
      have h3 := s3 _ _ h2
      have hk3 := hk2.same s3.rm
      walk_at "go"
      rw [List.length_map]
      refine use_drawR u3 (by omega) (by omega) (by omega) fun st H4 st0 st1 s4 u4 => ?_
      obtain ⟨st, rfl⟩ := Int.eq_ofNat_of_zero_le st0
      have h4 := s4 _ _ h3
      walk_at "go"
      rw [List.length_map]
      refine use_drawR u4 (by split <;> omega) (by split <;> omega) (by omega) fun d H5 d0 d1 s5 u5 => ?_
      obtain ⟨d, rfl⟩ := Int.eq_ofNat_of_zero_le d0
      have hd : st + d ≤ ls.length := by split at d1 <;> omega
      have S5 : Same (rm a H) (rm a H5) := S2.trans (s3.trans (s4.trans s5))
      have S35 := s3.trans (s4.trans s5)
      walk_at "go"
      refine ⟨a, _, 6, rfl, by decide, by omega, u5, fun v ms H6 s6 u6 hs6 hml smm => ?_⟩
      have S6 : Same (rm a H) (rm a H6) := S5.trans s6
      have hP6 := S6 _ _ hrs
      have h6 := rm_of nLP ((S35.trans s6) _ _ h2)
      have hk6 := hk.same S6.rm
      have hs6 : SomeAt (rm a H) (rm a H6) v ms := by
        rcases hs6 with h | ⟨p, e, n, h⟩ | h
        · exact .inl h
        · exact .inr (.inl ⟨p, e, S5.free n, h⟩)
        · exact .inr (.inr h)
      have hnd := Hnd.of hs6 hk S6 hP0 nP hxs hP6
      have hP6 := rm_le _ _ hP6
      clear hs6 S35 s3 s4 s5 s6 hP3 h3 hk3 h4 u3 u4 u5
      walk_at "go"
      refine w_insP ((hk6.same rm_le).same rm_le) ?_
      walk_at "go"
      refine use_changeB (i := st) (j := st + d) u6 hP6 hk6 hnd (by omega) (by omega) (by omega) (by omega) fun H7 o7 u7 hP7 hk7 hn7 => ?_
      have h7 := o7.at nLk h6
      have hist := hh.put (i := st) (j := st + d) (ms := ms) (by omega) hd
      walk_at "go"
      refine w_slL (sq (rm_le _ _ (rm_le _ _ h7))) (al fun l1 H8 n8 s8 h8 => ?_)
      rw [cut_0j ls (by omega)] at h8
      walk_at "go"
      refine ⟨v, ms, rfl, (hn7.same s8).text (by omega), fun l2 H9 n9 s9 h9 => ?_⟩
      walk_at "go"
      refine w_cat (s9 _ _ h8) h9 (by rw [List.length_map, List.length_map, List.length_take, sizeLine_eq]; omega) (al fun l3 H10 n10 s10 h10 => ?_)
      have S10 := s8.trans (s9.trans s10)
      walk_at "go"
      refine w_slL (sq (S10 _ _ (rm_le _ _ (rm_le _ _ h7)))) (al fun l4 H11 n11 s11 h11 => ?_)
      rw [← Int.natCast_add, cut_from'] at h11
      walk_at "go"
      refine w_cat (s11 _ _ h10) h11 (by simp only [List.length_append, List.length_map, List.length_take, List.length_drop]; rw [sizeLine_eq]; omega) (al fun L3 H12 n12 s12 h12 => ?_)
      have S12 := S10.trans (s11.trans s12)
      rw [← List.map_append, ← List.map_append] at h12
      have hn12 := hn7.same S12
      have nL3 : H7 L3 = none := (S10.trans s11).free n12
      have hk12 := hk7.same S12.rm.rm
      have nL3a := (u7.same (S10.trans s11)).fresh n12
      have nL3P : L3 ≠ Pl := ne_of_none' hP7 nL3
      have dj : DJ c Ck a Pl (cc + 100) (N + 6) H A b ps y pre ls past (r0 ++ [r]) L3 (ls.take st ++ ms ++ ls.drop (st + d)) ⟨st, st + ms.length, (ls.take (st + d)).drop st⟩ H12 :=
        ⟨(u7.same S12).le (by omega), S12 _ _ hP7, hk12, hist, (Off.of S6.rm).trans (o7.trans (Off.of S12.rm.rm)), rm_of nL3P (rm_of nL3a h12), (hk7.fresh (rm_none (rm_none nL3))).2, by simp only [List.length_append, List.length_take, List.length_drop]; omega, ((smL.take st).app smm).app (smL.drop _)⟩
      clear s8 s9 s10 s11 h8 h9 h10 h11 S10 n8 n9 n10 n11
      have nLp : ∀ p, v = .ref p → L3 ≠ p := fun p e => by
        rcases hn7 with ⟨z, e1, _⟩ | ⟨p1, e1, _, _, h1⟩ | ⟨p1, e1, _, _, _, h1, _⟩
        · rw [e1] at e
          cases e
        · rw [e1] at e
          cases e
          exact ne_of_none' h1 nL3
        · rw [e1] at e
          cases e
          exact ne_of_none' h1 nL3
      walk_at "go"
      rcases hn12 with ⟨z, rfl, _⟩ | ⟨p, rfl, n1, n2, hp⟩ | ⟨p, rfl, n1, n2, n3, hp, hkp⟩
      · refine w_isi (b := false) (.base (.str z)) (kit_ty (by decide +kernel)) ?_
        walk_at "go"
        refine iteF ?_
        walk_at "go"
        exact hNx _ _ ⟨_, _, _, _, _, _, _, rfl, dj⟩
      · refine w_isi (b := false) (.base (.tup hp)) (kit_ty (by decide +kernel)) ?_
        walk_at "go"
        refine iteF ?_
        walk_at "go"
        exact hNx _ _ ⟨_, _, _, _, _, _, _, rfl, dj⟩
      · refine w_isi (b := true) (.base (.lst hp)) (kit_ty (by decide +kernel)) ?_
        walk_at "go"
        refine iteT ?_
        walk_at "go"
        refine w_append hp (sz (by rw [List.length_map]; omega)) ?_
        walk_at "go"
        exact hNx _ _ ⟨_, _, _, _, _, _, _, rfl, dj.app hkp n3 n1 n2 (nLp p rfl)⟩
    intro U hU
    walk_at "go"
    rw [decI]
    refine ite_d (fun e0 => ?_) (fun e0 => ?_)
    · walk_at "go"
      refine al fun em H3 n3 s3 h3 => ?_
      walk_at "go"
      refine w_neLL (ls := ls) (ms := []) (sq (s3 _ _ (rm_le _ _ h2))) (sq h3) ?_
      walk_at "go"
      by_cases hl0 : ls = []
      · rw [decide_eq_true hl0]
        refine iteF ?_
        walk_at "go"
        rw [decI, decide_eq_false (show ¬ kd = 1 by omega)]
        refine iteF ?_
        walk_at "go"
        rw [decI, decide_eq_false (show ¬ kd = 2 by omega)]
        refine iteF ?_
        refine iteF ?_
        exact hU _ ⟨s3.rm, (u2.same s3).le (by omega)⟩
      · rw [decide_eq_false hl0]
        refine iteT ?_
        have hl1 : 1 ≤ ls.length := by
          cases ls with
          | nil => exact absurd rfl hl0
          | cons => simp
        have h3 := s3.rm _ _ h2
        have S3 := S2.trans s3.rm
        have u3 := u2.same s3
        clear s3 n3
        walk_at "go"
        rw [List.length_map]
        refine use_drawR u3 (by omega) (by omega) (by omega) fun m H4 m0 m1 s4 u4 => ?_
        obtain ⟨m, rfl⟩ := Int.eq_ofNat_of_zero_le m0
        have hm : m < ls.length := by omega
        have h4 := s4 _ _ h3
        obtain ⟨o, ho⟩ : ∃ o, ls[m]? = some o := ⟨ls[m]'hm, List.getElem?_eq_getElem hm⟩
        walk_at "go"
        refine use_drawR u4 (by decide) (by decide) (by omega) fun z H5 z0 z1 s5 u5 => ?_
        have h5 := s5 _ _ h4
        walk_at "go"
        refine w_ixL (sq (rm_le _ _ h5)) (atI_nat (by rw [List.getElem?_map, ho]; rfl)) ?_
        walk_at "go"
        refine alR u5 fun g1 H6 s6 u6 h6 _ => ?_
        walk_at "go"
        refine use_drawR u6 (by decide) (by decide) (by omega) fun j H7 j0 j1 s7 u7 => ?_
        obtain ⟨z', hz', smz⟩ : ∃ z', atI [V.int (z - 99), V.int o] j = some (.int z') ∧ z'.natAbs < 2 ^ 20 := by
          have cj : j = 0 ∨ j = 1 := by omega
          rcases cj with rfl | rfl
          · exact ⟨_, atI_nat (j := 0) rfl, by omega⟩
          · exact ⟨_, atI_nat (j := 1) rfl, smL _ (List.mem_of_getElem? ho)⟩
        have S7 : Same (rm a H) (rm a H7) := S3.trans (s4.trans (s5.trans (s6.trans s7)))
        have h7 := (s6.trans s7) _ _ h5
        refine w_ixL (sq (rm_le _ _ (s7 _ _ h6))) hz' ?_
        clear s4 s5 s6 s7 h3 h4 h5 h6 u3 u4 u5 u6 S3
        walk_at "go"
        refine w_setL (rm_le _ _ h7) (by rw [List.length_map]; exact ixN_nat' hm) ?_
        have el : (ls.map V.int).set m (.int z') = (ls.set m z').map V.int := List.map_set.symm
        rw [el]
        have e8 : rm Pl (rm a (upd H7 L (.lst ((ls.set m z').map V.int)))) = upd (rm Pl (rm a H7)) L (.lst ((ls.set m z').map V.int)) := by rw [rm_upd nLa, rm_upd nLP]
        have S8 : Same (rm Pl (rm a H)) (rm Pl (rm a (upd H7 L (.lst ((ls.set m z').map V.int))))) := by
          rw [e8]
          exact same_up (rm_none (rm_none n1)) S7.rm
        have h8 : rm Pl (rm a (upd H7 L (.lst ((ls.set m z').map V.int)))) L = some (.lst ((ls.set m z').map V.int)) := by rw [e8]; exact upd_same
        have u8 := u7.upd (o := .lst ((ls.set m z').map V.int)) nLa
        have hP8 : upd H7 L (.lst ((ls.set m z').map V.int)) Pl = some (.lst ((r0 ++ [r]).map V.ref)) := by rw [upd_ne nLP.symm]; exact rm_le _ _ (S7 _ _ hrs)
        generalize upd H7 L (.lst ((ls.set m z').map V.int)) = H8 at S8 h8 u8 hP8 ⊢
        have hk8 := hk.same S8
        clear e8 S7 h7 u7
        walk_at "go"
        refine w_ixL (sq (rm_le _ _ (rm_le _ _ h8))) (atI_nat (j := m) (by rw [List.getElem?_map, List.getElem?_set_self hm]; rfl)) ?_
        walk_at "go"
        obtain ⟨⟨q0, hi, _⟩, _⟩ := id hk8
        refine ⟨A.k, A.dx, _, rfl, rm_le _ _ (rm_le _ _ hi), use_setB u8 hP8 hk8 (by omega) (by omega) hm fun H9 o9 u9 hP9 hk9 => ?_⟩
        have h9 := o9.at nLk h8
        walk_at "go"
        refine hNx _ _ ⟨L, _, _, _, _, _, _, rfl, u9.le (by omega), hP9, hk9, hh.put (by omega) (by omega), (Off.of S8).trans o9, by rw [put_set hm]; exact h9, nLk.2, ?_, ?_⟩
        · simp only [List.length_append, List.length_take, List.length_drop, List.length_singleton]
          omega
        · rw [put_set hm]
          exact smL.set smz
    · refine iteF ?_
      walk_at "go"
      rw [decI]
      refine ite_d (fun e1 => ?_) (fun e1 => ?_)
      · walk_at "go"
        refine ⟨a, _, 6, rfl, by decide, by omega, u2, fun v ms H6 s6 u6 hs6 hml smm => ?_⟩
        have S6 : Same (rm a H) (rm a H6) := S2.trans s6
        have hP6 := S6 _ _ hrs
        have h6 := rm_of nLP (s6 _ _ h2)
        have hk6 := hk.same S6.rm
        have hs6 : SomeAt (rm a H) (rm a H6) v ms := by
          rcases hs6 with h | ⟨p, e, n, h⟩ | h
          · exact .inl h
          · exact .inr (.inl ⟨p, e, S2.free n, h⟩)
          · exact .inr (.inr h)
        have hnd := Hnd.of hs6 hk S6 hP0 nP hxs hP6
        have hP6 := rm_le _ _ hP6
        clear hs6 s6
        walk_at "go"
        obtain ⟨⟨q0, hi, _⟩, _⟩ := id hk6
        refine ⟨A.k, A.dx, _, rfl, rm_le _ _ (rm_le _ _ hi), use_iaddB u6 hP6 hk6 hnd (by omega) (by omega) fun H7 o7 u7 hP7 hk7 hn7 => ⟨⟨_, rfl⟩, ?_⟩⟩
        have h7 := o7.at nLk h6
        have hist := hh.put (i := ls.length) (j := ls.length) (ms := ms) (Nat.le_refl _) (Nat.le_refl _)
        have el : ls.take ls.length ++ ms ++ ls.drop ls.length = ls ++ ms := by rw [List.take_length, List.drop_length, List.append_nil]
        rw [el] at hk7 hist hn7
        walk_at "go"
        refine ⟨v, ms, rfl, hn7.text (by omega), fun l2 H9 n9 s9 h9 => ?_⟩
        walk_at "go"
        refine w_cat (s9 _ _ (rm_le _ _ (rm_le _ _ h7))) h9 (by rw [List.length_map, List.length_map, sizeLine_eq]; omega) (al fun L3 H12 n12 s12 h12 => ?_)
        have S12 := s9.trans s12
        rw [← List.map_append] at h12
        have hn12 := hn7.same S12
        have nL3 : H7 L3 = none := s9.free n12
        have hk12 := hk7.same S12.rm.rm
        have nL3a := (u7.same s9).fresh n12
        have nL3P : L3 ≠ Pl := ne_of_none' hP7 nL3
        have dj : DJ c Ck a Pl (cc + 100) (N + 6) H A b ps y pre ls past (r0 ++ [r]) L3 (ls ++ ms) ⟨ls.length, ls.length + ms.length, (ls.take ls.length).drop ls.length⟩ H12 :=
          ⟨(u7.same S12).le (by omega), S12 _ _ hP7, hk12, hist, (Off.of S6.rm).trans (o7.trans (Off.of S12.rm.rm)), rm_of nL3P (rm_of nL3a h12), (hk7.fresh (rm_none (rm_none nL3))).2, by simp only [List.length_append]; omega, smL.app smm⟩
        clear s9 h9 n9
        have nLp : ∀ p, v = .ref p → L3 ≠ p := fun p e => by
          rcases hn7 with ⟨z, e1, _⟩ | ⟨p1, e1, _, _, h1⟩ | ⟨p1, e1, _, _, _, h1, _⟩
          · rw [e1] at e
            cases e
          · rw [e1] at e
            cases e
            exact ne_of_none' h1 nL3
          · rw [e1] at e
            cases e
            exact ne_of_none' h1 nL3
        walk_at "go"
        rcases hn12 with ⟨z, rfl, _⟩ | ⟨p, rfl, n1, n2, hp⟩ | ⟨p, rfl, n1, n2, n3, hp, hkp⟩
        · refine w_isi (b := false) (.base (.str z)) (kit_ty (by decide +kernel)) ?_
          walk_at "go"
          refine iteF ?_
          walk_at "go"
          exact hNx _ _ ⟨_, _, _, _, _, _, _, rfl, dj⟩
        · refine w_isi (b := false) (.base (.tup hp)) (kit_ty (by decide +kernel)) ?_
          walk_at "go"
          refine iteF ?_
          walk_at "go"
          exact hNx _ _ ⟨_, _, _, _, _, _, _, rfl, dj⟩
        · refine w_isi (b := true) (.base (.lst hp)) (kit_ty (by decide +kernel)) ?_
          walk_at "go"
          refine iteT ?_
          walk_at "go"
          refine w_append hp (sz (by rw [List.length_map]; omega)) ?_
          walk_at "go"
          exact hNx _ _ ⟨_, _, _, _, _, _, _, rfl, dj.app hkp n3 n1 n2 (nLp p rfl)⟩
      · walk_at "go"
        rw [decI]
        refine ite_d (fun e2 => ?_) (fun e2 => ?_)
        · have hP2' := rm_le _ _ hP2
          walk_at "go"
          rw [List.length_map]
          refine ite_d (fun e3 => ?_) (fun e3 => ?_)
          · have hrl2 := prs.length
            obtain ⟨pre2, t0, t, past', qq, e5, e6, hh', f1, f2, f3⟩ := hh.back (by omega)
            obtain ⟨e7, e8⟩ := List.append_inj' e5 rfl
            cases e8
            subst e7
            subst e6
            have hql : qq.ls.length ≤ t0.length := by
              rw [← f3]
              simp only [List.length_append]
              omega
            have ht0 := (hn t0 (by simp)).1
            walk_at "go"
            refine w_insP ((hk2.same rm_le).same rm_le) ?_
            walk_at "go"
            refine use_undoB u2 hP2' hk2 f1 f2 (by omega) fun H4 o4 u4 hP4 hk4 => ?_
            rw [f3] at hk4
            have f := SW.pop (cc := cc + 1) (N := N + 6) nP hk u4 hk4 hh' ((Off.of S2.rm).trans o4) prs hn (by omega)
            rw [List.map_append] at hP4
            walk_at "go"
            refine w_pop hP4 ?_
            walk_at "go"
            refine q _ _ _ f.2 ⟨f.1.u.le (by omega), f.1.k, f.1.p, f.1.h, f.1.n⟩ (by simp only [List.length_append, List.length_singleton]; omega)
          · exact hU _ ⟨Same.refl _, u2⟩
        · refine iteF ?_
          exact hU _ ⟨Same.refl _, u2⟩

abbrev s_kptwins : Stmt := (inClass (top 35) 15)
theorem sc_kptwins : FnScope ["self", "found"] ["self"] (defScope s_kptwins) :=
  ⟨rfl, rfl, rfl, by decide +kernel, rfl, by decide +kernel, by decide +kernel⟩
theorem ok_kptwins {c : CA} {Ck : Addr} {f : Addr} {fd : FuncData} (F : FunD K "twin" "Kept.twin" (defArgs s_kptwins) (defBody s_kptwins) (defScope s_kptwins) [] [] f fd) (T : Bt mg) (X : Kx K mg c) (KP : KpK K mg Ck) (c_kp2 : C8.Mak P w K mg base 4 "Kept" Ck (spKnInit c Ck) []) : FnOk P w K mg base L2.CX0 6 f fd ["self"] (spKnTwinS c Ck) := by
  refine fnD_ok F sc_kptwins (fun vs H Q E h => ?_) (fun cdv AA outer s H vs Q E hr h => ?_)
  · obtain ⟨A, b, ps, y, ls, past, rfl, _⟩ := h
    rfl
  · obtain ⟨A, b, ps, y, ls, past, rfl, hk, q⟩ := h
    refine ⟨_, (pss_cons (ps_set (i := 1) sc_kptwins.nd rfl (Or.inl rfl) (pe_mk c_kp2 hr (by decide) (by rfl) (pa_cons (pe_fld (pv 0) rfl) (pa_cons (pe_fld (pv 0) rfl) pa_nil))))
      (pss_cons (ps_fld (pv 1) (pe_callTy cListOf (by rfl) T.list (by decide +kernel) (pa_cons (pe_fld (pv 0) rfl) pa_nil)) rfl)
      (pss_one (ps_ret (pv 1))))), ?_⟩
    walk_at "go"
    refine use_knI (.lst _ _ hk.ltr (by have := hk.sz; omega)) hk.sz hk.way fun A1 H1 nk nl np ew s1 hk1 hi => ?_
    walk_at "go"
    obtain ⟨ts, hts, pts⟩ := hk.pst
    refine w_listL (sq (s1 _ _ hts)) (al fun p2 H2 n2 s2 h2 => ?_)
    have n1p : ∀ {x : Addr} {o : HO}, H1 x = some o → x ≠ p2 := fun h => ne_of_none h n2
    have nk0 : ∀ {x : Addr} {o : HO}, H x = some o → x ≠ A1.k := fun h => ne_of_none h nk
    have hl1 := hk1.ltr
    have nlk := hk1.kl.symm
    walk_at "go"
    refine w_sfldi (s2 _ _ hi) KP.kp.cl KP.past (by show 4 < 1000; decide) ?_
    rw [put_past]
    walk_at "go"
    have sF : Same H (upd H2 A1.k (.ins Ck A1.dx (kpF A1.l A1.w p2 .non))) := same_up nk (s1.trans s2)
    have hlF : upd H2 A1.k (.ins Ck A1.dx (kpF A1.l A1.w p2 .non)) A1.l = some (.lst (ls.map V.int)) := by rw [upd_ne nlk]; exact s2 _ _ hl1
    have hpF : upd H2 A1.k (.ins Ck A1.dx (kpF A1.l A1.w p2 .non)) p2 = some (.lst (ts.map V.ref)) := by rw [upd_ne (n1p hi).symm]; exact h2
    have hl0 := hk.ltr
    have key : ∀ {x : Addr} {o : HO}, x ≠ A.l → x ≠ A.p → upd H2 A1.k (.ins Ck A1.dx (kpF A1.l A1.w p2 .non)) x = some o → rm A.p (rm A.l (upd H2 A1.k (.ins Ck A1.dx (kpF A1.l A1.w p2 .non)))) x = some o := fun n1 n2 h => rm_of n2 (rm_of n1 h)
    refine q ⟨A1.k, A1.dx, A1.l, p2, A1.w⟩ _ nk nl (s1.free n2) sF ⟨⟨.non, key (ne_of_none' hl0 nk) (ne_of_none' hts nk) upd_same, .inl rfl⟩, key (ne_of_none' hl0 nl) (ne_of_none' hts nl) hlF, ⟨ts, key (ne_of_none' hl0 (s1.free n2)) (ne_of_none' hts (s1.free n2)) hpF, paired_imp (fun qq t z => ?_) pts⟩, ?_, n1p hl1, hk.sz, hk.pz⟩
    · obtain ⟨z1, h1, h2, h3, h4⟩ := z
      exact ⟨z1, key (fun e => by rw [e, hl0] at h1; cases h1) (fun e => by rw [e, hts] at h1; cases h1) (sF _ _ h1), key h3 h4 (sF _ _ h2), ne_of_none h2 nl, ne_of_none h2 (s1.free n2)⟩
    · have h := hk.way.same sF
      rw [← ew] at h
      have hh : H A.l = some (.lst (ls.map V.int)) := hl0
      have h1 := h.noL (sF _ _ hl0)
      exact h1.noL (rm_of (fun e => by have := hk.lp; exact this e.symm) (sF _ _ hts))
abbrev s_right : Stmt := (top 51)
theorem sc_right : FnScope ["_law_purse_here", "_law_pairs", "_law_size", "_law_given", "_law_ring", "_law_handed", "_law_kept", "_law_pasts", "_law_turn", "_law_at", "_law_letters_here", "_law_made", "_law_spot"] ["_law_purse_here"] (defScope s_right) :=
  ⟨rfl, rfl, rfl, by decide +kernel, rfl, by decide +kernel, by decide +kernel⟩
theorem ok_right {c : CA} {Ck : Addr} (F : Dn K mg "_law_right" s_right ["_law_purse_here"]) (T : Bt mg) (X : Kx K mg c) (KP : KpK K mg Ck) (hne : ∀ z ∈ [c.wy, c.md, c.kg], z ≠ Ck) (id_kp : IdC K Ck) (q_eqwy : EqO P w K mg base 3 c.wy (spEqWy K c)) (c_draw : Cal P w K mg base 2 "_law_draw" spDraw []) (c_mod9 : Cal P w K mg base 3 "_law_modulus" spMod9 []) (c_root : Cal P w K mg base 4 "_law_root" spRoot []) (c_style : Cal P w K mg base 4 "_law_style" spStyle []) (c_marking : Cal P w K mg base 4 "_law_marking" (spMarking c) [])
    (c_modinit : C8.Mak P w K mg base 3 "Modulus" c.md (spModInit c) []) (c_way3 : C8.Mak P w K mg base 5 "Way" c.wy (spWayInit c) []) (c_kp2 : C8.Mak P w K mg base 4 "Kept" Ck (fr (spKnInit c Ck)) []) (c_some : Cal P w K mg base 3 "_law_some" spSome87 []) (c_letters : Cal P w K mg base 1 "_law_letters" spLetters [])
    (p_text : PropM P w K mg base L2.CX0 1 Ck "text" (spKpText c Ck)) (c_kptwin : C8.Met P w K mg base 6 Ck "twin" (hid (spKnTwinS c Ck)) []) (c_kpundo : C8.Met P w K mg base 1 Ck "undo" (hid (spKnUndo c Ck)) []) (c_deed : Cal P w K mg base 6 "_law_deed" (hid (spDeed87 c Ck)) []) (c_agr : Cal P w K mg base 6 "_law_agrees" (hid (spAgr87 c Ck)) []) : Cal P w K mg base 8 "_law_right" spRight94 [] := by
  refine F.cal sc_right (fun vs H Q E h => ?_) (fun f cdv AA outer s H vs Q E hr h => ?_)
  · obtain ⟨a, c, rfl, _⟩ := h
    rfl
  · obtain ⟨a, cc, rfl, hc, p0, q⟩ := h
    refine ⟨_, (pss_cons (ps_asg (pe_c c_mod9 hr (by decide) (by rfl) (pa_cons (pv 0) (pa_cons (pe_ix ix_list (pe_lst (pa_cons pe_int (pa_cons pe_int (pa_cons (pe_op oPowW pe_int pe_int) pa_nil)))) (pe_c c_draw hr (by decide) (by rfl) (pa_cons (pv 0) (pa_cons pe_int pa_nil))) (fun _ _ => rfl)) pa_nil))) (pg_unl rfl (pgs_cons (pg_name (i := 1) sc_right.nd rfl (Or.inl rfl)) (pgs_cons (pg_name (i := 2) sc_right.nd rfl (Or.inl rfl)) pgs_nil))))
      (pss_cons (ps_set (i := 3) sc_right.nd rfl (Or.inl rfl) (pe_c c_style hr (by decide) (by rfl) (pa_cons (pv 0) pa_nil)))
      (pss_cons (ps_set (i := 4) sc_right.nd rfl (Or.inl rfl) (pe_mk c_way3 hr (by decide) (by rfl) (pa_cons (pe_c c_root hr (by decide) (by rfl) (pa_cons (pv 0) (pa_cons (pv 2) pa_nil))) (pa_cons (pe_mk c_modinit hr (by decide) (by rfl) (pa_cons (pv 1) pa_nil)) (pa_cons (pe_c c_marking hr (by decide) (by rfl) (pa_cons (pv 3) pa_nil)) pa_nil)))))
      (pss_cons (ps_set (i := 5) sc_right.nd rfl (Or.inl rfl) (pe_c c_some hr (by decide) (by rfl) (pa_cons (pv 0) (pa_cons pe_int pa_nil))))
      (pss_cons (ps_set (i := 6) sc_right.nd rfl (Or.inl rfl) (pe_lst (pa_cons (pe_mk c_kp2 hr (by decide) (by rfl) (pa_cons (pv 5) (pa_cons (pv 4) pa_nil))) pa_nil)))
      (pss_cons (ps_set (i := 7) sc_right.nd rfl (Or.inl rfl) (pe_lst (pa_cons (pe_lst (pa_cons (pe_c c_letters hr (by decide) (by rfl) (pa_cons (pv 5) pa_nil)) pa_nil)) pa_nil)))
      (pss_cons (ps_if (pt_val (pe_callB call_isi (by rfl) T.isinstance (by decide +kernel) (pa_cons (pv 5) (pa_cons (pe_bltn (v := .ty "list") (by rfl) T.list (by decide +kernel) rfl) pa_nil)))) (pss_one (ps_expr (pe_bm PySem.F.plainAttrs_list PySem.F.slot_list_append PySem.F.type_list_append mt_append (pv 5) (pa_cons pe_int pa_nil)))) pss_nil)
      (pss_cons (ps_for PassesOwn.never rfl (pi_range1 (by rfl) T.range (pa_cons (pe_c c_draw hr (by decide) (by rfl) (pa_cons (pv 0) (pa_cons pe_int pa_nil))) pa_nil)) (pg_name (i := 8) sc_right.nd rfl (Or.inl rfl)) (pss_cons (ps_set (i := 9) sc_right.nd rfl (Or.inl rfl) (pe_c c_draw hr (by decide) (by rfl) (pa_cons (pv 0) (pa_cons (pe_callB cLen (by rfl) T.len (by decide +kernel) (pa_cons (pv 6) pa_nil)) pa_nil))))
      (pss_cons (ps_if (PW.pt (pw_and (pt_cmpR op_lt (pe_callB cLen (by rfl) T.len (by decide +kernel) (pa_cons (pv 6) pa_nil)) pe_int (nomark _)) (pw_and1 (pt_cmpR op_eq (pe_c c_draw hr (by decide) (by rfl) (pa_cons (pv 0) (pa_cons pe_int pa_nil))) pe_int (nomark _))))) (pss_cons (ps_expr (pe_bm PySem.F.plainAttrs_list PySem.F.slot_list_append PySem.F.type_list_append mt_append (pv 6) (pa_cons (pe_mt0 c_kptwin hr (by decide) (pe_ix ix_list (pv 6) (pv 9) (fun _ _ => rfl))) pa_nil)))
      (pss_one (ps_expr (pe_bm PySem.F.plainAttrs_list PySem.F.slot_list_append PySem.F.type_list_append mt_append (pv 7) (pa_cons (pe_lc (own := [("_law_letters_here", 10)]) (g := gName 10) (tt := tYes) (te := (tCB (Bc.rListOf K) (tCons (tVar 10) tNil))) rfl sc_right.nd (pi_list (pe_ix ix_list (pv 7) (pv 9) (fun _ _ => rfl))) (blkOk_by (own := [("_law_letters_here", 10)]) (N := ["_law_purse_here", "_law_pairs", "_law_size", "_law_given", "_law_ring", "_law_handed", "_law_kept", "_law_pasts", "_law_turn", "_law_at", "_law_letters_here", "_law_made", "_law_spot"]) (sc := defScope s_right) (by decide +kernel)) (fun _ _ _ _ _ => (pg_name (i := 10) sc_right.nd rfl (Or.inl rfl))) (fun _ _ _ _ _ => pts_nil) (fun _ _ _ _ _ => (pe_callTy cListOf (by rfl) T.list (by decide +kernel) (pa_cons (pv 10) pa_nil)))) pa_nil))))) pss_nil)
      (pss_cons (ps_set (i := 11) sc_right.nd rfl (Or.inl rfl) (pe_ix ix_list (pv 6) (pv 9) (fun _ _ => rfl)))
      (pss_cons (ps_asg (pe_c c_deed hr (by decide) (by rfl) (pa_cons (pv 0) (pa_cons (pv 11) (pa_cons (pe_ix ix_list (pv 7) (pv 9) (fun _ _ => rfl)) pa_nil)))) (pg_sub (pv 6) (pv 9) set_list))
      (pss_cons (ps_if (PW.pt (pw_or (pt_cmpR (op_neO q_eqwy hr (by decide)) (pe_fld (pe_ix ix_list (pv 6) (pv 9) (fun _ _ => rfl)) rfl) (pv 4) (nomark _)) (pw_or (pt_cmpR (op_neD hr.units) (pe_propO p_text pass00 hr (by decide) (pv 11) rfl) (pe_propO p_text pass00 hr (by decide) (pe_ix ix_list (pv 6) (pv 9) (fun _ _ => rfl)) rfl) (nomark _)) (pw_or1 (pt_cmpR (op_eqI id_kp hr.units) (pv 11) pe_int (nomark _)))))) (pss_one (ps_ret pe_bl)) pss_nil)
      (pss_one (ps_for PassesOwn.never rfl (pi_range1 (by rfl) T.range (pa_cons (pe_callB cLen (by rfl) T.len (by decide +kernel) (pa_cons (pv 6) pa_nil)) pa_nil)) (pg_name (i := 12) sc_right.nd rfl (Or.inl rfl)) (pss_one (ps_if (pt_not (pt_val (pe_c c_agr hr (by decide) (by rfl) (pa_cons (pv 0) (pa_cons (pe_ix ix_list (pv 6) (pv 12) (fun _ _ => rfl)) (pa_cons (pe_ix ix_list (pe_ix ix_list (pv 7) (pv 12) (fun _ _ => rfl)) (pe_un un_neg pe_int) (fun _ _ => rfl)) (pa_cons (pv 3) pa_nil))))))) (pss_one (ps_ret pe_bl)) pss_nil))))))))))
      (pss_cons (ps_for PassesOwn.never rfl (pi_range1 (by rfl) T.range (pa_cons (pe_callB cLen (by rfl) T.len (by decide +kernel) (pa_cons (pv 6) pa_nil)) pa_nil)) (pg_name (i := 12) sc_right.nd rfl (Or.inl rfl)) (pss_one (ps_while PassesOwn.never (pt_cmpR op_gt (pe_callB cLen (by rfl) T.len (by decide +kernel) (pa_cons (pe_ix ix_list (pv 7) (pv 12) (fun _ _ => rfl)) pa_nil)) pe_int (nomark _)) (pss_cons (ps_expr (pe_mt0 c_kpundo hr (by decide) (pe_ix ix_list (pv 6) (pv 12) (fun _ _ => rfl))))
      (pss_cons (ps_expr (pe_bm0 PySem.F.plainAttrs_list PySem.F.slot_list_pop PySem.F.type_list_pop mt_pop (pe_ix ix_list (pv 7) (pv 12) (fun _ _ => rfl))))
      (pss_one (ps_if (pt_cmpR (op_neD hr.units) (pe_propO p_text pass00 hr (by decide) (pe_ix ix_list (pv 6) (pv 12) (fun _ _ => rfl)) rfl) (pe_callTy cTupOf (by rfl) T.tuple (by decide +kernel) (pa_cons (pe_ix ix_list (pe_ix ix_list (pv 7) (pv 12) (fun _ _ => rfl)) (pe_un un_neg pe_int) (fun _ _ => rfl)) pa_nil)) (nomark _)) (pss_one (ps_ret pe_bl)) pss_nil)))))))
      (pss_one (ps_ret pe_bl))))))))))), ?_⟩
    have pw9 : CPowW 10 9 := ⟨by decide, by decide⟩
    walk_at "go"
    refine alR p0 fun l4 H4 s4 u4 h4 n4 => ?_
    walk_at "go"
    refine use_drawR u4 (by decide) (by decide) (by omega) fun r5 H5 r50 r51 s5 u5 => ?_
    refine w_ixL (xs := ([9, 60, 1000000000] : List Int).map V.int) (by walk_at "hp") (atI_ints r50 (by simpa using r51)) ?_
    obtain ⟨z5, hz5, z50, z51⟩ := pick3 (x := 9) (y := 60) (z := 1000000000) (lo := 1) (hi := 1000000000) r50 r51 (by decide) (by decide) (by decide)
    rw [hz5]
    walk_at "go"
    refine ⟨a, z5, _, rfl, z50, z51, by omega, u5, fun r6 lp H6 ps s6 u6 h6 hl6 ha hs hn5 => ?_⟩
    have hn := num_pos hs
    walk_at "go"
    refine use_styleR u6 (by omega) fun g H7 y s7 u7 hg hy => ?_
    walk_at "go"
    refine use_rootR u7 hn (by omega) fun rt H8 hrt s8 u8 => ?_
    walk_at "go"
    refine use_modR u8 (by walk_at "hp") ha hs fun m1 H11 s11 u11 hm => ?_
    walk_at "go"
    refine use_markingR u11 (by walk_at "hp") fun kg H13 s13 u13 hk => ?_
    walk_at "go"
    refine use_wayR u13 (y := y) (by walk_at "hp") (by walk_at "hp") fun wy H14 s14 u14 hw => ?_
    have hb0 := Int.emod_nonneg rt (show num ps ≠ 0 by omega)
    have hbn := Int.emod_lt_of_pos rt hn
    have hg14 : rm a H14 g = some (.lst [.bl y.low, .int y.shift, .bl y.lead]) := by walk_at "hp"
    have S14 : Same (rm a H) (rm a H14) := by walk_at "same"
    generalize rt % num ps = b at hw hb0 hbn
    clear s4 s5 s6 s7 s8 s11 s13 s14 u4 u5 u6 u7 u8 u11 u13 hm hg hk h4 h6 hl6
    walk_at "go"
    refine ⟨a, _, 40, rfl, by decide, by omega, u14, fun v ms H15 s15 u15 hs15 hml smm => ?_⟩
    have hw15 := hw.same s15
    have t15 : TextAt (rm a H15) v ms := hs15.text (by omega)
    walk_at "go"
    refine use_knRi u15 t15 (by omega) hw15 fun A H16 nk nl np ew s16 u16 hk16 hi16 => ?_
    subst ew
    walk_at "go"
    refine alR u16 fun K0 H17 s17 u17 hK17 nK => ?_
    walk_at "go"
    refine ⟨v, ms, rfl, (t15.same (s16.trans s17)).same rm_le, fun r H18 nr s18 hr18 => ?_⟩
    walk_at "go"
    refine al fun P0 H19 nP s19 hP19 => ?_
    walk_at "go"
    refine al fun L0 H20 nL s20 hL20 => ?_
    have u20 : Purse H20 a (cc + 1500000000) := (u17.same (s18.trans (s19.trans s20))).le (by omega)
    obtain ⟨dK, hK17'⟩ := rm_some hK17
    have hK20 := s20 _ _ (s19 _ _ (s18 _ _ hK17'))
    have hr20 := s20 _ _ (s19 _ _ hr18)
    have hP20 := s20 _ _ hP19
    have dr : r ≠ a := u17.fresh nr
    have dP : P0 ≠ a := (u17.same s18).fresh nP
    have dL : L0 ≠ a := (u17.same (s18.trans s19)).fresh nL
    have d1 : L0 ≠ K0 := ne_of_none' (s19 _ _ (s18 _ _ hK17')) nL
    have d2 : P0 ≠ K0 := ne_of_none' (s18 _ _ hK17') nP
    have d3 : r ≠ K0 := ne_of_none' hK17' nr
    have d4 : L0 ≠ P0 := ne_of_none' hP19 nL
    have d5 : L0 ≠ r := ne_of_none' (s19 _ _ hr18) nL
    have d6 : P0 ≠ r := ne_of_none' hr18 nP
    have S20 : Same (rm a H16) H20 := fun x o h => s20 _ _ (s19 _ _ (s18 _ _ (rm_le _ _ (s17 _ _ h))))
    have f16 : ∀ x ∈ [a, K0, L0, P0, r], rm a H16 x = none := fun x hx => by
      have z : ∀ z, rm a H17 z = none → rm a H16 z = none := fun z h => s17.free h
      simp only [List.mem_cons, List.not_mem_nil, or_false] at hx
      rcases hx with rfl | rfl | rfl | rfl | rfl
      · exact rm_self
      · exact nK
      · exact z _ (rm_none (s18.free (s19.free nL)))
      · exact z _ (rm_none (s18.free nP))
      · exact z _ (rm_none nr)
    have S16 : Same (rm a H14) (rm a H16) := s15.trans s16
    have mk : ∀ Hx H', KpAt c Ck Hx A b ps y ms [] → Same Hx H' → (∀ x ∈ [a, K0, L0, P0, r], Hx x = none) → Same (rm a H14) Hx → Purse H' a (cc + 1500000000) → H' K0 = some (.lst [.ref A.k]) → H' L0 = some (.lst [.ref P0]) → H' P0 = some (.lst [.ref r]) → H' r = some (.lst (ms.map V.int)) → Wd c Ck a (cc + 1500000000) 40 K0 L0 b ps y (rm a H14) H' [(A, P0)] (fun _ => [ms]) (fun _ => []) := fun Hx H' k1 k2 k3 k4 k5 k6 k7 k8 k9 =>
      Wd.one k5 k6 k7 k8 k9 k1 k2 k3 ⟨dK.symm, dL.symm, dP.symm, dr.symm, d1.symm, d2.symm, d4, d3, d5.symm, d6.symm⟩ k4 (s15.free nk) (s15.free nl) (s15.free np) (by omega) smm
    have fN : FitN (num ps) y := ⟨by omega, hy⟩
    clear u16 u17 s17 s18 s19 s20
    walk_at "goI"
    refine w_ifJq (fun σ H' => σ = [some (.ref a), some (.ref lp), some (.int (num ps)), some (.ref g), some (.ref A.w), some v, some (.ref K0), some (.ref L0), none, none, none, none, none] ∧ Wd c Ck a (cc + 1500000000) 40 K0 L0 b ps y (rm a H14) H' [(A, P0)] (fun _ => [ms]) (fun _ => [])) ?_ ?_
    · rintro σ H21 ⟨rfl, wd0⟩
      clear mk f16 hK20 hr20 hP20 hL20
      walk_at "go"
      refine use_drawR wd0.u (by decide) (by decide) (by omega) fun nt H22 nt0 nt1 s22 u22 => ?_
      have wd22 := wd0.same hne u22 s22
      walk_at "go"
      refine for_range (lo := 0) (n := nt.toNat) (fun i σ H' => ∃ (v8 v9 v11 v12 : Option V) (sh : List (KpA × Addr)) (ts : Nat → List (List Int)) (past : Nat → List Pst), σ = [some (.ref a), some (.ref lp), some (.int (num ps)), some (.ref g), some (.ref A.w), some v, some (.ref K0), some (.ref L0), v8, v9, none, v11, v12] ∧ Wd c Ck a (cc + 1500000001 + 1000 * i) (40 + 6 * i) K0 L0 b ps y (rm a H14) H' sh ts past ∧ 1 ≤ sh.length ∧ sh.length ≤ 3 ∧ ∀ j, (ts j).length ≤ 1 + i) ⟨none, none, none, none, _, _, _, rfl, wd22.same hne (wd22.u.le (by omega)) (Same.refl _), Nat.le_refl _, by simp, fun _ => by simp⟩ ?_ ?_
      · rintro i σ H23 hi ⟨v8, v9, v11, v12, sh, ts, past, rfl, wd, l1, l2, tl⟩
        have hi14 : i ≤ 13 := by omega
        have hK := wd.hK
        walk_at "go"
        rw [List.length_map]
        refine use_drawR wd.u (by omega) (by omega) (by omega) fun at0 H24 a0 a1 s24 u24 => ?_
        obtain ⟨at0, rfl⟩ := Int.eq_ofNat_of_zero_le a0
        have wd24 := wd.same hne u24 s24
        have hat0 : at0 < sh.length := by omega
        clear hK wd s24 u24
        walk_at "goI"
        refine w_ifJq (fun σ H' => ∃ (sh' : List (KpA × Addr)) (ts' : Nat → List (List Int)) (past' : Nat → List Pst), σ = [some (.ref a), some (.ref lp), some (.int (num ps)), some (.ref g), some (.ref A.w), some v, some (.ref K0), some (.ref L0), some (.int (0 + (i : Int))), some (.int at0), none, v11, v12] ∧ Wd c Ck a (cc + 1500000001 + 1000 * i + 2) (40 + 6 * i) K0 L0 b ps y (rm a H14) H' sh' ts' past' ∧ sh'.length ≤ 3 ∧ at0 < sh'.length ∧ ∀ j, (ts' j).length ≤ 1 + i) ?_ ?_
        · rintro σ H25 ⟨sh', ts', past', rfl, wd, l2', hat, tl'⟩
          obtain ⟨s, hs⟩ : ∃ s, sh'[at0]? = some s := ⟨_, List.getElem?_eq_getElem hat⟩
          have hsK : (sh'.map fun s => V.ref s.1.k)[at0]? = some (.ref s.1.k) := by rw [List.getElem?_map, hs]; rfl
          have hsL : (sh'.map fun s => V.ref s.2)[at0]? = some (.ref s.2) := by rw [List.getElem?_map, hs]; rfl
          walk_at "go"
          refine w_ixL (sq wd.hK) (atI_nat hsK) ?_
          walk_at "go"
          refine w_ixL (sq wd.hL) (atI_nat hsL) ?_
          walk_at "go"
          refine use_deedW hne wd hs (by omega) (by omega) (by have := tl' at0; omega) fun H26 t2 p2 tl2 wd26 => ?_
          have hK26 := wd26.hK
          walk_at "go"
          refine w_setL hK26 (by rw [List.length_map]; exact ixN_nat' hat) ?_
          rw [set_id hsK, upd_id hK26]
          obtain ⟨ts3, ets3⟩ : ∃ ts3, ts3 = (fun n => if n = at0 then t2 else ts' n) := ⟨_, rfl⟩
          have tl3 : ∀ j, (ts3 j).length ≤ 2 + i := fun j => by
            rw [ets3]
            have h1 := tl' j
            have h2 := tl' at0
            show (if j = at0 then t2 else ts' j).length ≤ _
            split <;> omega
          rw [← ets3] at wd26
          generalize (fun n => if n = at0 then p2 else past' n) = past3 at wd26
          clear ets3 wd tl' hK26
          obtain ⟨r0, r1, pre, ls, hP26, e26, hk26, hr26, nr1, nr2, hl26, sm26, nPa, _⟩ := wd26.last hs
          have hkH := hk26.same hide_le
          have hwr := hw.same (wd26.base.trans hide_le)
          walk_at "go"
          refine w_ixL (sq wd26.hK) (atI_nat hsK) ?_
          walk_at "go"
          refine neWy X hkH.way hwr fun H27 s27 => ?_
          rw [show eqWay b (num ps) y b (num ps) y = true by simp [eqWay, eqSty]]
          walk_at "go"
          refine iteF ?_
          have hk27 := hkH.same s27
          walk_at "go"
          refine w_insQ hk27 ?_
          refine ⟨s.1, b, ps, y, _, _, rfl, hk27, fun t3 H28 _ s28 h28 => ?_⟩
          have hk28 := hk27.same s28
          walk_at "go"
          refine w_ixL (sq ((s27.trans s28) _ _ wd26.hK)) (atI_nat hsK) ?_
          walk_at "go"
          refine w_insQ hk28 ?_
          refine ⟨s.1, b, ps, y, _, _, rfl, hk28, fun t4 H29 _ s29 h29 => ?_⟩
          walk_at "go"
          refine w_neTT (sqt (s29 _ _ h28)) (sqt h29) ?_
          rw [decide_eq_true rfl]
          walk_at "go"
          refine iteF ?_
          have hk29 := hk28.same s29
          have S29 := s27.trans (s28.trans s29)
          obtain ⟨rr, hins, _⟩ := hk29.ins
          walk_at "go"
          refine ⟨s.1.k, _, _, rfl, hins, .inl ⟨5, rfl, ?_⟩⟩
          walk_at "go"
          refine iteF ?_
          have wd29 := wd26.same hne (wd26.u.same S29) S29.rm
          clear hk27 hk28 hk29 hins hkH hk26 hr26 hP26 wd26 s27 s28 s29 S29 h28 h29
          have hK29 := wd29.hK
          walk_at "go"
          rw [List.length_map]
          refine ⟨_, rfl, by omega, by omega, ?_⟩
          refine for_range (lo := 0) (n := sh'.length) (fun k σ H' => ∃ (v12 : Option V), σ = [some (.ref a), some (.ref lp), some (.int (num ps)), some (.ref g), some (.ref A.w), some v, some (.ref K0), some (.ref L0), some (.int (0 + (i : Int))), some (.int at0), none, some (.ref s.1.k), v12] ∧ Wd c Ck a (cc + 1500000001 + 1000 * i + 200 + 20 * k) (40 + 6 * i + 6) K0 L0 b ps y (rm a H14) H' sh' ts3 past3) ⟨_, rfl, wd29.same hne (wd29.u.le (by omega)) (Same.refl _)⟩ ?_ ?_
          · rintro k σ H30 hk ⟨v12, rfl, wd⟩
            obtain ⟨s2, hs2⟩ : ∃ s2, sh'[k]? = some s2 := ⟨_, List.getElem?_eq_getElem hk⟩
            obtain ⟨r0, r1, pre, ls, hP26, e26, hk26, hr26, nr1, nr2, hl26, sm26, nPa, _⟩ := wd.last hs2
            rw [Int.zero_add]
            walk_at "go"
            refine w_ixL (sq wd.hK) (atI_nat (by rw [List.getElem?_map, hs2]; rfl)) ?_
            walk_at "go"
            refine w_ixL (sq wd.hL) (atI_nat (by rw [List.getElem?_map, hs2]; rfl)) ?_
            walk_at "go"
            refine w_ixL (sq hP26) (at_lastR _ _) ?_
            walk_at "go"
            refine use_agrW hne wd hs2 (by omega) (by omega) fN hg14 e26 hk26 hr26 nr1 nr2 hl26 sm26 fun H31 wd31 => ?_
            walk_at "go"
            refine iteF ?_
            walk_at "go"
            exact ⟨_, rfl, wd31.same hne (wd31.u.le (by omega)) (Same.refl _)⟩
          · rintro σ H30 ⟨v12, rfl, wd⟩
            walk_at "go"
            refine ⟨_, _, _, _, sh', ts3, past3, rfl, ?_, by omega, l2', fun j => by have := tl3 j; omega⟩
            have e6 : 40 + 6 * (i + 1) = 40 + 6 * i + 6 := by omega
            rw [e6]
            exact wd.same hne (wd.u.le (by omega)) (Same.refl _)
        · intro Nx hNx
          have hK := wd24.hK
          walk_at "go"
          rw [List.length_map]
          refine ite_d (fun e1 => ?_) (fun e1 => ?_)
          · walk_at "go"
            refine use_drawR wd24.u (by decide) (by decide) (by omega) fun d H25 d0 d1 s25 u25 => ?_
            have wd25 := (wd24.same hne u25 s25).same hne (u25.le (d := cc + 1500000001 + 1000 * i + 2) (by omega)) (Same.refl _)
            clear hK wd24 s25 u25
            walk_at "go"
            rw [decI]
            refine ite_d (fun e2 => ?_) (fun e2 => ?_)
            · obtain ⟨s, hs⟩ : ∃ s, sh[at0]? = some s := ⟨_, List.getElem?_eq_getElem hat0⟩
              have hsK : (sh.map fun s => V.ref s.1.k)[at0]? = some (.ref s.1.k) := by rw [List.getElem?_map, hs]; rfl
              have hsL : (sh.map fun s => V.ref s.2)[at0]? = some (.ref s.2) := by rw [List.getElem?_map, hs]; rfl
              obtain ⟨r0, r1, pre, ls, hP25, e25, hk25, hr25, nr1, nr2, hl25, sm25, nPa, len⟩ := wd25.last hs
              obtain ⟨rs, hrs, prs⟩ := (wd25.w at0 s hs).p
              have hK25 := wd25.hK
              have hL25 := wd25.hL
              have kl := wd25.kl
              walk_at "go"
              refine w_ixL (sq hK25) (atI_nat hsK) ?_
              walk_at "go"
              refine w_insP (hk25.same hide_le) ?_
              walk_at "go"
              refine use_twinW wd25 hs hk25 fun A2 H26 s26 nk2 nl2 np2 hk26 => ?_
              walk_at "go"
              refine w_append (s26 _ _ hK25) (sz (by rw [List.length_map]; omega)) ?_
              have hL27 : upd H26 K0 (.lst (sh.map (fun s => V.ref s.1.k) ++ [.ref A2.k])) L0 = some (.lst (sh.map fun s => V.ref s.2)) := by rw [upd_ne kl.symm]; exact s26 _ _ hL25
              have nPK : s.2 ≠ K0 := fun e => (wd25.kc s (List.mem_of_getElem? hs)).1 (by rw [← e]; simp [cellsK])
              have nPL : s.2 ≠ L0 := fun e => (wd25.kc s (List.mem_of_getElem? hs)).2 (by rw [← e]; simp [cellsK])
              have hP27 : upd H26 K0 (.lst (sh.map (fun s => V.ref s.1.k) ++ [.ref A2.k])) s.2 = some (.lst (rs.map V.ref)) := by rw [upd_ne nPK]; exact s26 _ _ (hide_le _ _ (rm_le _ _ hrs))
              have kf : K0 ∈ frn (MK K0 L0 sh) s := mem_frn.mpr ⟨List.mem_cons_self .., (wd25.kc s (List.mem_of_getElem? hs)).1⟩
              have u27 : Purse (upd H26 K0 (.lst (sh.map (fun s => V.ref s.1.k) ++ [.ref A2.k]))) a (cc + 1500000001 + 1000 * i + 2) := (wd25.u.same s26).upd (fun e => wd25.am (by rw [← e]; exact List.mem_cons_self ..))
              have hK27 : upd H26 K0 (.lst (sh.map (fun s => V.ref s.1.k) ++ [.ref A2.k])) K0 = some (.lst (sh.map (fun s => V.ref s.1.k) ++ [.ref A2.k])) := upd_same
              have o27 : ∀ x, x ≠ K0 → upd H26 K0 (.lst (sh.map (fun s => V.ref s.1.k) ++ [.ref A2.k])) x = H26 x := fun x n => upd_ne n
              generalize upd H26 K0 (.lst (sh.map (fun s => V.ref s.1.k) ++ [.ref A2.k])) = H27 at hL27 hP27 u27 hK27 o27 ⊢
              walk_at "go"
              refine w_ixL (sq hL27) (atI_nat hsL) ?_
              walk_at "go"
              intro D hD
              refine lc_rel (rs.map V.ref) (fun x y G => ∃ t, y = .ref t ∧ ∀ z zs, x = .ref z → H27 z = some (.lst zs) → H27 t = none ∧ t ≠ D ∧ G t = some (.lst zs)) (fun x y G G' s h => by
                obtain ⟨t, e, h⟩ := h
                exact ⟨t, e, fun z zs e1 e2 => ⟨(h z zs e1 e2).1, (h z zs e1 e2).2.1, s _ _ (h z zs e1 e2).2.2⟩⟩) walk_list hD (fun H' s' => sq (s' _ _ hP27)) (by rw [List.length_map, ← prs.length]; have := tl at0; omega) (fun _ => rfl) ?_ ?_
              · rintro k x H28 hx s28 ⟨acc, hacc⟩ Q' q'
                obtain ⟨z, hz, rfl⟩ := get_map hx
                obtain ⟨t, ht, z1, z2, z3, z4⟩ := paired_get prs hz
                obtain ⟨n3, z2⟩ := rm_some z2
                obtain ⟨n4, z2⟩ := hide_some z2
                have hz27 : H27 z = some (.lst (t.map V.int)) := by rw [o27 z (fun e => n4 (by rw [e]; exact kf))]; exact s26 _ _ z2
                walk_at "go"
                refine w_listL (sq (s28 _ _ hz27)) (al fun u H29 n5 s5 h5 => ?_)
                refine q' _ _ s5 ⟨u, rfl, fun z' zs e1 e2 => ?_⟩
                cases e1
                rw [hz27] at e2
                cases e2
                exact ⟨s28.free n5, ne_of_none' hacc n5, rm_of (ne_of_none' hacc n5) h5⟩
              intro H28 ys s28 hD28 pr
              obtain ⟨qs, rfl, pq⟩ := copies (Pn := fun t q => H27 q = none ∧ q ≠ D ∧ H28 q = some (.lst (t.map V.int))) (fun t z y f g => by
                obtain ⟨z1, z2, z3, z4⟩ := f
                obtain ⟨q, e, h⟩ := g
                obtain ⟨n3, z2⟩ := rm_some z2
                obtain ⟨n4, z2⟩ := hide_some z2
                exact ⟨q, e, h z _ rfl (by rw [o27 z (fun e => n4 (by rw [e]; exact kf))]; exact s26 _ _ z2)⟩) prs pr
              have nDL : D ≠ L0 := ne_of_none' hL27 hD
              have nDK : D ≠ K0 := ne_of_none' hK27 hD
              walk_at "go"
              refine w_append (s28 _ _ hL27) (sz (by rw [List.length_map]; omega)) ?_
              walk_at "go"
              refine hNx _ _ ⟨sh ++ [(A2, D)], _, _, rfl, wd25.grow hne hs s26 nk2 nl2 np2 hk26 e25 (by rw [← o27 D nDK]; exact hD) (fun x o n1 n2 n3 hx => ?_) ((u27.same s28).upd (fun e => wd25.am (by rw [← e]; exact List.mem_cons_of_mem _ (List.mem_cons_self ..)))) ?_ ?_ (by rw [upd_ne nDL]; exact hD28) (paired_imp (fun t q z => ?_) pq), ?_, ?_, fun k => ?_⟩
              · rw [upd_ne n3]
                exact s28 _ _ (by rw [o27 x n2]; exact hx)
              · rw [upd_ne kl, List.map_append]
                exact s28 _ _ hK27
              · rw [upd_same, List.map_append]
                rfl
              · obtain ⟨z1, z2, z3⟩ := z
                have nK : q ≠ K0 := ne_of_none' hK27 z1
                have nL : q ≠ L0 := ne_of_none' hL27 z1
                exact ⟨by rw [← o27 q nK]; exact z1, z2, by rw [upd_ne nL]; exact z3⟩
              · rw [List.length_append, List.length_singleton]; omega
              · rw [List.length_append, List.length_singleton]; omega
              · show (if k = sh.length then ts at0 else ts k).length ≤ _
                split
                · exact tl at0
                · exact tl k
            · walk_at "go"
              exact hNx _ _ ⟨sh, ts, past, rfl, wd25, l2, hat0, tl⟩
          · walk_at "go"
            exact hNx _ _ ⟨sh, ts, past, rfl, wd24.same hne (wd24.u.le (by omega)) (Same.refl _), l2, hat0, tl⟩
      · rintro σ H23 ⟨v8, v9, v11, v12, sh, ts, past, rfl, wd, l1, l2, tl⟩
        have hK := wd.hK
        walk_at "go"
        rw [List.length_map]
        refine ⟨_, rfl, by omega, by omega, ?_⟩
        refine for_range (lo := 0) (n := sh.length) (fun k σ H' => ∃ (v12 : Option V) (ts : Nat → List (List Int)) (past : Nat → List Pst), σ = [some (.ref a), some (.ref lp), some (.int (num ps)), some (.ref g), some (.ref A.w), some v, some (.ref K0), some (.ref L0), v8, v9, none, v11, v12] ∧ Wd c Ck a (cc + 1500000001 + 1000 * nt.toNat) (40 + 6 * nt.toNat) K0 L0 b ps y (rm a H14) H' sh ts past) ⟨_, _, _, rfl, wd⟩ ?_ ?_
        · rintro k σ H24 hk ⟨v12, ts, past, rfl, wd⟩
          obtain ⟨s, hs⟩ : ∃ s, sh[k]? = some s := ⟨_, List.getElem?_eq_getElem hk⟩
          have hsK : (sh.map fun s => V.ref s.1.k)[k]? = some (.ref s.1.k) := by rw [List.getElem?_map, hs]; rfl
          have hsL : (sh.map fun s => V.ref s.2)[k]? = some (.ref s.2) := by rw [List.getElem?_map, hs]; rfl
          walk_at "go"
          rw [Int.zero_add]
          refine while_m (fun m σ H' => ∃ (ts : Nat → List (List Int)) (past : Nat → List Pst), σ = [some (.ref a), some (.ref lp), some (.int (num ps)), some (.ref g), some (.ref A.w), some v, some (.ref K0), some (.ref L0), v8, v9, none, v11, some (.int k)] ∧ Wd c Ck a (cc + 1500000001 + 1000 * nt.toNat) (40 + 6 * nt.toNat) K0 L0 b ps y (rm a H14) H' sh ts past ∧ (ts k).length = m) (ts k).length ⟨ts, past, rfl, wd, rfl⟩ ?_
          rintro m σ H25 ⟨ts, past, rfl, wd, em⟩
          obtain ⟨r0, r1, pre, ls, hP26, e26, hk26, hr26, nr1, nr2, hl26, sm26, nPa, len⟩ := wd.last hs
          walk_at "go"
          refine w_ixL (sq wd.hL) (atI_nat hsL) ?_
          walk_at "go"
          rw [List.length_append, List.length_map, List.length_singleton]
          refine ite_d (fun e1 => ?_) (fun e1 => ?_)
          · refine while_nm ?_
            walk_at "go"
            refine w_ixL (sq wd.hK) (atI_nat hsK) ?_
            walk_at "go"
            refine w_insP (hk26.same hide_le) ?_
            walk_at "go"
            refine use_undoW hne wd hs (by omega) (by omega) fun H26 r2 r3 hL6 hP6 hx => ?_
            obtain ⟨ts2, past2, tl2, wd2⟩ := hx
            walk_at "go"
            refine w_ixL (sq hL6) (atI_nat hsL) ?_
            walk_at "go"
            refine w_pop hP6 ?_
            have tl3 : (if k = k then ts2 else ts k).length + 1 = m := by rw [if_pos rfl]; omega
            obtain ⟨ts3, ets3⟩ : ∃ ts3, ts3 = (fun n => if n = k then ts2 else ts n) := ⟨_, rfl⟩
            have tl4 : (ts3 k).length + 1 = m := by rw [ets3]; exact tl3
            rw [← ets3] at wd2
            generalize (fun n => if n = k then past2 else past n) = past3 at wd2
            generalize upd H26 s.2 (.lst (List.map V.ref r2)) = H27 at wd2 ⊢
            clear ets3 tl3 hP6 hL6 wd hk26 hr26 hP26
            obtain ⟨r0, r1, pre, ls, hP27, e27, hk27, hr27, nr1, nr2, hl27, sm27, nPa, len⟩ := wd2.last hs
            have hkH := hk27.same hide_le
            walk_at "go"
            refine w_ixL (sq wd2.hK) (atI_nat hsK) ?_
            walk_at "go"
            refine w_insQ hkH ?_
            refine ⟨s.1, b, ps, y, _, _, rfl, hkH, fun t3 H28 _ s28 h28 => ?_⟩
            walk_at "go"
            refine w_ixL (sq (s28 _ _ wd2.hL)) (atI_nat hsL) ?_
            walk_at "go"
            refine w_ixL (sq (s28 _ _ hP27)) (at_lastR _ _) ?_
            walk_at "go"
            refine w_tupL (sq (s28 _ _ (hide_le _ _ hr27))) (al fun t4 H29 _ s29 h29 => ?_)
            walk_at "go"
            refine w_neTT (sqt (s29 _ _ h28)) (sqt h29) ?_
            rw [decide_eq_true rfl]
            walk_at "go"
            refine iteF ?_
            walk_at "go"
            have S29 := s28.trans s29
            exact ⟨_, by omega, ts3, past3, rfl, wd2.same hne (wd2.u.same S29) S29.rm, rfl⟩
          · walk_at "go"
            exact ⟨_, _, _, rfl, wd⟩
        · rintro σ H24 ⟨v12, ts, past, rfl, wd⟩
          walk_at "go"
          exact q _ (S14.trans (wd.base.trans hide_rm)) (wd.u.le (by omega))
    · intro Nx hNx
      have hK16 := s16
      walk_at "go"
      rcases hs15 with ⟨z, rfl, tz⟩ | ⟨p, rfl, npf, hp⟩ | ⟨p, rfl, hp⟩
      · refine w_isi (b := false) (.base (.str z)) (kit_ty (by decide +kernel)) ?_
        walk_at "go"
        refine iteF ?_
        walk_at "go"
        exact hNx _ _ ⟨rfl, mk _ _ hk16 S20 f16 S16 u20 hK20 hL20 hP20 hr20⟩
      · have hp16 := s16 _ _ hp
        have hp20 := S20 _ _ hp16
        have npa : p ≠ a := (rm_some hp).1
        refine w_isi (b := true) (.base (.lst hp20)) (kit_ty (by decide +kernel)) ?_
        walk_at "go"
        refine iteT ?_
        walk_at "go"
        refine w_append hp20 (sz (by rw [List.length_map]; omega)) ?_
        walk_at "go"
        have n : ∀ x ∈ [a, K0, L0, P0, r], p ≠ x := fun x hx => ne_of_none hp16 (f16 x hx)
        refine hNx _ _ ⟨rfl, mk (rm p (rm a H16)) _ (hk16.bare hi16 hp16 (ne_of_none hp nl) (ne_of_none hp np)) (fun x o h => ?_) (fun x hx => rm_none (f16 x hx)) (fun x o h => ?_) (u20.upd npa) ?_ ?_ ?_ ?_⟩
        · obtain ⟨n1, h⟩ := rm_some h
          rw [upd_ne n1]
          exact S20 _ _ h
        · exact rm_of (ne_of_none h npf) (S16 _ _ h)
        · rw [upd_ne (n K0 (by simp)).symm]; exact hK20
        · rw [upd_ne (n L0 (by simp)).symm]; exact hL20
        · rw [upd_ne (n P0 (by simp)).symm]; exact hP20
        · rw [upd_ne (n r (by simp)).symm]; exact hr20
      · have hp20 := S20 _ _ (s16 _ _ hp)
        refine w_isi (b := false) (.base (.tup hp20)) (kit_ty (by decide +kernel)) ?_
        walk_at "go"
        refine iteF ?_
        walk_at "go"
        exact hNx _ _ ⟨rfl, mk _ _ hk16 S20 f16 S16 u20 hK20 hL20 hP20 hr20⟩

abbrev s_law : Stmt := (top 52)
theorem sc_law : FnScope ["_law_script", "_law_at", "_law_purse_here", "_law_turn", "_law_made", "_law_k"] ["_law_script"] (defScope s_law) :=
  ⟨rfl, rfl, rfl, by decide +kernel, rfl, by decide +kernel, by decide +kernel⟩
theorem ok_law {c : CA} {Ck : Addr} {f : Addr} {fd : FuncData} (F : L2.Fun K "law" "law" s_law f fd) (T : Bt mg) (X : Kx K mg c) (KP : KpK K mg Ck) (id_kp : IdC K Ck) (nq_kp : PySem.W.noSeq K Ck = true) (sf_kp : PySem.W.selfFirst K Ck = true) (c_purse : Cal P w K mg base 1 "_law_purse" (spPurse K) []) (c_right : Cal P w K mg base 8 "_law_right" spRight94 []) (c_modinit : C8.Mak P w K mg base 3 "Modulus" c.md (spModInit c) []) (c_way2 : C8.Mak P w K mg base 5 "Way" c.wy (spWayInit c) [.non])
    (c_kp2 : C8.Mak P w K mg base 4 "Kept" Ck (spKnInit c Ck) []) (c_kp2K : MakK P w K mg base 4 "Kept" Ck ["way", "text"] (spKnInit c Ck) (fun vs zs => vs ++ zs.reverse)) (c_kpchangeK : MetK P w K mg base 4 Ck "change" 0 ["text", "last", "first"] (spKnChange c Ck) (fun vs zs => vs ++ zs.reverse)) (p_text : PropM P w K mg base L2.CX0 1 Ck "text" (spKpText c Ck)) (c_kpmark0 : C8.Met P w K mg base 4 Ck "mark_of" (spKnMark c Ck) [.int 0, .non])
    (o_kp_set : OwnM P w K mg base L2.CX0 3 Ck "__setitem__" (spKnSet c Ck)) (o_kp_iadd : OwnM P w K mg base L2.CX0 4 Ck "__iadd__" (spKnIadd c Ck)) (c_kpundo : C8.Met P w K mg base 1 Ck "undo" (spKnUndo c Ck) []) :
    FnOk P w K mg base L2.CX0 9 f fd ["_law_script"] (spLaw K) := by
  refine F.ok sc_law (fun vs H Q E h => ?_) (fun cdv A outer s H vs Q E hr h => ?_)
  · obtain ⟨a, ns, rfl, _⟩ := h
    rfl
  · obtain ⟨a, ns, rfl, hS, hl, k⟩ := h
    refine ⟨_, (pss_cons (ps_for PassesOwn.never rfl (pi_range1 (by rfl) T.range (pa_cons (pe_op op_add pe_int (pe_callB (cMin2 rfl) (by rfl) T.min (by decide +kernel) (pa_cons pe_int (pa_cons (pe_callB cLen (by rfl) T.len (by decide +kernel) (pa_cons (pv 0) pa_nil)) pa_nil)))) pa_nil)) (pg_name (i := 1) sc_law.nd rfl (Or.inl rfl)) (pss_cons (ps_set (i := 2) sc_law.nd rfl (Or.inl rfl) (pe_c c_purse hr (by decide) (by rfl) (pa_cons (pv 0) (pa_cons (pv 1) pa_nil))))
      (pss_one (ps_for PassesOwn.never rfl (pi_range1 (by rfl) T.range (pa_cons pe_int pa_nil)) (pg_name (i := 3) sc_law.nd rfl (Or.inl rfl)) (pss_one (ps_if (pt_not (pt_val (pe_c c_right hr (by decide) (by rfl) (pa_cons (pv 2) pa_nil)))) (pss_one (ps_ret pe_bl)) pss_nil))))))
      (pss_cons (ps_set (i := 4) sc_law.nd rfl (Or.inl rfl) (pe_mkK0 c_kp2K hr (by decide) (by rfl) (pk_cons (pe_mk c_way2 hr (by decide) (by rfl) (pa_cons pe_int (pa_cons (pe_mk c_modinit hr (by decide) (by rfl) (pa_cons (pe_lst (pa_cons (pe_tup (pa_cons pe_int (pa_cons pe_int pa_nil))) pa_nil)) pa_nil)) pa_nil))) (pk_cons pe_str pk_nil))))
      (pss_cons (ps_if (PW.pt (pw_or (pt_cmpR op_notN1 (pe_mtK0 c_kpchangeK hr (by decide) (pv 4) (pk_cons (pe_lst (pa_cons pe_int pa_nil)) (pk_cons pe_int (pk_cons pe_int pk_nil)))) pe_non (nomark _)) (pw_or (pt_cmpR (op_neD hr.units) (pe_propO p_text pass00 hr (by decide) (pv 4) rfl) (pe_tup (pa_cons pe_int (pa_cons pe_int (pa_cons pe_int pa_nil)))) (nomark _)) (pw_or1 (pt_cmpR op_ne (pe_mt0 c_kpmark0 hr (by decide) (pv 4)) pe_int (nomark _)))))) (pss_one (ps_ret pe_bl)) pss_nil)
      (pss_cons (ps_for PassesOwn.never rfl (pi_range1 (by rfl) T.range (pa_cons pe_int pa_nil)) (pg_name (i := 5) sc_law.nd rfl (Or.inl rfl)) (pss_one (ps_asg (pv 5) (pg_sub (pv 4) (pe_op op_mod (pv 5) pe_int) (set_own o_kp_set nq_kp ex00 hr (by decide))))))
      (pss_cons (ps_for PassesOwn.never rfl (pi_range1 (by rfl) T.range (pa_cons pe_int pa_nil)) (pg_name (i := 5) sc_law.nd rfl (Or.inl rfl)) (pss_one (ps_expr (pe_mt0 c_kpundo hr (by decide) (pv 4)))))
      (pss_cons (ps_if (pt_cmpR (op_neD hr.units) (pe_propO p_text pass00 hr (by decide) (pv 4) rfl) (pe_tup (pa_cons pe_int (pa_cons pe_int (pa_cons pe_int pa_nil)))) (nomark _)) (pss_one (ps_ret pe_bl)) pss_nil)
      (pss_cons (ps_aug (i := 4) sc_law.nd rfl (Or.inl rfl) pe_str (ip_own rfl o_kp_iadd sf_kp ex00 hr (by decide)))
      (pss_cons (ps_if (PW.pt (pw_or (pt_cmpR op_notN1 (pe_mt0 c_kpundo hr (by decide) (pv 4)) pe_non (nomark _)) (pw_or1 (pt_cmpR (op_neD hr.units) (pe_propO p_text pass00 hr (by decide) (pv 4) rfl) (pe_tup (pa_cons pe_int (pa_cons pe_int (pa_cons pe_int pa_nil)))) (nomark _))))) (pss_one (ps_ret pe_bl)) pss_nil)
      (pss_cons (ps_expr (pe_mt0 c_kpundo hr (by decide) (pv 4)))
      (pss_one (ps_ret (pe_and (pe_cmpR (op_eqD hr.units) (pe_propO p_text pass00 hr (by decide) (pv 4) rfl) (pe_tup (pa_cons pe_int (pa_cons pe_int (pa_cons pe_int pa_nil)))) (nomark _)) (pe_and (pe_cmpR (op_eqI id_kp hr.units) (pv 4) (pv 4) (nomark _)) (pe_one (pe_cmpR (op_neI id_kp hr.units) (pv 4) (pe_mk c_kp2 hr (by decide) (by rfl) (pa_cons pe_str (pa_cons (pe_fld (pv 4) rfl) pa_nil))) (nomark _)))))))))))))))), ?_⟩
    walk_at "go"
    refine for_range (lo := 0) (fun i σ H' => ∃ (u1 u2 u3 : Option V), σ = [some (.ref a), u1, u2, u3, none, none] ∧ Same H H') ⟨none, none, none, rfl, Same.refl _⟩ ?_ ?_
    · rintro i σ H1 hi ⟨u1, u2, u3, rfl, s1⟩
      have hi8 : i ≤ 9 := by split at hi <;> omega
      walk_at "go"
      refine ⟨a, ns, _, rfl, s1.seq hS, by omega, by omega, fun p H2 np s2 pu => ?_⟩
      walk_at "go"
      refine for_range (lo := 0) (n := 2) (fun j σ H' => ∃ (u3 : Option V), σ = [some (.ref a), some (.int (0 + (i : Int))), some (.ref p), u3, none, none] ∧ Same H1 H' ∧ Purse H' p (1000 * (0 + (i : Int)) + 2000000000 * j)) ⟨_, rfl, s2, pu.le (by omega)⟩ ?_ ?_
      · rintro j σ H3 hj ⟨u3, rfl, s3, p3⟩
        walk_at "go"
        refine ⟨p, _, rfl, by omega, p3, fun H4 k4 p4 => ?_⟩
        walk_at "go"
        refine iteF ?_
        walk_at "go"
        refine ⟨_, rfl, rm_new np (Same.trans s3.rm (k4.trans rm_le)), p4.le (by omega)⟩
      · rintro σ H3 ⟨u3, rfl, s3, p3⟩
        walk_at "go"
        exact ⟨_, _, _, rfl, s1.trans s3⟩
    · rintro σ H1 ⟨u1, u2, u3, rfl, s1⟩
      walk_at "go"
      refine al fun t1 H2 n2 s2 h2 => ?_
      walk_at "go"
      refine al fun l1 H3 n3 s3 h3 => ?_
      walk_at "go"
      refine use_modS (ps := [(2, 3)]) ⟨[t1], h3, .cons (s3 _ _ h2) .nil⟩ ⟨by decide, by decide, by decide, trivial⟩ (small1 (by decide)) fun m1 H4 s4 hm1 => ?_
      walk_at "go"
      refine use_wayN (bb := 3) hm1 fun w1 H5 s5 hw1 => ?_
      walk_at "go"
      refine ⟨rfl, rfl, use_kn (v := .str "abc") (ls := [97, 98, 99]) (.str "abc" (by decide +kernel) (by decide +kernel)) (by decide) hw1 fun A H6 _ _ _ _ s6 hk => ?_⟩
      have yz : (3 : Int) % num [(2, 3)] = 3 := by decide
      have nz : num [(2, 3)] = 8 := by decide
      rw [yz] at hk
      have kp0 : ∀ (ls : List Int) (past : List Pst) (H : Hp), KpAt c Ck H A 3 [(2, 3)] ⟨false, 0, false⟩ ls past → ∃ fs, H A.k = some (.ins Ck A.dx fs) := fun ls past H h => by
        obtain ⟨r, hi, _⟩ := h.ins
        exact ⟨_, hi⟩
      walk_at "go"
      refine w_insP hk ?_
      walk_at "go"
      refine al fun l7 H7 n7 s7 h7 => ?_
      have hk7 := hk.same s7
      walk_at "go"
      refine ⟨rfl, rfl, A, 3, [(2, 3)], _, [97, 98, 99], [], 1, 2, .ref l7, [0], rfl, hk7, by decide, by decide, by decide, .lst l7 [0] h7 (by decide), by decide, fun H8 o8 hk8 => ?_⟩
      walk_at "go"
      rw [decide_eq_true rfl]
      refine iteF ?_
      have hk8 : KpAt c Ck H8 A 3 [(2, 3)] ⟨false, 0, false⟩ [97, 0, 99] [⟨1, 1 + [0].length, [98]⟩] := hk8
      have hi8 : HistL [[97, 98, 99], [97, 0, 99]] [⟨1, 1 + [(0 : Int)].length, [98]⟩] := (HistL.one [97, 98, 99]).put (pre := []) (i := 1) (j := 2) (ms := [0]) (by decide) (by decide)
      have fN : FitN (num [(2, 3)]) ⟨false, 0, false⟩ := ⟨by decide, by decide⟩
      have sm1 : SmL [97, 0, 99] := by unfold SmL; decide
      clear hk hk7 h7
      walk_at "go"
      refine w_insQ hk8 ?_
      refine ⟨A, 3, [(2, 3)], _, _, _, rfl, hk8, fun t3 H9 _ s9 h9 => ?_⟩
      have hk9 := hk8.same s9
      walk_at "go"
      refine al fun t4 H10 n10 s10 h10 => ?_
      have hk10 := hk9.same s10
      walk_at "go"
      refine w_neTT (ls := [97, 0, 99]) (ms := [97, 0, 99]) (sqt (s10 _ _ h9)) (sqt h10) ?_
      rw [decide_eq_true rfl]
      walk_at "go"
      refine iteF ?_
      walk_at "go"
      refine w_insP hk10 ?_
      walk_at "go"
      refine ⟨A, 3, [(2, 3)], _, [97, 0, 99], _, 0, 3, .non, rfl, rfl, hk10, by decide, by decide, fN.fit sm1, fun H11 o11 hk11 => ?_⟩
      walk_at "go"
      rw [show mark ⟨false, 0, false⟩ 3 (num [(2, 3)]) (([97, 0, 99] : List Int).take 3 |>.drop 0) = 4 by decide]
      rw [decide_eq_true rfl]
      refine iteF ?_
      have p11 : P190 c Ck A 3 [(2, 3)] ⟨false, 0, false⟩ [97, 98, 99] [97, 0, 99] 0 H11 := ⟨[[97, 98, 99]], [97, 0, 99], _, rfl, rfl, rfl, hi8, hk11, by decide⟩
      clear hk8 hk9 hk10 h9 h10 hi8 hk11
      walk_at "go"
      refine for_range (lo := 0) (n := 190) (fun i σ H' => ∃ (v5 : Option V), σ = [some (.ref a), u1, u2, u3, some (.ref A.k), v5] ∧ P190 c Ck A 3 [(2, 3)] ⟨false, 0, false⟩ [97, 98, 99] [97, 0, 99] i H') ⟨_, rfl, p11⟩ ?_ ?_
      · rintro i σ H12 hi ⟨v5, rfl, p12⟩
        obtain ⟨fs, hins⟩ := p12.ins
        walk_at "go"
        rw [show (0 + (i : Int)) % 3 = ((i % 3 : Nat) : Int) by omega]
        refine ⟨A.k, A.dx, _, rfl, hins, p12.set (by omega) (by omega) fun H13 o13 p13 => ?_⟩
        walk_at "go"
        exact ⟨_, rfl, p13⟩
      rintro σ H12 ⟨v5, rfl, p12⟩
      clear p11
      walk_at "go"
      refine for_range (lo := 0) (n := 190) (fun i σ H' => ∃ (v5 : Option V), σ = [some (.ref a), u1, u2, u3, some (.ref A.k), v5] ∧ P190 c Ck A 3 [(2, 3)] ⟨false, 0, false⟩ [97, 98, 99] [97, 0, 99] (190 - i) H') ⟨_, rfl, p12⟩ ?_ ?_
      · rintro i σ H13 hi ⟨v6, rfl, p13⟩
        obtain ⟨_, _, _, _, _, _, _, hk13, _⟩ := id p13
        walk_at "go"
        refine w_insP hk13 ?_
        walk_at "go"
        rw [show 190 - i = (190 - (i + 1)) + 1 by omega] at p13
        refine p13.undo fun H14 o14 p14 => ?_
        walk_at "go"
        exact ⟨_, rfl, p14⟩
      rintro σ H13 ⟨v6, rfl, p13⟩
      obtain ⟨past, hh, hk13⟩ := P190.fin p13
      have e1 := hh.len
      have e2 : past.length = 1 := by simp at e1; omega
      clear p12 p13
      walk_at "go"
      refine w_insQ hk13 ?_
      refine ⟨A, 3, [(2, 3)], _, _, _, rfl, hk13, fun t5 H14 _ s14 h14 => ?_⟩
      have hk14 := hk13.same s14
      walk_at "go"
      refine al fun t6 H15 n15 s15 h15 => ?_
      have hk15 := hk14.same s15
      walk_at "go"
      refine w_neTT (ls := [97, 0, 99]) (ms := [97, 0, 99]) (sqt (s15 _ _ h14)) (sqt h15) ?_
      rw [decide_eq_true rfl]
      walk_at "go"
      refine iteF ?_
      clear hk14 hk13 h14 h15
      walk_at "go"
      obtain ⟨fs15, hi15⟩ := kp0 _ _ _ hk15
      refine ⟨A.k, A.dx, _, rfl, hi15, A, 3, [(2, 3)], _, [97, 0, 99], past, .str "", [], rfl, hk15, by omega, .str "" (by decide +kernel) (by decide +kernel), by decide, fun H16 o16 hk16 => ⟨⟨_, rfl⟩, ?_⟩⟩
      have p16 : P190 c Ck A 3 [(2, 3)] ⟨false, 0, false⟩ [97, 98, 99] [97, 0, 99] 1 H16 := ⟨[[97, 98, 99], [97, 0, 99]], [97, 0, 99], _, rfl, rfl, rfl, hh.put (pre := [[97, 98, 99]]) (i := 3) (j := 3) (ms := []) (by decide) (by decide), hk16, by decide⟩
      clear hh hk15 hi15
      walk_at "go"
      refine w_insP hk16 ?_
      walk_at "go"
      refine p16.undo fun H17 o17 p17 => ?_
      walk_at "go"
      rw [decide_eq_true rfl]
      refine iteF ?_
      obtain ⟨past2, hh2, hk17⟩ := P190.fin p17
      clear p16 hk16
      walk_at "go"
      refine w_insQ hk17 ?_
      refine ⟨A, 3, [(2, 3)], _, _, _, rfl, hk17, fun t7 H18 _ s18 h18 => ?_⟩
      have p18 := p17.at s18
      walk_at "go"
      refine al fun t8 H19 n19 s19 h19 => ?_
      have p19 := p18.at s19
      walk_at "go"
      refine w_neTT (ls := [97, 0, 99]) (ms := [97, 0, 99]) (sqt (s19 _ _ h18)) (sqt h19) ?_
      rw [decide_eq_true rfl]
      walk_at "go"
      refine iteF ?_
      obtain ⟨past3, hh3, hk19⟩ := P190.fin p19
      clear p17 p18 h18 h19 hh2 hk17 hh3
      walk_at "go"
      refine w_insP hk19 ?_
      walk_at "go"
      refine p19.undo0 rfl rfl fun H20 o20 hk20 => ?_
      clear hk19 p19
      walk_at "go"
      refine w_insQ hk20 ?_
      refine ⟨A, 3, [(2, 3)], _, _, _, rfl, hk20, fun t9 H21 _ s21 h21 => ?_⟩
      have hk21 := hk20.same s21
      walk_at "go"
      refine al fun t10 H22 n22 s22 h22 => ?_
      have hk22 := hk21.same s22
      walk_at "go"
      refine w_eqTT (ls := [97, 98, 99]) (ms := [97, 98, 99]) (sqt (s22 _ _ h21)) (sqt h22) ?_
      rw [decide_eq_true rfl]
      walk_at "go"
      refine iteT ?_
      obtain ⟨fs22, hi22⟩ := kp0 _ _ _ hk22
      clear hk20 hk21 h21 h22
      walk_at "go"
      refine ⟨A.k, _, _, rfl, hi22, .inr ⟨rfl, ?_⟩⟩
      walk_at "go"
      refine iteT ?_
      walk_at "go"
      refine use_kn (v := .str "abc") (ls := [97, 98, 99]) (.str "abc" (by decide +kernel) (by decide +kernel)) (by decide) hk22.way fun A2 H23 nk23 _ _ _ s23 hk23 => ?_
      obtain ⟨r23, hi23, _⟩ := hk23.ins
      walk_at "go"
      refine ⟨A.k, _, _, A2.k, _, _, rfl, s23 _ _ hi22, rfl, hi23, ne_of_none hi22 nk23, ?_⟩
      walk_at "go"
      exact k _

end
end Lw
namespace Lw
open PySem PySem.Spec PyProof.Rows L2 Bc
theorem all_mk {l : PySem.W.OpenLaw} {w : World} {K : PySem.W.Frag} {h : Heap} {mg : Str → Option Value} {fa Cm Ck Cw f1 f2 f3 f4 f5 f6 f7 f8 f9 f10 f11 f12 f13 f14 f15 f16 f17 f18 f19 f20 f21 f22 f23 f24 f25 f26 f27 f28 f29 f30 f31 f32 D32 f33 f34 T34 f35 f36 Cp f37 f38 f39 f40 f41 f42 f43 f44 f45 f46 f47 f48 f49 Pt f50 T50 f51 f52 f53 f54 : Addr} (X : K.In h) (G : h.Ns mainGlobals mg) (hfa : mg "law" = some (.ref fa))
    {od1 an1 : Option Addr} {sl1 : Array (Option Value)} {oc1 dc1 pm1 cd1 ct1 : Value}
    {kV1 : Value}
    {od2 an2 : Option Addr} {sl2 : Array (Option Value)} {oc2 dc2 pm2 cd2 ct2 : Value}
    {kV2 : Value}
    {od3 an3 : Option Addr} {sl3 : Array (Option Value)} {oc3 dc3 pm3 cd3 ct3 : Value}
    {kV3 : Value}
    {od4 an4 : Option Addr} {sl4 : Array (Option Value)} {oc4 dc4 pm4 cd4 ct4 : Value}
    {kV4 : Value}
    {od5 an5 : Option Addr} {sl5 : Array (Option Value)} {oc5 dc5 pm5 cd5 ct5 : Value}
    {kV5 : Value}
    {od6 an6 : Option Addr} {sl6 : Array (Option Value)} {oc6 dc6 pm6 cd6 ct6 : Value}
    {kV6 : Value}
    {od7 an7 : Option Addr} {sl7 : Array (Option Value)} {oc7 dc7 pm7 cd7 ct7 : Value}
    {kV7 : Value}
    {od8 an8 : Option Addr} {sl8 : Array (Option Value)} {oc8 dc8 pm8 cd8 ct8 : Value}
    {kV8 : Value}
    {od9 an9 : Option Addr} {sl9 : Array (Option Value)} {oc9 dc9 pm9 cd9 ct9 : Value}
    {kV9 : Value}
    {od10 an10 : Option Addr} {sl10 : Array (Option Value)} {oc10 dc10 pm10 cd10 ct10 : Value}
    {kV10 : Value}
    {od11 an11 : Option Addr} {sl11 : Array (Option Value)} {oc11 dc11 pm11 cd11 ct11 : Value}
    {kV11 : Value}
    {od12 an12 : Option Addr} {sl12 : Array (Option Value)} {oc12 dc12 pm12 cd12 ct12 : Value}
    {kV12 : Value}
    {od13 an13 : Option Addr} {sl13 : Array (Option Value)} {oc13 dc13 pm13 cd13 ct13 : Value}
    {kV13 : Value}
    {od14 an14 : Option Addr} {sl14 : Array (Option Value)} {oc14 dc14 pm14 cd14 ct14 : Value}
    {kV14 : Value}
    {od15 an15 : Option Addr} {sl15 : Array (Option Value)} {oc15 dc15 pm15 cd15 ct15 : Value}
    {kV15 : Value}
    {od16 an16 : Option Addr} {sl16 : Array (Option Value)} {oc16 dc16 pm16 cd16 ct16 : Value}
    {kV16 : Value}
    {od17 an17 : Option Addr} {sl17 : Array (Option Value)} {oc17 dc17 pm17 cd17 ct17 : Value}
    {kV17 : Value}
    {od18 an18 : Option Addr} {sl18 : Array (Option Value)} {oc18 dc18 pm18 cd18 ct18 : Value}
    {kV18 : Value}
    {od19 an19 : Option Addr} {sl19 : Array (Option Value)} {oc19 dc19 pm19 cd19 ct19 : Value}
    {kV19 : Value}
    {od20 an20 : Option Addr} {sl20 : Array (Option Value)} {oc20 dc20 pm20 cd20 ct20 : Value}
    {kV20 : Value}
    {od21 an21 : Option Addr} {sl21 : Array (Option Value)} {oc21 dc21 pm21 cd21 ct21 : Value}
    {kV21 : Value}
    {od22 an22 : Option Addr} {sl22 : Array (Option Value)} {oc22 dc22 pm22 cd22 ct22 : Value}
    {kV22 : Value}
    {od23 an23 : Option Addr} {sl23 : Array (Option Value)} {oc23 dc23 pm23 cd23 ct23 : Value}
    {kV23 : Value}
    {od24 an24 : Option Addr} {sl24 : Array (Option Value)} {oc24 dc24 pm24 cd24 ct24 : Value}
    {kV24 : Value}
    {od25 an25 : Option Addr} {sl25 : Array (Option Value)} {oc25 dc25 pm25 cd25 ct25 : Value}
    {kV25 : Value}
    {od26 an26 : Option Addr} {sl26 : Array (Option Value)} {oc26 dc26 pm26 cd26 ct26 : Value}
    {kV26 : Value}
    {od27 an27 : Option Addr} {sl27 : Array (Option Value)} {oc27 dc27 pm27 cd27 ct27 : Value}
    {kV27 : Value}
    {od28 an28 : Option Addr} {sl28 : Array (Option Value)} {oc28 dc28 pm28 cd28 ct28 : Value}
    {kV28 : Value}
    {od29 an29 : Option Addr} {sl29 : Array (Option Value)} {oc29 dc29 pm29 cd29 ct29 : Value}
    {kV29 : Value}
    {od30 an30 : Option Addr} {sl30 : Array (Option Value)} {oc30 dc30 pm30 cd30 ct30 : Value}
    {kV30 : Value}
    {od31 an31 : Option Addr} {sl31 : Array (Option Value)} {oc31 dc31 pm31 cd31 ct31 : Value}
    {kV31 : Value}
    {od32 an32 : Option Addr} {sl32 : Array (Option Value)} {oc32 dc32 pm32 cd32 ct32 : Value}
    {tk32_1 : Tok}
    {od33 an33 : Option Addr} {sl33 : Array (Option Value)} {oc33 dc33 pm33 cd33 ct33 : Value}
    {kV33 : Value}
    {od34 an34 : Option Addr} {sl34 : Array (Option Value)} {oc34 dc34 pm34 cd34 ct34 : Value}
    {kV34 : Value}
    {To34 : Value} {Td34 : Option Addr} {Tn34 : Nat} {Ts34 : Array (Option Value)}
    {od35 an35 : Option Addr} {sl35 : Array (Option Value)} {oc35 dc35 pm35 cd35 ct35 : Value}
    {kV35 : Value}
    {od36 an36 : Option Addr} {sl36 : Array (Option Value)} {oc36 dc36 pm36 cd36 ct36 : Value}
    {kV36 : Value}
    {od37 an37 : Option Addr} {sl37 : Array (Option Value)} {oc37 dc37 pm37 cd37 ct37 : Value}
    {kV37 : Value}
    {od38 an38 : Option Addr} {sl38 : Array (Option Value)} {oc38 dc38 pm38 cd38 ct38 : Value}
    {kV38 : Value}
    {od39 an39 : Option Addr} {sl39 : Array (Option Value)} {oc39 dc39 pm39 cd39 ct39 : Value}
    {kV39 : Value}
    {od40 an40 : Option Addr} {sl40 : Array (Option Value)} {oc40 dc40 pm40 cd40 ct40 : Value}
    {kV40 : Value}
    {od41 an41 : Option Addr} {sl41 : Array (Option Value)} {oc41 dc41 pm41 cd41 ct41 : Value}
    {kV41 : Value}
    {od42 an42 : Option Addr} {sl42 : Array (Option Value)} {oc42 dc42 pm42 cd42 ct42 : Value}
    {kV42 : Value}
    {od43 an43 : Option Addr} {sl43 : Array (Option Value)} {oc43 dc43 pm43 cd43 ct43 : Value}
    {kV43 : Value}
    {od44 an44 : Option Addr} {sl44 : Array (Option Value)} {oc44 dc44 pm44 cd44 ct44 : Value}
    {kV44 : Value}
    {od45 an45 : Option Addr} {sl45 : Array (Option Value)} {oc45 dc45 pm45 cd45 ct45 : Value}
    {kV45 : Value}
    {od46 an46 : Option Addr} {sl46 : Array (Option Value)} {oc46 dc46 pm46 cd46 ct46 : Value}
    {kV46 : Value}
    {od47 an47 : Option Addr} {sl47 : Array (Option Value)} {oc47 dc47 pm47 cd47 ct47 : Value}
    {kV47 : Value}
    {od48 an48 : Option Addr} {sl48 : Array (Option Value)} {oc48 dc48 pm48 cd48 ct48 : Value}
    {kV48 : Value}
    {rtP : List Value}
    {od49 an49 : Option Addr} {sl49 : Array (Option Value)} {oc49 dc49 pm49 cd49 ct49 : Value}
    {kV49 : Value}
    {tkM : Tok}
    {od50 an50 : Option Addr} {sl50 : Array (Option Value)} {oc50 dc50 pm50 cd50 ct50 : Value}
    {kV50 : Value}
    {To50 : Value} {Td50 : Option Addr} {Tn50 : Nat} {Ts50 : Array (Option Value)}
    {od51 an51 : Option Addr} {sl51 : Array (Option Value)} {oc51 dc51 pm51 cd51 ct51 : Value}
    {kV51 : Value}
    {od52 an52 : Option Addr} {sl52 : Array (Option Value)} {oc52 dc52 pm52 cd52 ct52 : Value}
    {kV52 : Value}
    {od53 an53 : Option Addr} {sl53 : Array (Option Value)} {oc53 dc53 pm53 cd53 ct53 : Value}
    {kV53 : Value}
    {od54 an54 : Option Addr} {sl54 : Array (Option Value)} {oc54 dc54 pm54 cd54 ct54 : Value}
    {kV54 : Value}
    (z_len : PySem.W.nsIn K mainGlobals "len" = some none)
    (z_int : PySem.W.nsIn K mainGlobals "int" = some none)
    (z_abs : PySem.W.nsIn K mainGlobals "abs" = some none)
    (z_max : PySem.W.nsIn K mainGlobals "max" = some none)
    (z_min : PySem.W.nsIn K mainGlobals "min" = some none)
    (z_range : PySem.W.nsIn K mainGlobals "range" = some none)
    (z_isinstance : PySem.W.nsIn K mainGlobals "isinstance" = some none)
    (z_list : PySem.W.nsIn K mainGlobals "list" = some none)
    (z_tuple : PySem.W.nsIn K mainGlobals "tuple" = some none)
    (z_str : PySem.W.nsIn K mainGlobals "str" = some none)
    (z_bool : PySem.W.nsIn K mainGlobals "bool" = some none)
    (z_ord : PySem.W.nsIn K mainGlobals "ord" = some none)
    (z_all : PySem.W.nsIn K mainGlobals "all" = some none)
    (z_enumerate : PySem.W.nsIn K mainGlobals "enumerate" = some none)
    (z_zip : PySem.W.nsIn K mainGlobals "zip" = some none)
    (mCm : PySem.W.nsIn K mainGlobals "Modulus" = some (some (.ref Cm)))
    (pgCm : PySem.W.plainGet K Cm Str.empty = true)
    (hdCm : PySem.W.hasDictIn K Cm = true)
    (poCm : PySem.W.plainOver K Cm = true)
    (saCm : PySem.W.findIn K (.ref Cm) "__setattr__" = some (some (.builtin "object.__setattr__")))
    (haCm : PySem.W.findIn K (.ref Cm) "__class__" = some (some (.builtin "object.__class__")))
    (hmCm : PySem.W.mroIn K Cm (.type "object") = some true)
    (mkCm : PySem.W.makesIn K Cm = true)
    (kcCm : PySem.W.keepIn K (.ref Cm) = true)
    (objhn : PySem.W.specialIn K (.builtin "object.__class__") "__get__" = some (some (.builtin "getset_descriptor.__get__")))
    (objht : PySem.W.takesIn K (.builtin "object.__class__") = some true)
    (mCk : PySem.W.nsIn K mainGlobals "Marking" = some (some (.ref Ck)))
    (pgCk : PySem.W.plainGet K Ck Str.empty = true)
    (hdCk : PySem.W.hasDictIn K Ck = true)
    (poCk : PySem.W.plainOver K Ck = true)
    (saCk : PySem.W.findIn K (.ref Ck) "__setattr__" = some (some (.builtin "object.__setattr__")))
    (haCk : PySem.W.findIn K (.ref Ck) "__class__" = some (some (.builtin "object.__class__")))
    (hmCk : PySem.W.mroIn K Ck (.type "object") = some true)
    (mkCk : PySem.W.makesIn K Ck = true)
    (kcCk : PySem.W.keepIn K (.ref Ck) = true)
    (mCw : PySem.W.nsIn K mainGlobals "Way" = some (some (.ref Cw)))
    (pgCw : PySem.W.plainGet K Cw Str.empty = true)
    (hdCw : PySem.W.hasDictIn K Cw = true)
    (poCw : PySem.W.plainOver K Cw = true)
    (saCw : PySem.W.findIn K (.ref Cw) "__setattr__" = some (some (.builtin "object.__setattr__")))
    (haCw : PySem.W.findIn K (.ref Cw) "__class__" = some (some (.builtin "object.__class__")))
    (hmCw : PySem.W.mroIn K Cw (.type "object") = some true)
    (mkCw : PySem.W.makesIn K Cw = true)
    (kcCw : PySem.W.keepIn K (.ref Cw) = true)
    (nCm_number : PySem.W.findIn K (.ref Cm) "number" = some none)
    (nCm_factors : PySem.W.findIn K (.ref Cm) "factors" = some none)
    (nCk_low : PySem.W.findIn K (.ref Ck) "low" = some none)
    (nCk_shift : PySem.W.findIn K (.ref Ck) "shift" = some none)
    (nCk_lead : PySem.W.findIn K (.ref Ck) "lead" = some none)
    (nCw_marking : PySem.W.findIn K (.ref Cw) "marking" = some none)
    (nCw_modulus : PySem.W.findIn K (.ref Cw) "modulus" = some none)
    (nCw_number : PySem.W.findIn K (.ref Cw) "number" = some none)
    (nCw_base : PySem.W.findIn K (.ref Cw) "base" = some none)
    (a1 : PySem.W.nsIn K mainGlobals "is_integer" = some (some (.ref f1)))
    (l1 : K.lookup f1 = some ⟨oc1, od1, .func (PySem.W.fnOf "is_integer" "is_integer" (defArgs s_isint) (defBody s_isint) (defScope s_isint) .none kV1 dc1 pm1 an1 cd1 ct1), sl1⟩)
    (c1 : PySem.W.codeIn K cd1 "is_integer" = true)
    (k1 : PySem.W.keepIn K (.ref f1) = true)
    (a2 : PySem.W.nsIn K mainGlobals "raised" = some (some (.ref f2)))
    (l2 : K.lookup f2 = some ⟨oc2, od2, .func (PySem.W.fnOf "raised" "raised" (defArgs s_raised) (defBody s_raised) (defScope s_raised) .none kV2 dc2 pm2 an2 cd2 ct2), sl2⟩)
    (c2 : PySem.W.codeIn K cd2 "raised" = true)
    (k2 : PySem.W.keepIn K (.ref f2) = true)
    (a3 : PySem.W.nsIn K mainGlobals "is_prime_number" = some (some (.ref f3)))
    (l3 : K.lookup f3 = some ⟨oc3, od3, .func (PySem.W.fnOf "is_prime_number" "is_prime_number" (defArgs s_prime) (defBody s_prime) (defScope s_prime) .none kV3 dc3 pm3 an3 cd3 ct3), sl3⟩)
    (c3 : PySem.W.codeIn K cd3 "is_prime_number" = true)
    (k3 : PySem.W.keepIn K (.ref f3) = true)
    (a4 : PySem.W.nsIn K mainGlobals "is_factor" = some (some (.ref f4)))
    (l4 : K.lookup f4 = some ⟨oc4, od4, .func (PySem.W.fnOf "is_factor" "is_factor" (defArgs s_isfac) (defBody s_isfac) (defScope s_isfac) .none kV4 dc4 pm4 an4 cd4 ct4), sl4⟩)
    (c4 : PySem.W.codeIn K cd4 "is_factor" = true)
    (k4 : PySem.W.keepIn K (.ref f4) = true)
    (a5 : PySem.W.nsIn K mainGlobals "require_modulus" = some (some (.ref f5)))
    (l5 : K.lookup f5 = some ⟨oc5, od5, .func (PySem.W.fnOf "require_modulus" "require_modulus" (defArgs s_reqmod) (defBody s_reqmod) (defScope s_reqmod) .none kV5 dc5 pm5 an5 cd5 ct5), sl5⟩)
    (c5 : PySem.W.codeIn K cd5 "require_modulus" = true)
    (k5 : PySem.W.keepIn K (.ref f5) = true)
    (a6 : PySem.W.nsIn K mainGlobals "is_text" = some (some (.ref f6)))
    (l6 : K.lookup f6 = some ⟨oc6, od6, .func (PySem.W.fnOf "is_text" "is_text" (defArgs s_istext) (defBody s_istext) (defScope s_istext) .none kV6 dc6 pm6 an6 cd6 ct6), sl6⟩)
    (c6 : PySem.W.codeIn K cd6 "is_text" = true)
    (k6 : PySem.W.keepIn K (.ref f6) = true)
    (a7 : PySem.W.nsIn K mainGlobals "read" = some (some (.ref f7)))
    (l7 : K.lookup f7 = some ⟨oc7, od7, .func (PySem.W.fnOf "read" "read" (defArgs s_read) (defBody s_read) (defScope s_read) .none kV7 dc7 pm7 an7 cd7 ct7), sl7⟩)
    (c7 : PySem.W.codeIn K cd7 "read" = true)
    (k7 : PySem.W.keepIn K (.ref f7) = true)
    (a8 : PySem.W.nsIn K mainGlobals "require_text" = some (some (.ref f8)))
    (l8 : K.lookup f8 = some ⟨oc8, od8, .func (PySem.W.fnOf "require_text" "require_text" (defArgs s_reqtext) (defBody s_reqtext) (defScope s_reqtext) .none kV8 dc8 pm8 an8 cd8 ct8), sl8⟩)
    (c8 : PySem.W.codeIn K cd8 "require_text" = true)
    (k8 : PySem.W.keepIn K (.ref f8) = true)
    (a9 : PySem.W.nsIn K mainGlobals "marking_of" = some (some (.ref f9)))
    (l9 : K.lookup f9 = some ⟨oc9, od9, .func (PySem.W.fnOf "marking_of" "marking_of" (defArgs s_mkof) (defBody s_mkof) (defScope s_mkof) .none kV9 dc9 pm9 an9 cd9 ct9), sl9⟩)
    (c9 : PySem.W.codeIn K cd9 "marking_of" = true)
    (k9 : PySem.W.keepIn K (.ref f9) = true)
    (a10 : PySem.W.nsIn K mainGlobals "rest_at" = some (some (.ref f10)))
    (l10 : K.lookup f10 = some ⟨oc10, od10, .func (PySem.W.fnOf "rest_at" "rest_at" (defArgs s_restat) (defBody s_restat) (defScope s_restat) .none kV10 dc10 pm10 an10 cd10 ct10), sl10⟩)
    (c10 : PySem.W.codeIn K cd10 "rest_at" = true)
    (k10 : PySem.W.keepIn K (.ref f10) = true)
    (a11 : PySem.W.nsIn K mainGlobals "_law_mixed" = some (some (.ref f11)))
    (l11 : K.lookup f11 = some ⟨oc11, od11, .func (PySem.W.fnOf "_law_mixed" "_law_mixed" (defArgs s_mixed) (defBody s_mixed) (defScope s_mixed) .none kV11 dc11 pm11 an11 cd11 ct11), sl11⟩)
    (c11 : PySem.W.codeIn K cd11 "_law_mixed" = true)
    (k11 : PySem.W.keepIn K (.ref f11) = true)
    (a12 : PySem.W.nsIn K mainGlobals "_law_purse" = some (some (.ref f12)))
    (l12 : K.lookup f12 = some ⟨oc12, od12, .func (PySem.W.fnOf "_law_purse" "_law_purse" (defArgs s_purse) (defBody s_purse) (defScope s_purse) .none kV12 dc12 pm12 an12 cd12 ct12), sl12⟩)
    (c12 : PySem.W.codeIn K cd12 "_law_purse" = true)
    (k12 : PySem.W.keepIn K (.ref f12) = true)
    (a13 : PySem.W.nsIn K mainGlobals "_law_draw" = some (some (.ref f13)))
    (l13 : K.lookup f13 = some ⟨oc13, od13, .func (PySem.W.fnOf "_law_draw" "_law_draw" (defArgs s_draw) (defBody s_draw) (defScope s_draw) .none kV13 dc13 pm13 an13 cd13 ct13), sl13⟩)
    (c13 : PySem.W.codeIn K cd13 "_law_draw" = true)
    (k13 : PySem.W.keepIn K (.ref f13) = true)
    (a14 : PySem.W.nsIn K mainGlobals "_law_great" = some (some (.ref f14)))
    (l14 : K.lookup f14 = some ⟨oc14, od14, .func (PySem.W.fnOf "_law_great" "_law_great" (defArgs s_great) (defBody s_great) (defScope s_great) .none kV14 dc14 pm14 an14 cd14 ct14), sl14⟩)
    (c14 : PySem.W.codeIn K cd14 "_law_great" = true)
    (k14 : PySem.W.keepIn K (.ref f14) = true)
    (a15 : PySem.W.nsIn K mainGlobals "_law_style" = some (some (.ref f15)))
    (l15 : K.lookup f15 = some ⟨oc15, od15, .func (PySem.W.fnOf "_law_style" "_law_style" (defArgs s_style) (defBody s_style) (defScope s_style) .none kV15 dc15 pm15 an15 cd15 ct15), sl15⟩)
    (c15 : PySem.W.codeIn K cd15 "_law_style" = true)
    (k15 : PySem.W.keepIn K (.ref f15) = true)
    (a16 : PySem.W.nsIn K mainGlobals "_law_marking" = some (some (.ref f16)))
    (l16 : K.lookup f16 = some ⟨oc16, od16, .func (PySem.W.fnOf "_law_marking" "_law_marking" (defArgs s_marking) (defBody s_marking) (defScope s_marking) .none kV16 dc16 pm16 an16 cd16 ct16), sl16⟩)
    (c16 : PySem.W.codeIn K cd16 "_law_marking" = true)
    (k16 : PySem.W.keepIn K (.ref f16) = true)
    (a17 : PySem.W.nsIn K mainGlobals "_law_root" = some (some (.ref f17)))
    (l17 : K.lookup f17 = some ⟨oc17, od17, .func (PySem.W.fnOf "_law_root" "_law_root" (defArgs s_root) (defBody s_root) (defScope s_root) .none kV17 dc17 pm17 an17 cd17 ct17), sl17⟩)
    (c17 : PySem.W.codeIn K cd17 "_law_root" = true)
    (k17 : PySem.W.keepIn K (.ref f17) = true)
    (a18 : PySem.W.nsIn K mainGlobals "_law_letters" = some (some (.ref f18)))
    (l18 : K.lookup f18 = some ⟨oc18, od18, .func (PySem.W.fnOf "_law_letters" "_law_letters" (defArgs s_letters) (defBody s_letters) (defScope s_letters) .none kV18 dc18 pm18 an18 cd18 ct18), sl18⟩)
    (c18 : PySem.W.codeIn K cd18 "_law_letters" = true)
    (k18 : PySem.W.keepIn K (.ref f18) = true)
    (a19 : PySem.W.nsIn K mainGlobals "require_way" = some (some (.ref f19)))
    (l19 : K.lookup f19 = some ⟨oc19, od19, .func (PySem.W.fnOf "require_way" "require_way" (defArgs s_reqway) (defBody s_reqway) (defScope s_reqway) .none kV19 dc19 pm19 an19 cd19 ct19), sl19⟩)
    (c19 : PySem.W.codeIn K cd19 "require_way" = true)
    (k19 : PySem.W.keepIn K (.ref f19) = true)
    (a20 : PySem.W.nsIn K mainGlobals "power_rest" = some (some (.ref f20)))
    (l20 : K.lookup f20 = some ⟨oc20, od20, .func (PySem.W.fnOf "power_rest" "power_rest" (defArgs s_power) (defBody s_power) (defScope s_power) .none kV20 dc20 pm20 an20 cd20 ct20), sl20⟩)
    (c20 : PySem.W.codeIn K cd20 "power_rest" = true)
    (k20 : PySem.W.keepIn K (.ref f20) = true)
    (a21 : PySem.W.nsIn K mainGlobals "require_length" = some (some (.ref f21)))
    (l21 : K.lookup f21 = some ⟨oc21, od21, .func (PySem.W.fnOf "require_length" "require_length" (defArgs s_reqlen) (defBody s_reqlen) (defScope s_reqlen) .none kV21 dc21 pm21 an21 cd21 ct21), sl21⟩)
    (c21 : PySem.W.codeIn K cd21 "require_length" = true)
    (k21 : PySem.W.keepIn K (.ref f21) = true)
    (a22 : PySem.W.nsIn K mainGlobals "require_place" = some (some (.ref f22)))
    (l22 : K.lookup f22 = some ⟨oc22, od22, .func (PySem.W.fnOf "require_place" "require_place" (defArgs s_reqplace) (defBody s_reqplace) (defScope s_reqplace) .none kV22 dc22 pm22 an22 cd22 ct22), sl22⟩)
    (c22 : PySem.W.codeIn K cd22 "require_place" = true)
    (k22 : PySem.W.keepIn K (.ref f22) = true)
    (a23 : PySem.W.nsIn K mainGlobals "require_letter" = some (some (.ref f23)))
    (l23 : K.lookup f23 = some ⟨oc23, od23, .func (PySem.W.fnOf "require_letter" "require_letter" (defArgs s_reqletter) (defBody s_reqletter) (defScope s_reqletter) .none kV23 dc23 pm23 an23 cd23 ct23), sl23⟩)
    (c23 : PySem.W.codeIn K cd23 "require_letter" = true)
    (k23 : PySem.W.keepIn K (.ref f23) = true)
    (a24 : PySem.W.nsIn K mainGlobals "_law_modulus" = some (some (.ref f24)))
    (l24 : K.lookup f24 = some ⟨oc24, od24, .func (PySem.W.fnOf "_law_modulus" "_law_modulus" (defArgs s_mod9) (defBody s_mod9) (defScope s_mod9) .none kV24 dc24 pm24 an24 cd24 ct24), sl24⟩)
    (c24 : PySem.W.codeIn K cd24 "_law_modulus" = true)
    (k24 : PySem.W.keepIn K (.ref f24) = true)
    (a25 : PySem.W.nsIn K mainGlobals "_law_sum" = some (some (.ref f25)))
    (l25 : K.lookup f25 = some ⟨oc25, od25, .func (PySem.W.fnOf "_law_sum" "_law_sum" (defArgs s_sum) (defBody s_sum) (defScope s_sum) .none kV25 dc25 pm25 an25 cd25 ct25), sl25⟩)
    (c25 : PySem.W.codeIn K cd25 "_law_sum" = true)
    (k25 : PySem.W.keepIn K (.ref f25) = true)
    (a26 : PySem.W.nsIn K mainGlobals "_law_some" = some (some (.ref f26)))
    (l26 : K.lookup f26 = some ⟨oc26, od26, .func (PySem.W.fnOf "_law_some" "_law_some" (defArgs s_some) (defBody s_some) (defScope s_some) .none kV26 dc26 pm26 an26 cd26 ct26), sl26⟩)
    (c26 : PySem.W.codeIn K cd26 "_law_some" = true)
    (k26 : PySem.W.keepIn K (.ref f26) = true)
    (a27 : PySem.W.nsIn K mainGlobals "_law_clashing" = some (some (.ref f27)))
    (l27 : K.lookup f27 = some ⟨oc27, od27, .func (PySem.W.fnOf "_law_clashing" "_law_clashing" (defArgs s_clsh) (defBody s_clsh) (defScope s_clsh) .none kV27 dc27 pm27 an27 cd27 ct27), sl27⟩)
    (c27 : PySem.W.codeIn K cd27 "_law_clashing" = true)
    (k27 : PySem.W.keepIn K (.ref f27) = true)
    (a28 : PySem.W.nsIn K mainGlobals "_law_agrees" = some (some (.ref f28)))
    (l28 : K.lookup f28 = some ⟨oc28, od28, .func (PySem.W.fnOf "_law_agrees" "_law_agrees" (defArgs s_agr) (defBody s_agr) (defScope s_agr) .none kV28 dc28 pm28 an28 cd28 ct28), sl28⟩)
    (c28 : PySem.W.codeIn K cd28 "_law_agrees" = true)
    (k28 : PySem.W.keepIn K (.ref f28) = true)
    (a29 : PySem.W.nsIn K mainGlobals "_law_deed" = some (some (.ref f29)))
    (l29 : K.lookup f29 = some ⟨oc29, od29, .func (PySem.W.fnOf "_law_deed" "_law_deed" (defArgs s_deed) (defBody s_deed) (defScope s_deed) .none kV29 dc29 pm29 an29 cd29 ct29), sl29⟩)
    (c29 : PySem.W.codeIn K cd29 "_law_deed" = true)
    (k29 : PySem.W.keepIn K (.ref f29) = true)
    (a30 : PySem.W.nsIn K mainGlobals "_law_right" = some (some (.ref f30)))
    (l30 : K.lookup f30 = some ⟨oc30, od30, .func (PySem.W.fnOf "_law_right" "_law_right" (defArgs s_right) (defBody s_right) (defScope s_right) .none kV30 dc30 pm30 an30 cd30 ct30), sl30⟩)
    (c30 : PySem.W.codeIn K cd30 "_law_right" = true)
    (k30 : PySem.W.keepIn K (.ref f30) = true)
    (a31 : PySem.W.findIn K (.ref Cm) "__init__" = some (some (.ref f31)))
    (i31 : PySem.W.isFn K (.ref f31) = true)
    (l31 : K.lookup f31 = some ⟨oc31, od31, .func (PySem.W.fnOf "__init__" "Modulus.__init__" (defArgs s_modinit) (defBody s_modinit) (defScope s_modinit) .none kV31 dc31 pm31 an31 cd31 ct31), sl31⟩)
    (c31 : PySem.W.codeIn K cd31 "Modulus.__init__" = true)
    (k31 : PySem.W.keepIn K (.ref f31) = true)
    (a32 : PySem.W.findIn K (.ref Ck) "__init__" = some (some (.ref f32)))
    (i32 : PySem.W.isFn K (.ref f32) = true)
    (l32 : K.lookup f32 = some ⟨oc32, od32, .func (PySem.W.fnOf "__init__" "Marking.__init__" (defArgs s_mkinit) (defBody s_mkinit) (defScope s_mkinit) .none (.ref D32) dc32 pm32 an32 cd32 ct32), sl32⟩)
    (c32 : PySem.W.codeIn K cd32 "Marking.__init__" = true)
    (k32 : PySem.W.keepIn K (.ref f32) = true)
    (d32_0 : PySem.W.nsIn K D32 "low" = some (some (.bool false)))
    (d32_1 : PySem.W.nsIn K D32 "shift" = some (some (.int 0 tk32_1)))
    (d32_2 : PySem.W.nsIn K D32 "lead" = some (some (.bool false)))
    (a33 : PySem.W.findIn K (.ref Ck) "highest_first" = some (some (.ref f33)))
    (i33 : PySem.W.isFn K (.ref f33) = true)
    (l33 : K.lookup f33 = some ⟨oc33, od33, .func (PySem.W.fnOf "highest_first" "Marking.highest_first" (defArgs s_hf) (defBody s_hf) (defScope s_hf) .none kV33 dc33 pm33 an33 cd33 ct33), sl33⟩)
    (c33 : PySem.W.codeIn K cd33 "Marking.highest_first" = true)
    (k33 : PySem.W.keepIn K (.ref f33) = true)
    (a34 : PySem.W.findIn K (.ref Cw) "__init__" = some (some (.ref f34)))
    (i34 : PySem.W.isFn K (.ref f34) = true)
    (l34 : K.lookup f34 = some ⟨oc34, od34, .func (PySem.W.fnOf "__init__" "Way.__init__" (defArgs s_wayinit) (defBody s_wayinit) (defScope s_wayinit) (.ref T34) kV34 dc34 pm34 an34 cd34 ct34), sl34⟩)
    (c34 : PySem.W.codeIn K cd34 "Way.__init__" = true)
    (k34 : PySem.W.keepIn K (.ref f34) = true)
    (t34 : K.lookup T34 = some ⟨To34, Td34, .seq [.none].toArray Tn34, Ts34⟩)
    (a35 : PySem.W.findIn K (.ref Cw) "of_letters" = some (some (.ref f35)))
    (i35 : PySem.W.isFn K (.ref f35) = true)
    (l35 : K.lookup f35 = some ⟨oc35, od35, .func (PySem.W.fnOf "of_letters" "Way.of_letters" (defArgs s_ofl) (defBody s_ofl) (defScope s_ofl) .none kV35 dc35 pm35 an35 cd35 ct35), sl35⟩)
    (c35 : PySem.W.codeIn K cd35 "Way.of_letters" = true)
    (k35 : PySem.W.keepIn K (.ref f35) = true)
    (a36 : PySem.W.findIn K (.ref Cw) "__call__" = some (some (.ref f36)))
    (i36 : PySem.W.isFn K (.ref f36) = true)
    (l36 : K.lookup f36 = some ⟨oc36, od36, .func (PySem.W.fnOf "__call__" "Way.__call__" (defArgs s_call) (defBody s_call) (defScope s_call) .none kV36 dc36 pm36 an36 cd36 ct36), sl36⟩)
    (c36 : PySem.W.codeIn K cd36 "Way.__call__" = true)
    (k36 : PySem.W.keepIn K (.ref f36) = true)
    (mCp : PySem.W.nsIn K mainGlobals "Kept" = some (some (.ref Cp)))
    (pgCp : PySem.W.plainGet K Cp Str.empty = true)
    (hdCp : PySem.W.hasDictIn K Cp = true)
    (poCp : PySem.W.plainOver K Cp = true)
    (saCp : PySem.W.findIn K (.ref Cp) "__setattr__" = some (some (.builtin "object.__setattr__")))
    (haCp : PySem.W.findIn K (.ref Cp) "__class__" = some (some (.builtin "object.__class__")))
    (hmCp : PySem.W.mroIn K Cp (.type "object") = some true)
    (mkCp : PySem.W.makesIn K Cp = true)
    (kcCp : PySem.W.keepIn K (.ref Cp) = true)
    (nCp_letters : PySem.W.findIn K (.ref Cp) "letters" = some none)
    (nCp_way : PySem.W.findIn K (.ref Cp) "way" = some none)
    (nCp_past : PySem.W.findIn K (.ref Cp) "past" = some none)
    (nCp_rests : PySem.W.findIn K (.ref Cp) "rests" = some none)
    (a37 : PySem.W.findIn K (.ref Cp) "__init__" = some (some (.ref f37)))
    (i37 : PySem.W.isFn K (.ref f37) = true)
    (l37 : K.lookup f37 = some ⟨oc37, od37, .func (PySem.W.fnOf "__init__" "Kept.__init__" (defArgs s_kpinit) (defBody s_kpinit) (defScope s_kpinit) .none kV37 dc37 pm37 an37 cd37 ct37), sl37⟩)
    (c37 : PySem.W.codeIn K cd37 "Kept.__init__" = true)
    (k37 : PySem.W.keepIn K (.ref f37) = true)
    (a38 : PySem.W.findIn K (.ref Cp) "__len__" = some (some (.ref f38)))
    (i38 : PySem.W.isFn K (.ref f38) = true)
    (l38 : K.lookup f38 = some ⟨oc38, od38, .func (PySem.W.fnOf "__len__" "Kept.__len__" (defArgs s_kplen) (defBody s_kplen) (defScope s_kplen) .none kV38 dc38 pm38 an38 cd38 ct38), sl38⟩)
    (c38 : PySem.W.codeIn K cd38 "Kept.__len__" = true)
    (k38 : PySem.W.keepIn K (.ref f38) = true)
    (a39 : PySem.W.findIn K (.ref Cp) "put" = some (some (.ref f39)))
    (i39 : PySem.W.isFn K (.ref f39) = true)
    (l39 : K.lookup f39 = some ⟨oc39, od39, .func (PySem.W.fnOf "put" "Kept.put" (defArgs s_kpput) (defBody s_kpput) (defScope s_kpput) .none kV39 dc39 pm39 an39 cd39 ct39), sl39⟩)
    (c39 : PySem.W.codeIn K cd39 "Kept.put" = true)
    (k39 : PySem.W.keepIn K (.ref f39) = true)
    (a40 : PySem.W.findIn K (.ref Cp) "__getitem__" = some (some (.ref f40)))
    (i40 : PySem.W.isFn K (.ref f40) = true)
    (l40 : K.lookup f40 = some ⟨oc40, od40, .func (PySem.W.fnOf "__getitem__" "Kept.__getitem__" (defArgs s_kpget) (defBody s_kpget) (defScope s_kpget) .none kV40 dc40 pm40 an40 cd40 ct40), sl40⟩)
    (c40 : PySem.W.codeIn K cd40 "Kept.__getitem__" = true)
    (k40 : PySem.W.keepIn K (.ref f40) = true)
    (a41 : PySem.W.findIn K (.ref Cp) "__setitem__" = some (some (.ref f41)))
    (i41 : PySem.W.isFn K (.ref f41) = true)
    (l41 : K.lookup f41 = some ⟨oc41, od41, .func (PySem.W.fnOf "__setitem__" "Kept.__setitem__" (defArgs s_kpset) (defBody s_kpset) (defScope s_kpset) .none kV41 dc41 pm41 an41 cd41 ct41), sl41⟩)
    (c41 : PySem.W.codeIn K cd41 "Kept.__setitem__" = true)
    (k41 : PySem.W.keepIn K (.ref f41) = true)
    (a42 : PySem.W.findIn K (.ref Cp) "__iadd__" = some (some (.ref f42)))
    (i42 : PySem.W.isFn K (.ref f42) = true)
    (l42 : K.lookup f42 = some ⟨oc42, od42, .func (PySem.W.fnOf "__iadd__" "Kept.__iadd__" (defArgs s_kpiadd) (defBody s_kpiadd) (defScope s_kpiadd) .none kV42 dc42 pm42 an42 cd42 ct42), sl42⟩)
    (c42 : PySem.W.codeIn K cd42 "Kept.__iadd__" = true)
    (k42 : PySem.W.keepIn K (.ref f42) = true)
    (a43 : PySem.W.findIn K (.ref Cp) "require_stretch" = some (some (.ref f43)))
    (i43 : PySem.W.isFn K (.ref f43) = true)
    (l43 : K.lookup f43 = some ⟨oc43, od43, .func (PySem.W.fnOf "require_stretch" "Kept.require_stretch" (defArgs s_kpstr) (defBody s_kpstr) (defScope s_kpstr) .none kV43 dc43 pm43 an43 cd43 ct43), sl43⟩)
    (c43 : PySem.W.codeIn K cd43 "Kept.require_stretch" = true)
    (k43 : PySem.W.keepIn K (.ref f43) = true)
    (a44 : PySem.W.findIn K (.ref Cp) "change" = some (some (.ref f44)))
    (i44 : PySem.W.isFn K (.ref f44) = true)
    (l44 : K.lookup f44 = some ⟨oc44, od44, .func (PySem.W.fnOf "change" "Kept.change" (defArgs s_kpchange) (defBody s_kpchange) (defScope s_kpchange) .none kV44 dc44 pm44 an44 cd44 ct44), sl44⟩)
    (c44 : PySem.W.codeIn K cd44 "Kept.change" = true)
    (k44 : PySem.W.keepIn K (.ref f44) = true)
    (a45 : PySem.W.findIn K (.ref Cp) "undo" = some (some (.ref f45)))
    (i45 : PySem.W.isFn K (.ref f45) = true)
    (l45 : K.lookup f45 = some ⟨oc45, od45, .func (PySem.W.fnOf "undo" "Kept.undo" (defArgs s_kpundo) (defBody s_kpundo) (defScope s_kpundo) .none kV45 dc45 pm45 an45 cd45 ct45), sl45⟩)
    (c45 : PySem.W.codeIn K cd45 "Kept.undo" = true)
    (k45 : PySem.W.keepIn K (.ref f45) = true)
    (a46 : PySem.W.findIn K (.ref Cp) "rests_of_ends" = some (some (.ref f46)))
    (i46 : PySem.W.isFn K (.ref f46) = true)
    (l46 : K.lookup f46 = some ⟨oc46, od46, .func (PySem.W.fnOf "rests_of_ends" "Kept.rests_of_ends" (defArgs s_kprests) (defBody s_kprests) (defScope s_kprests) .none kV46 dc46 pm46 an46 cd46 ct46), sl46⟩)
    (c46 : PySem.W.codeIn K cd46 "Kept.rests_of_ends" = true)
    (k46 : PySem.W.keepIn K (.ref f46) = true)
    (a47 : PySem.W.findIn K (.ref Cp) "mark_between" = some (some (.ref f47)))
    (i47 : PySem.W.isFn K (.ref f47) = true)
    (l47 : K.lookup f47 = some ⟨oc47, od47, .func (PySem.W.fnOf "mark_between" "Kept.mark_between" (defArgs s_kpmarkb) (defBody s_kpmarkb) (defScope s_kpmarkb) .none kV47 dc47 pm47 an47 cd47 ct47), sl47⟩)
    (c47 : PySem.W.codeIn K cd47 "Kept.mark_between" = true)
    (k47 : PySem.W.keepIn K (.ref f47) = true)
    (a48 : PySem.W.findIn K (.ref Cp) "clashing" = some (some (.ref f48)))
    (i48 : PySem.W.isFn K (.ref f48) = true)
    (l48 : K.lookup f48 = some ⟨oc48, od48, .func (PySem.W.fnOf "clashing" "Kept.clashing" (defArgs s_kpclash) (defBody s_kpclash) (defScope s_kpclash) .none kV48 dc48 pm48 an48 cd48 ct48), sl48⟩)
    (c48 : PySem.W.codeIn K cd48 "Kept.clashing" = true)
    (k48 : PySem.W.keepIn K (.ref f48) = true)
    (a49 : PySem.W.findIn K (.ref Cp) "text" = some (some (.ref Pt)))
    (pgP : PySem.W.specialIn K (.ref Pt) "__get__" = some (some (.builtin "property.__get__")))
    (ptP : PySem.W.takesIn K (.ref Pt) = some true)
    (prP : PySem.W.recIn K Pt "property" = some (.ref f49 :: rtP))
    (l49 : K.lookup f49 = some ⟨oc49, od49, .func (PySem.W.fnOf "text" "Kept.text" (defArgs s_kptext) (defBody s_kptext) (defScope s_kptext) .none kV49 dc49 pm49 an49 cd49 ct49), sl49⟩)
    (c49 : PySem.W.codeIn K cd49 "Kept.text" = true)
    (k49 : PySem.W.keepIn K (.ref f49) = true)
    (a50 : PySem.W.findIn K (.ref Cp) "mark_of" = some (some (.ref f50)))
    (i50 : PySem.W.isFn K (.ref f50) = true)
    (l50 : K.lookup f50 = some ⟨oc50, od50, .func (PySem.W.fnOf "mark_of" "Kept.mark_of" (defArgs s_kpmark) (defBody s_kpmark) (defScope s_kpmark) (.ref T50) kV50 dc50 pm50 an50 cd50 ct50), sl50⟩)
    (c50 : PySem.W.codeIn K cd50 "Kept.mark_of" = true)
    (k50 : PySem.W.keepIn K (.ref f50) = true)
    (t50 : K.lookup T50 = some ⟨To50, Td50, .seq [.int 0 tkM, .none].toArray Tn50, Ts50⟩)
    (ssCp : PySem.W.subIn K (.ref Cp) (.ref Cp) = some true)
    (npCw : PySem.W.subIn K (.ref Cw) (.ref Cp) = some false)
    (npCm : PySem.W.subIn K (.ref Cm) (.ref Cp) = some false)
    (npCk : PySem.W.subIn K (.ref Ck) (.ref Cp) = some false)
    (a51 : PySem.W.findIn K (.ref Cp) "twin" = some (some (.ref f51)))
    (i51 : PySem.W.isFn K (.ref f51) = true)
    (l51 : K.lookup f51 = some ⟨oc51, od51, .func (PySem.W.fnOf "twin" "Kept.twin" (defArgs s_kptwins) (defBody s_kptwins) (defScope s_kptwins) .none kV51 dc51 pm51 an51 cd51 ct51), sl51⟩)
    (c51 : PySem.W.codeIn K cd51 "Kept.twin" = true)
    (k51 : PySem.W.keepIn K (.ref f51) = true)
    (nqCp : PySem.W.noSeq K Cp = true)
    (sfCp : PySem.W.selfFirst K Cp = true)
    (ieP : PySem.W.findIn K (.ref Cp) "__eq__" = some (some (.builtin "object.__eq__")))
    (inP : PySem.W.findIn K (.ref Cp) "__ne__" = some (some (.builtin "object.__ne__")))
    (ifP : PySem.W.notFirst K Cp (.type "int") = true)
    (a52 : PySem.W.findIn K (.ref Ck) "__eq__" = some (some (.ref f52)))
    (i52 : PySem.W.isFn K (.ref f52) = true)
    (l52 : K.lookup f52 = some ⟨oc52, od52, .func (PySem.W.fnOf "__eq__" "Marking.__eq__" (defArgs s_eqmk) (defBody s_eqmk) (defScope s_eqmk) .none kV52 dc52 pm52 an52 cd52 ct52), sl52⟩)
    (c52 : PySem.W.codeIn K cd52 "Marking.__eq__" = true)
    (k52 : PySem.W.keepIn K (.ref f52) = true)
    (neCk : PySem.W.findIn K (.ref Ck) "__ne__" = some (some (.builtin "object.__ne__")))
    (a53 : PySem.W.findIn K (.ref Cw) "__eq__" = some (some (.ref f53)))
    (i53 : PySem.W.isFn K (.ref f53) = true)
    (l53 : K.lookup f53 = some ⟨oc53, od53, .func (PySem.W.fnOf "__eq__" "Way.__eq__" (defArgs s_eqwy) (defBody s_eqwy) (defScope s_eqwy) .none kV53 dc53 pm53 an53 cd53 ct53), sl53⟩)
    (c53 : PySem.W.codeIn K cd53 "Way.__eq__" = true)
    (k53 : PySem.W.keepIn K (.ref f53) = true)
    (neCw : PySem.W.findIn K (.ref Cw) "__ne__" = some (some (.builtin "object.__ne__")))
    (a54 : PySem.W.nsIn K mainGlobals "law" = some (some (.ref f54)))
    (l54 : K.lookup f54 = some ⟨oc54, od54, .func (PySem.W.fnOf "law" "law" (defArgs s_law) (defBody s_law) (defScope s_law) .none kV54 dc54 pm54 an54 cd54 ct54), sl54⟩)
    (c54 : PySem.W.codeIn K cd54 "law" = true)
    (k54 : PySem.W.keepIn K (.ref f54) = true)
    (fi36 : PySem.W.fnIn K f36 = true)
    (fi38 : PySem.W.fnIn K f38 = true)
    (fi40 : PySem.W.fnIn K f40 = true)
    (fi41 : PySem.W.fnIn K f41 = true)
    (fi42 : PySem.W.fnIn K f42 = true) :
    ∃ fd : FuncData, (∀ (s : Shared) (v : Value), BindsTo s fd ⟨[v], []⟩ [("_law_script", v)]) ∧ ∀ base : Heap, K.In base → base.Ns mainGlobals mg → FnOk l.prog w K mg base L2.CX0 9 fa fd ["_law_script"] (spLaw K) := by
  have e := hfa.symm.trans (PySem.W.mg_of X G a54)
  cases e
  have T : Bt mg := ⟨PySem.W.mg_none_of X G z_len, PySem.W.mg_none_of X G z_int, PySem.W.mg_none_of X G z_abs, PySem.W.mg_none_of X G z_max, PySem.W.mg_none_of X G z_min, PySem.W.mg_none_of X G z_range, PySem.W.mg_none_of X G z_isinstance, PySem.W.mg_none_of X G z_list, PySem.W.mg_none_of X G z_tuple, PySem.W.mg_none_of X G z_str, PySem.W.mg_none_of X G z_bool, PySem.W.mg_none_of X G z_ord, PySem.W.mg_none_of X G z_all, PySem.W.mg_none_of X G z_enumerate, PySem.W.mg_none_of X G z_zip⟩
  have K_Cm : ClsF K Cm := ⟨⟨pgCm, hdCm, poCm, saCm⟩, haCm, objhn, objht, hmCm⟩
  have K_Ck : ClsF K Ck := ⟨⟨pgCk, hdCk, poCk, saCk⟩, haCk, objhn, objht, hmCk⟩
  have K_Cw : ClsF K Cw := ⟨⟨pgCw, hdCw, poCw, saCw⟩, haCw, objhn, objht, hmCw⟩
  have KX : Kx K mg ⟨Cm, Ck, Cw⟩ := ⟨K_Cm, K_Ck, K_Cw, PySem.W.mg_of X G mCm, PySem.W.mg_of X G mCk, PySem.W.mg_of X G mCw, nCm_number, nCm_factors, nCk_low, nCk_shift, nCk_lead, nCw_marking, nCw_modulus, nCw_number, nCw_base⟩
  have F_isint : Dn K mg "is_integer" s_isint ["thing"] := ⟨f1, _, fun_mk (st := s_isint) l1 c1 k1, PySem.W.mg_of X G a1, (fun_mk (st := s_isint) l1 c1 k1).binds (ps := ["thing"]) fun _ _ _ _ _ _ us hl => match us, hl with | [_], _ => rfl⟩
  have F_raised : Dn K mg "raised" s_raised ["factor", "power"] := ⟨f2, _, fun_mk (st := s_raised) l2 c2 k2, PySem.W.mg_of X G a2, (fun_mk (st := s_raised) l2 c2 k2).binds (ps := ["factor", "power"]) fun _ _ _ _ _ _ us hl => match us, hl with | [_, _], _ => rfl⟩
  have F_prime : Dn K mg "is_prime_number" s_prime ["number"] := ⟨f3, _, fun_mk (st := s_prime) l3 c3 k3, PySem.W.mg_of X G a3, (fun_mk (st := s_prime) l3 c3 k3).binds (ps := ["number"]) fun _ _ _ _ _ _ us hl => match us, hl with | [_], _ => rfl⟩
  have F_isfac : Dn K mg "is_factor" s_isfac ["thing", "least"] := ⟨f4, _, fun_mk (st := s_isfac) l4 c4 k4, PySem.W.mg_of X G a4, (fun_mk (st := s_isfac) l4 c4 k4).binds (ps := ["thing", "least"]) fun _ _ _ _ _ _ us hl => match us, hl with | [_, _], _ => rfl⟩
  have F_reqmod : Dn K mg "require_modulus" s_reqmod ["modulus"] := ⟨f5, _, fun_mk (st := s_reqmod) l5 c5 k5, PySem.W.mg_of X G a5, (fun_mk (st := s_reqmod) l5 c5 k5).binds (ps := ["modulus"]) fun _ _ _ _ _ _ us hl => match us, hl with | [_], _ => rfl⟩
  have F_istext : Dn K mg "is_text" s_istext ["thing"] := ⟨f6, _, fun_mk (st := s_istext) l6 c6 k6, PySem.W.mg_of X G a6, (fun_mk (st := s_istext) l6 c6 k6).binds (ps := ["thing"]) fun _ _ _ _ _ _ us hl => match us, hl with | [_], _ => rfl⟩
  have F_read : Dn K mg "read" s_read ["text"] := ⟨f7, _, fun_mk (st := s_read) l7 c7 k7, PySem.W.mg_of X G a7, (fun_mk (st := s_read) l7 c7 k7).binds (ps := ["text"]) fun _ _ _ _ _ _ us hl => match us, hl with | [_], _ => rfl⟩
  have F_reqtext : Dn K mg "require_text" s_reqtext ["thing"] := ⟨f8, _, fun_mk (st := s_reqtext) l8 c8 k8, PySem.W.mg_of X G a8, (fun_mk (st := s_reqtext) l8 c8 k8).binds (ps := ["thing"]) fun _ _ _ _ _ _ us hl => match us, hl with | [_], _ => rfl⟩
  have F_mkof : Dn K mg "marking_of" s_mkof ["marking"] := ⟨f9, _, fun_mk (st := s_mkof) l9 c9 k9, PySem.W.mg_of X G a9, (fun_mk (st := s_mkof) l9 c9 k9).binds (ps := ["marking"]) fun _ _ _ _ _ _ us hl => match us, hl with | [_], _ => rfl⟩
  have F_restat : Dn K mg "rest_at" s_restat ["coefficients", "base", "number"] := ⟨f10, _, fun_mk (st := s_restat) l10 c10 k10, PySem.W.mg_of X G a10, (fun_mk (st := s_restat) l10 c10 k10).binds (ps := ["coefficients", "base", "number"]) fun _ _ _ _ _ _ us hl => match us, hl with | [_, _, _], _ => rfl⟩
  have F_mixed : Dn K mg "_law_mixed" s_mixed ["_law_cell", "_law_k"] := ⟨f11, _, fun_mk (st := s_mixed) l11 c11 k11, PySem.W.mg_of X G a11, (fun_mk (st := s_mixed) l11 c11 k11).binds (ps := ["_law_cell", "_law_k"]) fun _ _ _ _ _ _ us hl => match us, hl with | [_, _], _ => rfl⟩
  have F_purse : Dn K mg "_law_purse" s_purse ["_law_cells", "_law_at"] := ⟨f12, _, fun_mk (st := s_purse) l12 c12 k12, PySem.W.mg_of X G a12, (fun_mk (st := s_purse) l12 c12 k12).binds (ps := ["_law_cells", "_law_at"]) fun _ _ _ _ _ _ us hl => match us, hl with | [_, _], _ => rfl⟩
  have F_draw : Dn K mg "_law_draw" s_draw ["_law_purse_here", "_law_out_of"] := ⟨f13, _, fun_mk (st := s_draw) l13 c13 k13, PySem.W.mg_of X G a13, (fun_mk (st := s_draw) l13 c13 k13).binds (ps := ["_law_purse_here", "_law_out_of"]) fun _ _ _ _ _ _ us hl => match us, hl with | [_, _], _ => rfl⟩
  have F_great : Dn K mg "_law_great" s_great ["_law_purse_here", "_law_figures"] := ⟨f14, _, fun_mk (st := s_great) l14 c14 k14, PySem.W.mg_of X G a14, (fun_mk (st := s_great) l14 c14 k14).binds (ps := ["_law_purse_here", "_law_figures"]) fun _ _ _ _ _ _ us hl => match us, hl with | [_, _], _ => rfl⟩
  have F_style : Dn K mg "_law_style" s_style ["_law_purse_here"] := ⟨f15, _, fun_mk (st := s_style) l15 c15 k15, PySem.W.mg_of X G a15, (fun_mk (st := s_style) l15 c15 k15).binds (ps := ["_law_purse_here"]) fun _ _ _ _ _ _ us hl => match us, hl with | [_], _ => rfl⟩
  have F_marking : Dn K mg "_law_marking" s_marking ["_law_given"] := ⟨f16, _, fun_mk (st := s_marking) l16 c16 k16, PySem.W.mg_of X G a16, (fun_mk (st := s_marking) l16 c16 k16).binds (ps := ["_law_given"]) fun _ _ _ _ _ _ us hl => match us, hl with | [_], _ => rfl⟩
  have F_root : Dn K mg "_law_root" s_root ["_law_purse_here", "_law_size"] := ⟨f17, _, fun_mk (st := s_root) l17 c17 k17, PySem.W.mg_of X G a17, (fun_mk (st := s_root) l17 c17 k17).binds (ps := ["_law_purse_here", "_law_size"]) fun _ _ _ _ _ _ us hl => match us, hl with | [_, _], _ => rfl⟩
  have F_letters : Dn K mg "_law_letters" s_letters ["_law_some_here"] := ⟨f18, _, fun_mk (st := s_letters) l18 c18 k18, PySem.W.mg_of X G a18, (fun_mk (st := s_letters) l18 c18 k18).binds (ps := ["_law_some_here"]) fun _ _ _ _ _ _ us hl => match us, hl with | [_], _ => rfl⟩
  have F_reqway : Dn K mg "require_way" s_reqway ["way"] := ⟨f19, _, fun_mk (st := s_reqway) l19 c19 k19, PySem.W.mg_of X G a19, (fun_mk (st := s_reqway) l19 c19 k19).binds (ps := ["way"]) fun _ _ _ _ _ _ us hl => match us, hl with | [_], _ => rfl⟩
  have F_power : Dn K mg "power_rest" s_power ["base", "exponent", "number"] := ⟨f20, _, fun_mk (st := s_power) l20 c20 k20, PySem.W.mg_of X G a20, (fun_mk (st := s_power) l20 c20 k20).binds (ps := ["base", "exponent", "number"]) fun _ _ _ _ _ _ us hl => match us, hl with | [_, _, _], _ => rfl⟩
  have F_reqlen : Dn K mg "require_length" s_reqlen ["thing"] := ⟨f21, _, fun_mk (st := s_reqlen) l21 c21 k21, PySem.W.mg_of X G a21, (fun_mk (st := s_reqlen) l21 c21 k21).binds (ps := ["thing"]) fun _ _ _ _ _ _ us hl => match us, hl with | [_], _ => rfl⟩
  have F_reqplace : Dn K mg "require_place" s_reqplace ["thing", "first", "last"] := ⟨f22, _, fun_mk (st := s_reqplace) l22 c22 k22, PySem.W.mg_of X G a22, (fun_mk (st := s_reqplace) l22 c22 k22).binds (ps := ["thing", "first", "last"]) fun _ _ _ _ _ _ us hl => match us, hl with | [_, _, _], _ => rfl⟩
  have F_reqletter : Dn K mg "require_letter" s_reqletter ["thing"] := ⟨f23, _, fun_mk (st := s_reqletter) l23 c23 k23, PySem.W.mg_of X G a23, (fun_mk (st := s_reqletter) l23 c23 k23).binds (ps := ["thing"]) fun _ _ _ _ _ _ us hl => match us, hl with | [_], _ => rfl⟩
  have F_mod9 : Dn K mg "_law_modulus" s_mod9 ["_law_purse_here", "_law_most"] := ⟨f24, _, fun_mk (st := s_mod9) l24 c24 k24, PySem.W.mg_of X G a24, (fun_mk (st := s_mod9) l24 c24 k24).binds (ps := ["_law_purse_here", "_law_most"]) fun _ _ _ _ _ _ us hl => match us, hl with | [_, _], _ => rfl⟩
  have F_sum : Dn K mg "_law_sum" s_sum ["_law_letters_here", "_law_root_here", "_law_given"] := ⟨f25, _, fun_mk (st := s_sum) l25 c25 k25, PySem.W.mg_of X G a25, (fun_mk (st := s_sum) l25 c25 k25).binds (ps := ["_law_letters_here", "_law_root_here", "_law_given"]) fun _ _ _ _ _ _ us hl => match us, hl with | [_, _, _], _ => rfl⟩
  have F_some : Dn K mg "_law_some" s_some ["_law_purse_here", "_law_most"] := ⟨f26, _, fun_mk (st := s_some) l26 c26 k26, PySem.W.mg_of X G a26, (fun_mk (st := s_some) l26 c26 k26).binds (ps := ["_law_purse_here", "_law_most"]) fun _ _ _ _ _ _ us hl => match us, hl with | [_, _], _ => rfl⟩
  have F_clsh : Dn K mg "_law_clashing" s_clsh ["_law_letters_here", "_law_many", "_law_root_here", "_law_given", "_law_size"] := ⟨f27, _, fun_mk (st := s_clsh) l27 c27 k27, PySem.W.mg_of X G a27, (fun_mk (st := s_clsh) l27 c27 k27).binds (ps := ["_law_letters_here", "_law_many", "_law_root_here", "_law_given", "_law_size"]) fun _ _ _ _ _ _ us hl => match us, hl with | [_, _, _, _, _], _ => rfl⟩
  have F_agr : Dn K mg "_law_agrees" s_agr ["_law_purse_here", "_law_made", "_law_letters_here", "_law_given"] := ⟨f28, _, fun_mk (st := s_agr) l28 c28 k28, PySem.W.mg_of X G a28, (fun_mk (st := s_agr) l28 c28 k28).binds (ps := ["_law_purse_here", "_law_made", "_law_letters_here", "_law_given"]) fun _ _ _ _ _ _ us hl => match us, hl with | [_, _, _, _], _ => rfl⟩
  have F_deed : Dn K mg "_law_deed" s_deed ["_law_purse_here", "_law_made", "_law_past"] := ⟨f29, _, fun_mk (st := s_deed) l29 c29 k29, PySem.W.mg_of X G a29, (fun_mk (st := s_deed) l29 c29 k29).binds (ps := ["_law_purse_here", "_law_made", "_law_past"]) fun _ _ _ _ _ _ us hl => match us, hl with | [_, _, _], _ => rfl⟩
  have F_right : Dn K mg "_law_right" s_right ["_law_purse_here"] := ⟨f30, _, fun_mk (st := s_right) l30 c30 k30, PySem.W.mg_of X G a30, (fun_mk (st := s_right) l30 c30 k30).binds (ps := ["_law_purse_here"]) fun _ _ _ _ _ _ us hl => match us, hl with | [_], _ => rfl⟩
  have F_modinit : FunD K "__init__" "Modulus.__init__" (defArgs s_modinit) (defBody s_modinit) (defScope s_modinit) [] [] f31 _ := ⟨⟨oc31, od31, .none, kV31, dc31, pm31, an31, cd31, ct31, sl31, rfl, l31, c31, .inl ⟨rfl, rfl⟩, .inl rfl⟩, k31⟩
  have B_modinit := F_modinit.bindsN (ps := ["self", "factors"]) fun _ _ _ _ _ _ us hl => match us, hl with | [_, _], _ => rfl
  have F_mkinit : FunD K "__init__" "Marking.__init__" (defArgs s_mkinit) (defBody s_mkinit) (defScope s_mkinit) [] [("low", .bl false), ("shift", .int 0), ("lead", .bl false)] f32 _ := ⟨⟨oc32, od32, .none, (.ref D32), dc32, pm32, an32, cd32, ct32, sl32, rfl, l32, c32, .inl ⟨rfl, rfl⟩, .inr ⟨D32, rfl, fun q hq => by
    simp only [List.mem_cons, List.not_mem_nil, or_false] at hq
    rcases hq with rfl | rfl | rfl
    · exact ⟨_, d32_0, rfl⟩
    · exact ⟨_, d32_1, ⟨_, rfl⟩⟩
    · exact ⟨_, d32_2, rfl⟩⟩⟩, k32⟩
  have F_hf : FunD K "highest_first" "Marking.highest_first" (defArgs s_hf) (defBody s_hf) (defScope s_hf) [] [] f33 _ := ⟨⟨oc33, od33, .none, kV33, dc33, pm33, an33, cd33, ct33, sl33, rfl, l33, c33, .inl ⟨rfl, rfl⟩, .inl rfl⟩, k33⟩
  have B_hf := F_hf.bindsN (ps := ["self", "letters"]) fun _ _ _ _ _ _ us hl => match us, hl with | [_, _], _ => rfl
  have F_wayinit : FunD K "__init__" "Way.__init__" (defArgs s_wayinit) (defBody s_wayinit) (defScope s_wayinit) [.non] [] f34 _ := ⟨⟨oc34, od34, (.ref T34), kV34, dc34, pm34, an34, cd34, ct34, sl34, rfl, l34, c34, .inr ⟨by simp, T34, _, _, _, rfl, t34, rfl, (.cons rfl .nil)⟩, .inl rfl⟩, k34⟩
  have F_ofl : FunD K "of_letters" "Way.of_letters" (defArgs s_ofl) (defBody s_ofl) (defScope s_ofl) [] [] f35 _ := ⟨⟨oc35, od35, .none, kV35, dc35, pm35, an35, cd35, ct35, sl35, rfl, l35, c35, .inl ⟨rfl, rfl⟩, .inl rfl⟩, k35⟩
  have B_ofl := F_ofl.bindsN (ps := ["self", "letters"]) fun _ _ _ _ _ _ us hl => match us, hl with | [_, _], _ => rfl
  have F_call : FunD K "__call__" "Way.__call__" (defArgs s_call) (defBody s_call) (defScope s_call) [] [] f36 _ := ⟨⟨oc36, od36, .none, kV36, dc36, pm36, an36, cd36, ct36, sl36, rfl, l36, c36, .inl ⟨rfl, rfl⟩, .inl rfl⟩, k36⟩
  have B_call := F_call.bindsN (ps := ["self", "text"]) fun _ _ _ _ _ _ us hl => match us, hl with | [_, _], _ => rfl
  have K_Cp : ClsF K Cp := ⟨⟨pgCp, hdCp, poCp, saCp⟩, haCp, objhn, objht, hmCp⟩
  have KP : KpK K mg Cp := ⟨K_Cp, PySem.W.mg_of X G mCp, nCp_letters, nCp_way, nCp_past, nCp_rests⟩
  have F_kpinit : FunD K "__init__" "Kept.__init__" (defArgs s_kpinit) (defBody s_kpinit) (defScope s_kpinit) [] [] f37 _ := ⟨⟨oc37, od37, .none, kV37, dc37, pm37, an37, cd37, ct37, sl37, rfl, l37, c37, .inl ⟨rfl, rfl⟩, .inl rfl⟩, k37⟩
  have B_kpinit := F_kpinit.bindsN (ps := ["self", "text", "way"]) fun _ _ _ _ _ _ us hl => match us, hl with | [_, _, _], _ => rfl
  have F_kplen : FunD K "__len__" "Kept.__len__" (defArgs s_kplen) (defBody s_kplen) (defScope s_kplen) [] [] f38 _ := ⟨⟨oc38, od38, .none, kV38, dc38, pm38, an38, cd38, ct38, sl38, rfl, l38, c38, .inl ⟨rfl, rfl⟩, .inl rfl⟩, k38⟩
  have B_kplen := F_kplen.bindsN (ps := ["self"]) fun _ _ _ _ _ _ us hl => match us, hl with | [_], _ => rfl
  have F_kpput : FunD K "put" "Kept.put" (defArgs s_kpput) (defBody s_kpput) (defScope s_kpput) [] [] f39 _ := ⟨⟨oc39, od39, .none, kV39, dc39, pm39, an39, cd39, ct39, sl39, rfl, l39, c39, .inl ⟨rfl, rfl⟩, .inl rfl⟩, k39⟩
  have B_kpput := F_kpput.bindsN (ps := ["self", "first", "last", "letters"]) fun _ _ _ _ _ _ us hl => match us, hl with | [_, _, _, _], _ => rfl
  have F_kpget : FunD K "__getitem__" "Kept.__getitem__" (defArgs s_kpget) (defBody s_kpget) (defScope s_kpget) [] [] f40 _ := ⟨⟨oc40, od40, .none, kV40, dc40, pm40, an40, cd40, ct40, sl40, rfl, l40, c40, .inl ⟨rfl, rfl⟩, .inl rfl⟩, k40⟩
  have B_kpget := F_kpget.bindsN (ps := ["self", "place"]) fun _ _ _ _ _ _ us hl => match us, hl with | [_, _], _ => rfl
  have F_kpset : FunD K "__setitem__" "Kept.__setitem__" (defArgs s_kpset) (defBody s_kpset) (defScope s_kpset) [] [] f41 _ := ⟨⟨oc41, od41, .none, kV41, dc41, pm41, an41, cd41, ct41, sl41, rfl, l41, c41, .inl ⟨rfl, rfl⟩, .inl rfl⟩, k41⟩
  have B_kpset := F_kpset.bindsN (ps := ["self", "place", "letter"]) fun _ _ _ _ _ _ us hl => match us, hl with | [_, _, _], _ => rfl
  have F_kpiadd : FunD K "__iadd__" "Kept.__iadd__" (defArgs s_kpiadd) (defBody s_kpiadd) (defScope s_kpiadd) [] [] f42 _ := ⟨⟨oc42, od42, .none, kV42, dc42, pm42, an42, cd42, ct42, sl42, rfl, l42, c42, .inl ⟨rfl, rfl⟩, .inl rfl⟩, k42⟩
  have B_kpiadd := F_kpiadd.bindsN (ps := ["self", "text"]) fun _ _ _ _ _ _ us hl => match us, hl with | [_, _], _ => rfl
  have F_kpstr : FunD K "require_stretch" "Kept.require_stretch" (defArgs s_kpstr) (defBody s_kpstr) (defScope s_kpstr) [] [] f43 _ := ⟨⟨oc43, od43, .none, kV43, dc43, pm43, an43, cd43, ct43, sl43, rfl, l43, c43, .inl ⟨rfl, rfl⟩, .inl rfl⟩, k43⟩
  have B_kpstr := F_kpstr.bindsN (ps := ["self", "first", "last"]) fun _ _ _ _ _ _ us hl => match us, hl with | [_, _, _], _ => rfl
  have F_kpchange : FunD K "change" "Kept.change" (defArgs s_kpchange) (defBody s_kpchange) (defScope s_kpchange) [] [] f44 _ := ⟨⟨oc44, od44, .none, kV44, dc44, pm44, an44, cd44, ct44, sl44, rfl, l44, c44, .inl ⟨rfl, rfl⟩, .inl rfl⟩, k44⟩
  have B_kpchange := F_kpchange.bindsN (ps := ["self", "first", "last", "text"]) fun _ _ _ _ _ _ us hl => match us, hl with | [_, _, _, _], _ => rfl
  have F_kpundo : FunD K "undo" "Kept.undo" (defArgs s_kpundo) (defBody s_kpundo) (defScope s_kpundo) [] [] f45 _ := ⟨⟨oc45, od45, .none, kV45, dc45, pm45, an45, cd45, ct45, sl45, rfl, l45, c45, .inl ⟨rfl, rfl⟩, .inl rfl⟩, k45⟩
  have B_kpundo := F_kpundo.bindsN (ps := ["self"]) fun _ _ _ _ _ _ us hl => match us, hl with | [_], _ => rfl
  have F_kprests : FunD K "rests_of_ends" "Kept.rests_of_ends" (defArgs s_kprests) (defBody s_kprests) (defScope s_kprests) [] [] f46 _ := ⟨⟨oc46, od46, .none, kV46, dc46, pm46, an46, cd46, ct46, sl46, rfl, l46, c46, .inl ⟨rfl, rfl⟩, .inl rfl⟩, k46⟩
  have B_kprests := F_kprests.bindsN (ps := ["self"]) fun _ _ _ _ _ _ us hl => match us, hl with | [_], _ => rfl
  have F_kpmarkb : FunD K "mark_between" "Kept.mark_between" (defArgs s_kpmarkb) (defBody s_kpmarkb) (defScope s_kpmarkb) [] [] f47 _ := ⟨⟨oc47, od47, .none, kV47, dc47, pm47, an47, cd47, ct47, sl47, rfl, l47, c47, .inl ⟨rfl, rfl⟩, .inl rfl⟩, k47⟩
  have B_kpmarkb := F_kpmarkb.bindsN (ps := ["self", "first", "last"]) fun _ _ _ _ _ _ us hl => match us, hl with | [_, _, _], _ => rfl
  have F_kpclash : FunD K "clashing" "Kept.clashing" (defArgs s_kpclash) (defBody s_kpclash) (defScope s_kpclash) [] [] f48 _ := ⟨⟨oc48, od48, .none, kV48, dc48, pm48, an48, cd48, ct48, sl48, rfl, l48, c48, .inl ⟨rfl, rfl⟩, .inl rfl⟩, k48⟩
  have B_kpclash := F_kpclash.bindsN (ps := ["self", "length"]) fun _ _ _ _ _ _ us hl => match us, hl with | [_, _], _ => rfl
  have F_kptext : FunD K "text" "Kept.text" (defArgs s_kptext) (defBody s_kptext) (defScope s_kptext) [] [] f49 _ := ⟨⟨oc49, od49, .none, kV49, dc49, pm49, an49, cd49, ct49, sl49, rfl, l49, c49, .inl ⟨rfl, rfl⟩, .inl rfl⟩, k49⟩
  have B_kptext := F_kptext.bindsN (ps := ["self"]) fun _ _ _ _ _ _ us hl => match us, hl with | [_], _ => rfl
  have F_kpmark : FunD K "mark_of" "Kept.mark_of" (defArgs s_kpmark) (defBody s_kpmark) (defScope s_kpmark) [.int 0, .non] [] f50 _ := ⟨⟨oc50, od50, (.ref T50), kV50, dc50, pm50, an50, cd50, ct50, sl50, rfl, l50, c50, .inr ⟨by simp, T50, _, _, _, rfl, t50, rfl, (.cons ⟨_, rfl⟩ (.cons rfl .nil))⟩, .inl rfl⟩, k50⟩
  have HNE : ∀ z ∈ [Cw, Cm, Ck], z ≠ Cp := fun z hz => by
    simp only [List.mem_cons, List.not_mem_nil, or_false] at hz
    rcases hz with rfl | rfl | rfl
    · exact ne_sub npCw ssCp
    · exact ne_sub npCm ssCp
    · exact ne_sub npCk ssCp
  have F_kptwins : FunD K "twin" "Kept.twin" (defArgs s_kptwins) (defBody s_kptwins) (defScope s_kptwins) [] [] f51 _ := ⟨⟨oc51, od51, .none, kV51, dc51, pm51, an51, cd51, ct51, sl51, rfl, l51, c51, .inl ⟨rfl, rfl⟩, .inl rfl⟩, k51⟩
  have B_kptwins := F_kptwins.bindsN (ps := ["self"]) fun _ _ _ _ _ _ us hl => match us, hl with | [_], _ => rfl
  have IDP : IdC K Cp := ⟨ieP, inP, hmCp, ifP⟩
  have F_eqmk : FunD K "__eq__" "Marking.__eq__" (defArgs s_eqmk) (defBody s_eqmk) (defScope s_eqmk) [] [] f52 _ := ⟨⟨oc52, od52, .none, kV52, dc52, pm52, an52, cd52, ct52, sl52, rfl, l52, c52, .inl ⟨rfl, rfl⟩, .inl rfl⟩, k52⟩
  have B_eqmk := F_eqmk.bindsN (ps := ["self", "other"]) fun _ _ _ _ _ _ us hl => match us, hl with | [_, _], _ => rfl
  have F_eqwy : FunD K "__eq__" "Way.__eq__" (defArgs s_eqwy) (defBody s_eqwy) (defScope s_eqwy) [] [] f53 _ := ⟨⟨oc53, od53, .none, kV53, dc53, pm53, an53, cd53, ct53, sl53, rfl, l53, c53, .inl ⟨rfl, rfl⟩, .inl rfl⟩, k53⟩
  have B_eqwy := F_eqwy.bindsN (ps := ["self", "other"]) fun _ _ _ _ _ _ us hl => match us, hl with | [_, _], _ => rfl
  refine ⟨PySem.W.fnOf "law" "law" (defArgs s_law) (defBody s_law) (defScope s_law) .none kV54 dc54 pm54 an54 cd54 ct54, fun s v => .of_eq rfl, fun base _ _ => ?_⟩
  have c_isint := ok_isint (P := l.prog) (w := w) (K := K) (mg := mg) (base := base) F_isint T
  have c_raised := ok_raised (P := l.prog) (w := w) (K := K) (mg := mg) (base := base) F_raised T
  have c_prime := ok_prime (P := l.prog) (w := w) (K := K) (mg := mg) (base := base) F_prime T
  have c_isfac := ok_isfac F_isfac T c_isint c_prime
  have g_modinit := ok_modinit (c := ⟨Cm, Ck, Cw⟩) F_modinit T KX c_isfac c_raised
  have c_modinit : C8.Mak l.prog w K mg base 3 "Modulus" Cm (spModInit ⟨Cm, Ck, Cw⟩) [] := ⟨f31, _, _, _, ⟨mkCm, a31, i31, kcCm⟩, g_modinit, PySem.W.mg_of X G mCm, B_modinit, .nil⟩
  have c_reqmod := ok_reqmod (P := l.prog) (w := w) (K := K) (mg := mg) (base := base) F_reqmod T KX
  have c_istext := ok_istext F_istext T c_isint
  have c_read := ok_read (P := l.prog) (w := w) (K := K) (mg := mg) (base := base) F_read T
  have c_reqtext := ok_reqtext F_reqtext T c_istext c_read
  have g_mkinit := ok_mkinit (c := ⟨Cm, Ck, Cw⟩) F_mkinit T KX c_isint
  obtain ⟨ds0, vds0, bds0⟩ := F_mkinit.binds0 (ps := ["self", "low", "shift", "lead"]) 1 (by simp) rfl (fun _ _ _ _ _ _ us ks h1 h2 => match us, ks, h1, h2 with | [_], [_, _, _], _, _ => ⟨_, _, _, _, _, _, rfl, rfl, ⟨_, _, _, _, _, _, rfl, rfl, ⟨_, _, _, _, _, _, rfl, rfl, rfl⟩⟩⟩)
  have c_mk0 : C8.Mak l.prog w K mg base 2 "Marking" Ck (spMkInit ⟨Cm, Ck, Cw⟩) [.bl false, .int 0, .bl false] := ⟨f32, _, _, ds0, ⟨mkCk, a32, i32, kcCk⟩, g_mkinit, PySem.W.mg_of X G mCk, bds0, vds0⟩
  obtain ⟨mv3, kb3⟩ := F_mkinit.kbinds0 (ps := ["self", "low", "shift", "lead"]) 1 ["low", "shift", "lead"] [] (fun us _ ws => us ++ ws) (by simp) (fun q hq => by cases hq) (fun r1 _ r3 => r1.append r3) (fun _ _ _ _ _ _ us mv ws h1 h2 h3 => match us, ws, h1, h3 with | [_], [_, _, _], _, _ => rfl)
  have c_mk3 : MakK l.prog w K mg base 2 "Marking" Ck ["low", "shift", "lead"] (spMkInit ⟨Cm, Ck, Cw⟩) (fun vs zs => vs ++ zs) := ⟨f32, _, _, _, ⟨mkCk, a32, i32, kcCk⟩, g_mkinit, PySem.W.mg_of X G mCk, kb3⟩
  have g_hf := ok_hf (P := l.prog) (w := w) (base := base) (c := ⟨Cm, Ck, Cw⟩) F_hf T KX
  have c_hf : C8.Met l.prog w K mg base 1 Ck "highest_first" (spHf ⟨Cm, Ck, Cw⟩) [] := ⟨f33, _, _, [], KX.kg.cl, ⟨a33, i33, k33⟩, g_hf, B_hf, .nil⟩
  have c_mkof := ok_mkof F_mkof T KX c_mk0
  have c_restat := ok_restat (P := l.prog) (w := w) (K := K) (mg := mg) (base := base) F_restat T
  have g_way := ok_wayinit (c := ⟨Cm, Ck, Cw⟩) F_wayinit T KX c_isint c_reqmod c_mkof
  obtain ⟨dw2, vw2, bw2⟩ := F_wayinit.binds1 (ps := ["self", "base", "modulus", "marking"]) 3 0 (by simp) rfl (fun _ _ _ _ _ _ _ us its h1 h2 => match us, its, h1, h2 with | [_, _, _], [_], _, _ => ⟨_, rfl, rfl⟩)
  have c_way2 : C8.Mak l.prog w K mg base 5 "Way" Cw (spWayInit ⟨Cm, Ck, Cw⟩) [.non] := ⟨f34, _, _, dw2, ⟨mkCw, a34, i34, kcCw⟩, g_way, PySem.W.mg_of X G mCw, bw2, vw2⟩
  obtain ⟨dw3, vw3, bw3⟩ := F_wayinit.binds1 (ps := ["self", "base", "modulus", "marking"]) 4 1 (by simp) rfl (fun _ _ _ _ _ _ _ us its h1 h2 => match us, its, h1, h2 with | [_, _, _, _], [_], _, _ => ⟨_, rfl, rfl⟩)
  have c_way3 : C8.Mak l.prog w K mg base 5 "Way" Cw (spWayInit ⟨Cm, Ck, Cw⟩) [] := ⟨f34, _, _, dw3, ⟨mkCw, a34, i34, kcCw⟩, g_way, PySem.W.mg_of X G mCw, bw3, vw3⟩
  have g_ofl := ok_ofl (c := ⟨Cm, Ck, Cw⟩) F_ofl T KX c_restat c_hf
  have c_ofl : C8.Met l.prog w K mg base 2 Cw "of_letters" (spOfLetters ⟨Cm, Ck, Cw⟩) [] := ⟨f35, _, _, [], KX.wy.cl, ⟨a35, i35, k35⟩, g_ofl, B_ofl, .nil⟩
  have g_call := ok_call (c := ⟨Cm, Ck, Cw⟩) F_call T KX c_reqtext c_ofl
  have c_callO : CalO l.prog w K mg base 4 Cw (spMarkOf ⟨Cm, Ck, Cw⟩) := ⟨f36, ⟨a36, i36, fi36⟩, (g_call.raw B_call .nil).imp fun vs H Q E h => by rw [List.append_nil]; exact h⟩
  have c_reqway := ok_reqway (P := l.prog) (w := w) (K := K) (mg := mg) (base := base) F_reqway T KX
  have c_mixed := ok_mixed (P := l.prog) (w := w) (K := K) (mg := mg) (base := base) F_mixed T
  have c_purse := ok_purse (P := l.prog) (w := w) (K := K) (mg := mg) (base := base) F_purse T
  have c_draw := ok_draw F_draw T c_mixed
  have c_great := ok_great F_great T c_draw
  have c_style := ok_style F_style T c_draw c_great
  have c_marking := ok_marking (ca := ⟨Cm, Ck, Cw⟩) F_marking T c_mk3
  have c_root := ok_root F_root T c_draw c_great
  have c_letters := ok_letters (P := l.prog) (w := w) (K := K) (mg := mg) (base := base) F_letters T
  have g_eqmk := ok_eqmk (P := l.prog) (w := w) (base := base) (c := ⟨Cm, Ck, Cw⟩) F_eqmk T KX
  have q_eqmk : EqO l.prog w K mg base 1 Ck (spEqMk K ⟨Cm, Ck, Cw⟩) := ⟨f52, _, _, a52, i52, neCk, hmCk, g_eqmk, B_eqmk⟩
  have g_eqwy := ok_eqwy (c := ⟨Cm, Ck, Cw⟩) F_eqwy T KX q_eqmk
  have q_eqwy : EqO l.prog w K mg base 3 Cw (spEqWy K ⟨Cm, Ck, Cw⟩) := ⟨f53, _, _, a53, i53, neCw, hmCw, g_eqwy, B_eqwy⟩
  have c_power := ok_power (P := l.prog) (w := w) (K := K) (mg := mg) (base := base) F_power T
  have c_reqlen := ok_reqlen F_reqlen T c_isint
  have c_reqplace := ok_reqplace F_reqplace T c_isint
  have c_reqletter := ok_reqletter F_reqletter T c_isint
  have g_kpinit := ok_kpinit (c := ⟨Cm, Ck, Cw⟩) F_kpinit T KX KP HNE c_reqtext c_reqway
  have c_kp2 : C8.Mak l.prog w K mg base 4 "Kept" Cp (spKnInit ⟨Cm, Ck, Cw⟩ Cp) [] := ⟨f37, _, _, _, ⟨mkCp, a37, i37, kcCp⟩, g_kpinit, PySem.W.mg_of X G mCp, B_kpinit, .nil⟩
  have g_kptext := ok_kptext (P := l.prog) (w := w) (base := base) (c := ⟨Cm, Ck, Cw⟩) F_kptext T KP
  have p_text : PropM l.prog w K mg base L2.CX0 1 Cp "text" (spKpText ⟨Cm, Ck, Cw⟩ Cp) := ⟨Pt, f49, _, _, KP.kp.cl, ⟨a49, pgP, ptP, _, prP⟩, g_kptext, B_kptext⟩
  have g_kplen := ok_kplen (P := l.prog) (w := w) (base := base) (c := ⟨Cm, Ck, Cw⟩) F_kplen T KP
  have o_kp_len : OwnM l.prog w K mg base L2.CX0 1 Cp "__len__" (spKpLen ⟨Cm, Ck, Cw⟩ Cp) := ⟨f38, _, _, a38, i38, fi38, g_kplen, B_kplen⟩
  have g_kpput := ok_kpput (P := l.prog) (w := w) (base := base) (c := ⟨Cm, Ck, Cw⟩) F_kpput T KP HNE
  have c_kpput : C8.Met l.prog w K mg base 1 Cp "put" (spKpPut ⟨Cm, Ck, Cw⟩ Cp) [] := ⟨f39, _, _, [], KP.kp.cl, ⟨a39, i39, k39⟩, g_kpput, B_kpput, .nil⟩
  have g_kpget := ok_kpget (c := ⟨Cm, Ck, Cw⟩) F_kpget T KP c_reqplace
  have o_kp_get : OwnM l.prog w K mg base L2.CX0 3 Cp "__getitem__" (spKnGet ⟨Cm, Ck, Cw⟩ Cp) := ⟨f40, _, _, a40, i40, fi40, g_kpget, B_kpget⟩
  have g_kpset := ok_kpset (c := ⟨Cm, Ck, Cw⟩) F_kpset T KP c_reqplace c_reqletter c_kpput
  have o_kp_set : OwnM l.prog w K mg base L2.CX0 3 Cp "__setitem__" (spKnSet ⟨Cm, Ck, Cw⟩ Cp) := ⟨f41, _, _, a41, i41, fi41, g_kpset, B_kpset⟩
  have g_kpiadd := ok_kpiadd (c := ⟨Cm, Ck, Cw⟩) F_kpiadd T KP c_reqtext c_kpput
  have o_kp_iadd : OwnM l.prog w K mg base L2.CX0 4 Cp "__iadd__" (spKnIadd ⟨Cm, Ck, Cw⟩ Cp) := ⟨f42, _, _, a42, i42, fi42, g_kpiadd, B_kpiadd⟩
  have g_kpstr := ok_kpstr (c := ⟨Cm, Ck, Cw⟩) F_kpstr T KP c_reqplace
  have c_kpstr : C8.Met l.prog w K mg base 3 Cp "require_stretch" (spKnStr ⟨Cm, Ck, Cw⟩ Cp) [] := ⟨f43, _, _, [], KP.kp.cl, ⟨a43, i43, k43⟩, g_kpstr, B_kpstr, .nil⟩
  have g_kpchange := ok_kpchange (c := ⟨Cm, Ck, Cw⟩) F_kpchange T KP c_reqtext c_kpstr c_kpput
  have c_kpchange : C8.Met l.prog w K mg base 4 Cp "change" (spKnChange ⟨Cm, Ck, Cw⟩ Cp) [] := ⟨f44, _, _, [], KP.kp.cl, ⟨a44, i44, k44⟩, g_kpchange, B_kpchange, .nil⟩
  have g_kprests := ok_kprests (P := l.prog) (w := w) (base := base) (c := ⟨Cm, Ck, Cw⟩) F_kprests T KX KP HNE
  have c_kprests : C8.Met l.prog w K mg base 1 Cp "rests_of_ends" (spKpRests ⟨Cm, Ck, Cw⟩ Cp) [] := ⟨f46, _, _, [], KP.kp.cl, ⟨a46, i46, k46⟩, g_kprests, B_kprests, .nil⟩
  have g_kpmarkb := ok_kpmarkb (c := ⟨Cm, Ck, Cw⟩) F_kpmarkb T KX KP c_power c_kprests
  have c_kpmarkb : C8.Met l.prog w K mg base 2 Cp "mark_between" (spKpMarkB ⟨Cm, Ck, Cw⟩ Cp) [] := ⟨f47, _, _, [], KP.kp.cl, ⟨a47, i47, k47⟩, g_kpmarkb, B_kpmarkb, .nil⟩
  have g_kpmark := ok_kpmark (c := ⟨Cm, Ck, Cw⟩) F_kpmark T KX KP c_kpstr c_kpmarkb
  obtain ⟨dm0, vm0, bm0⟩ := F_kpmark.binds1 (ps := ["self", "first", "last"]) 1 0 (by simp) rfl (fun _ _ _ _ _ _ _ us its h1 h2 => match us, its, h1, h2 with | [_], [_, _], _, _ => ⟨_, rfl, rfl⟩)
  have c_kpmark0 : C8.Met l.prog w K mg base 4 Cp "mark_of" (spKnMark ⟨Cm, Ck, Cw⟩ Cp) [.int 0, .non] := ⟨f50, _, _, dm0, KP.kp.cl, ⟨a50, i50, k50⟩, g_kpmark, bm0, vm0⟩
  obtain ⟨dm1, vm1, bm1⟩ := F_kpmark.binds1 (ps := ["self", "first", "last"]) 2 1 (by simp) rfl (fun _ _ _ _ _ _ _ us its h1 h2 => match us, its, h1, h2 with | [_, _], [_, _], _, _ => ⟨_, rfl, rfl⟩)
  have c_kpmark1 : C8.Met l.prog w K mg base 4 Cp "mark_of" (spKnMark ⟨Cm, Ck, Cw⟩ Cp) [.non] := ⟨f50, _, _, dm1, KP.kp.cl, ⟨a50, i50, k50⟩, g_kpmark, bm1, vm1⟩
  obtain ⟨dm2, vm2, bm2⟩ := F_kpmark.binds1 (ps := ["self", "first", "last"]) 3 2 (by simp) rfl (fun _ _ _ _ _ _ _ us its h1 h2 => match us, its, h1, h2 with | [_, _, _], [_, _], _, _ => ⟨_, rfl, rfl⟩)
  have c_kpmark2 : C8.Met l.prog w K mg base 4 Cp "mark_of" (spKnMark ⟨Cm, Ck, Cw⟩ Cp) [] := ⟨f50, _, _, dm2, KP.kp.cl, ⟨a50, i50, k50⟩, g_kpmark, bm2, vm2⟩
  have g_kpclash := ok_kpclash (c := ⟨Cm, Ck, Cw⟩) F_kpclash T KX KP c_reqlen (metF (metF c_kpmarkb))
  have c_kpclash : C8.Met l.prog w K mg base 3 Cp "clashing" (spKnClash ⟨Cm, Ck, Cw⟩ Cp) [] := ⟨f48, _, _, [], KP.kp.cl, ⟨a48, i48, k48⟩, g_kpclash, B_kpclash, .nil⟩
  have g_kpundo := ok_kpundo (P := l.prog) (w := w) (base := base) (c := ⟨Cm, Ck, Cw⟩) F_kpundo T KP HNE
  have c_kpundo : C8.Met l.prog w K mg base 1 Cp "undo" (spKnUndo ⟨Cm, Ck, Cw⟩ Cp) [] := ⟨f45, _, _, [], KP.kp.cl, ⟨a45, i45, k45⟩, g_kpundo, B_kpundo, .nil⟩
  have g_kptwins := ok_kptwins (c := ⟨Cm, Ck, Cw⟩) F_kptwins T KX KP c_kp2
  have c_kptwins : C8.Met l.prog w K mg base 6 Cp "twin" (spKnTwinS ⟨Cm, Ck, Cw⟩ Cp) [] := ⟨f51, _, _, [], KP.kp.cl, ⟨a51, i51, k51⟩, g_kptwins, B_kptwins, .nil⟩
  have g_kpiaddS := ok_kpiaddS (c := ⟨Cm, Ck, Cw⟩) F_kpiadd T KP c_reqtext (metF c_kpput)
  have o_kp_iaddB : OwnM l.prog w K mg base L2.CX0 4 Cp "__iadd__" (spIaddB ⟨Cm, Ck, Cw⟩ Cp) := ⟨f42, _, _, a42, i42, fi42, FnOk.or g_kpiadd g_kpiaddS, B_kpiadd⟩
  have g_kpchangeS := ok_kpchangeS (c := ⟨Cm, Ck, Cw⟩) F_kpchange T KP c_reqtext c_kpstr (metF c_kpput)
  have c_kpchangeB : C8.Met l.prog w K mg base 4 Cp "change" (spChangeB ⟨Cm, Ck, Cw⟩ Cp) [] := ⟨f44, _, _, [], KP.kp.cl, ⟨a44, i44, k44⟩, FnOk.or g_kpchange g_kpchangeS, B_kpchange, .nil⟩
  have c_kpchangeK : MetK l.prog w K mg base 4 Cp "change" 0 ["text", "last", "first"] (spKnChange ⟨Cm, Ck, Cw⟩ Cp) (fun vs zs => vs ++ zs.reverse) := ⟨f44, _, _, fun us ws => us ++ ws.reverse, KP.kp.cl, ⟨a44, i44, k44⟩, g_kpchange, ⟨fun s us ws _ h1 h2 => .of_eq (match us, ws, h1, h2 with | [_], [_, _, _], _, _ => rfl), fun r1 r2 => r1.append (vals_rev r2)⟩⟩
  have c_kpclashK : MetK l.prog w K mg base 3 Cp "clashing" 0 ["length"] (spKnClash ⟨Cm, Ck, Cw⟩ Cp) (fun vs zs => vs ++ zs) := ⟨f48, _, _, fun us ws => us ++ ws, KP.kp.cl, ⟨a48, i48, k48⟩, g_kpclash, ⟨fun s us ws _ h1 h2 => .of_eq (match us, ws, h1, h2 with | [_], [_], _, _ => rfl), fun r1 r2 => r1.append r2⟩⟩
  obtain ⟨itM, kbM⟩ := F_kpmark.kbindsD (ps := ["self", "first", "last"]) 1 ["last", "first"] (fun us _ ws => us ++ ws.reverse) (by simp) (fun r1 _ r3 => r1.append (vals_rev r3)) (fun _ _ _ _ _ _ _ us its ws h1 h2 h3 => match us, its, ws, h1, h2, h3 with | [_], [_, _], [_, _], _, _, _ => ⟨_, rfl, rfl⟩)
  have c_kpmarkK : MetK l.prog w K mg base 4 Cp "mark_of" 0 ["last", "first"] (spKnMark ⟨Cm, Ck, Cw⟩ Cp) (fun vs zs => vs ++ zs.reverse) := ⟨f50, _, _, _, KP.kp.cl, ⟨a50, i50, k50⟩, g_kpmark, kbM⟩
  have c_kp2K : MakK l.prog w K mg base 4 "Kept" Cp ["way", "text"] (spKnInit ⟨Cm, Ck, Cw⟩ Cp) (fun vs zs => vs ++ zs.reverse) := ⟨f37, _, _, fun us ws => us ++ ws.reverse, ⟨mkCp, a37, i37, kcCp⟩, g_kpinit, PySem.W.mg_of X G mCp, ⟨fun s us ws _ h1 h2 => .of_eq (match us, ws, h1, h2 with | [_], [_, _], _, _ => rfl), fun r1 r2 => r1.append (vals_rev r2)⟩⟩
  have c_mod9 := ok_mod9 F_mod9 T c_draw
  have c_sum := ok_sum (P := l.prog) (w := w) (K := K) (mg := mg) (base := base) F_sum T
  have c_some := ok_some F_some T c_draw
  have c_clsh := ok_clsh F_clsh T c_sum
  have c_agr := ok_agr F_agr T KX KP c_draw c_callO c_sum c_clsh o_kp_len o_kp_get p_text (metF c_kpmark2) (metF c_kpmark1) (metF c_kpmark0) (metF c_kpclash) (metKF c_kpclashK) (metKF c_kpmarkK)
  have c_deed := ok_deed F_deed T KX KP nqCp sfCp c_draw c_some c_letters (ownH o_kp_set) (ownH o_kp_iaddB) (metH c_kpundo) (metH c_kpchangeB)
  have c_right := ok_right F_right T KX KP HNE IDP q_eqwy c_draw c_mod9 c_root c_style c_marking c_modinit c_way3 (makF c_kp2) c_some c_letters p_text (metH c_kptwins) (metH c_kpundo) (calH c_deed) (calH c_agr)
  exact ok_law (fun_mk (st := s_law) l54 c54 k54) T KX KP IDP nqCp sfCp c_purse c_right c_modinit c_way2 c_kp2 c_kp2K c_kpchangeK p_text c_kpmark0 o_kp_set o_kp_iadd c_kpundo
theorem walk {l : PySem.W.OpenLaw} {q : Program} {loose : List Str} {XP : (Str → Option Value) → Heap → Prop} {YP : World → Heap → Prop} {d : DefRec} {K : Params → PySem.W.Frag} (hn : l.most = some 63) (hdf : d.params.defaults = [])
    (hY : ∀ (w : World) (h : Heap), YP w h → (K w.params).In h)
    (F : ∀ (w : World) (mg : Str → Option Value) (fa : Addr) (h : Heap), (K w.params).In h → h.Ns mainGlobals mg → mg d.name = some (.ref fa) →
      ∃ fd : FuncData, (∀ (s : Shared) (u : Value), BindsTo s fd ⟨[u], []⟩ [("_law_script", u)]) ∧ ∀ base : Heap, (K w.params).In base → base.Ns mainGlobals mg → FnOk l.prog w (K w.params) mg base L2.CX0 9 fa fd ["_law_script"] (spLaw (K w.params))) :
    PySem.W.WalkO q loose XP YP l.row.toRowW d [] (fun f vs => PySem.call f vs) :=
  L2.walk_of (n := 63) (k := 9) (x := "_law_script") (CX := fun _ => L2.CX0) (sp := fun w => spLaw (K w.params)) hn (by decide) hdf ⟨rfl, by decide, by decide⟩ hY F (fun _ _ a ns hl _ hS => ⟨a, ns, rfl, hS, hl, fun _ => rfl⟩) fun _ _ _ _ _ z => z
end Lw
open PySem PySem.W PyProof.Rows in
set_option maxRecDepth 100000 in
set_option maxHeartbeats 0 in
theorem PySem.Challenge.cw_baseclash_k87_kept_texts_holds : PySem.Challenge.rw_baseclash_k87_kept_texts.Holds := by
  w_on; o_law; k_head; (case hw => w_witness2)
  k_fill
  refine Lw.walk (l := PySem.Challenge.rw_baseclash_k87_kept_texts) rfl rfl (fun w h Y => PySem.W.kIn_of Y) ?F
  case F =>
    intro w mg fa h KX G hmg
    refine' Lw.all_mk KX G hmg ?z_len ?z_int ?z_abs ?z_max ?z_min ?z_range ?z_isinstance ?z_list ?z_tuple ?z_str ?z_bool ?z_ord ?z_all ?z_enumerate ?z_zip ?mCm ?pgCm ?hdCm ?poCm ?saCm ?haCm ?hmCm ?mkCm ?kcCm ?objhn ?objht ?mCk ?pgCk ?hdCk ?poCk ?saCk ?haCk ?hmCk ?mkCk ?kcCk ?mCw ?pgCw ?hdCw ?poCw ?saCw ?haCw ?hmCw ?mkCw ?kcCw ?nCm_number ?nCm_factors ?nCk_low ?nCk_shift ?nCk_lead ?nCw_marking ?nCw_modulus ?nCw_number ?nCw_base ?a1 ?l1 ?c1 ?k1 ?a2 ?l2 ?c2 ?k2 ?a3 ?l3 ?c3 ?k3 ?a4 ?l4 ?c4 ?k4 ?a5 ?l5 ?c5 ?k5 ?a6 ?l6 ?c6 ?k6 ?a7 ?l7 ?c7 ?k7 ?a8 ?l8 ?c8 ?k8 ?a9 ?l9 ?c9 ?k9 ?a10 ?l10 ?c10 ?k10 ?a11 ?l11 ?c11 ?k11 ?a12 ?l12 ?c12 ?k12 ?a13 ?l13 ?c13 ?k13 ?a14 ?l14 ?c14 ?k14 ?a15 ?l15 ?c15 ?k15 ?a16 ?l16 ?c16 ?k16 ?a17 ?l17 ?c17 ?k17 ?a18 ?l18 ?c18 ?k18 ?a19 ?l19 ?c19 ?k19 ?a20 ?l20 ?c20 ?k20 ?a21 ?l21 ?c21 ?k21 ?a22 ?l22 ?c22 ?k22 ?a23 ?l23 ?c23 ?k23 ?a24 ?l24 ?c24 ?k24 ?a25 ?l25 ?c25 ?k25 ?a26 ?l26 ?c26 ?k26 ?a27 ?l27 ?c27 ?k27 ?a28 ?l28 ?c28 ?k28 ?a29 ?l29 ?c29 ?k29 ?a30 ?l30 ?c30 ?k30 ?a31 ?i31 ?l31 ?c31 ?k31 ?a32 ?i32 ?l32 ?c32 ?k32 ?d32_0 ?d32_1 ?d32_2 ?a33 ?i33 ?l33 ?c33 ?k33 ?a34 ?i34 ?l34 ?c34 ?k34 ?t34 ?a35 ?i35 ?l35 ?c35 ?k35 ?a36 ?i36 ?l36 ?c36 ?k36 ?mCp ?pgCp ?hdCp ?poCp ?saCp ?haCp ?hmCp ?mkCp ?kcCp ?nCp_letters ?nCp_way ?nCp_past ?nCp_rests ?a37 ?i37 ?l37 ?c37 ?k37 ?a38 ?i38 ?l38 ?c38 ?k38 ?a39 ?i39 ?l39 ?c39 ?k39 ?a40 ?i40 ?l40 ?c40 ?k40 ?a41 ?i41 ?l41 ?c41 ?k41 ?a42 ?i42 ?l42 ?c42 ?k42 ?a43 ?i43 ?l43 ?c43 ?k43 ?a44 ?i44 ?l44 ?c44 ?k44 ?a45 ?i45 ?l45 ?c45 ?k45 ?a46 ?i46 ?l46 ?c46 ?k46 ?a47 ?i47 ?l47 ?c47 ?k47 ?a48 ?i48 ?l48 ?c48 ?k48 ?a49 ?pgP ?ptP ?prP ?l49 ?c49 ?k49 ?a50 ?i50 ?l50 ?c50 ?k50 ?t50 ?ssCp ?npCw ?npCm ?npCk ?a51 ?i51 ?l51 ?c51 ?k51 ?nqCp ?sfCp ?ieP ?inP ?ifP ?a52 ?i52 ?l52 ?c52 ?k52 ?neCk ?a53 ?i53 ?l53 ?c53 ?k53 ?neCw ?a54 ?l54 ?c54 ?k54 ?fi36 ?fi38 ?fi40 ?fi41 ?fi42
    (case z_len => k_is)
    (case z_int => k_is)
    (case z_abs => k_is)
    (case z_max => k_is)
    (case z_min => k_is)
    (case z_range => k_is)
    (case z_isinstance => k_is)
    (case z_list => k_is)
    (case z_tuple => k_is)
    (case z_str => k_is)
    (case z_bool => k_is)
    (case z_ord => k_is)
    (case z_all => k_is)
    (case z_enumerate => k_is)
    (case z_zip => k_is)
    (case mCm => k_is)
    (case pgCm => k_is)
    (case hdCm => k_is)
    (case poCm => k_is)
    (case saCm => k_is)
    (case haCm => k_is)
    (case hmCm => k_is)
    (case mkCm => k_is)
    (case kcCm => k_is)
    (case objhn => k_is)
    (case objht => k_is)
    (case mCk => k_is)
    (case pgCk => k_is)
    (case hdCk => k_is)
    (case poCk => k_is)
    (case saCk => k_is)
    (case haCk => k_is)
    (case hmCk => k_is)
    (case mkCk => k_is)
    (case kcCk => k_is)
    (case mCw => k_is)
    (case pgCw => k_is)
    (case hdCw => k_is)
    (case poCw => k_is)
    (case saCw => k_is)
    (case haCw => k_is)
    (case hmCw => k_is)
    (case mkCw => k_is)
    (case kcCw => k_is)
    (case nCm_number => k_is)
    (case nCm_factors => k_is)
    (case nCk_low => k_is)
    (case nCk_shift => k_is)
    (case nCk_lead => k_is)
    (case nCw_marking => k_is)
    (case nCw_modulus => k_is)
    (case nCw_number => k_is)
    (case nCw_base => k_is)
    (case a1 => k_is)
    (case l1 => k_is)
    (case c1 => k_is)
    (case k1 => k_is)
    (case a2 => k_is)
    (case l2 => k_is)
    (case c2 => k_is)
    (case k2 => k_is)
    (case a3 => k_is)
    (case l3 => k_is)
    (case c3 => k_is)
    (case k3 => k_is)
    (case a4 => k_is)
    (case l4 => k_is)
    (case c4 => k_is)
    (case k4 => k_is)
    (case a5 => k_is)
    (case l5 => k_is)
    (case c5 => k_is)
    (case k5 => k_is)
    (case a6 => k_is)
    (case l6 => k_is)
    (case c6 => k_is)
    (case k6 => k_is)
    (case a7 => k_is)
    (case l7 => k_is)
    (case c7 => k_is)
    (case k7 => k_is)
    (case a8 => k_is)
    (case l8 => k_is)
    (case c8 => k_is)
    (case k8 => k_is)
    (case a9 => k_is)
    (case l9 => k_is)
    (case c9 => k_is)
    (case k9 => k_is)
    (case a10 => k_is)
    (case l10 => k_is)
    (case c10 => k_is)
    (case k10 => k_is)
    (case a11 => k_is)
    (case l11 => k_is)
    (case c11 => k_is)
    (case k11 => k_is)
    (case a12 => k_is)
    (case l12 => k_is)
    (case c12 => k_is)
    (case k12 => k_is)
    (case a13 => k_is)
    (case l13 => k_is)
    (case c13 => k_is)
    (case k13 => k_is)
    (case a14 => k_is)
    (case l14 => k_is)
    (case c14 => k_is)
    (case k14 => k_is)
    (case a15 => k_is)
    (case l15 => k_is)
    (case c15 => k_is)
    (case k15 => k_is)
    (case a16 => k_is)
    (case l16 => k_is)
    (case c16 => k_is)
    (case k16 => k_is)
    (case a17 => k_is)
    (case l17 => k_is)
    (case c17 => k_is)
    (case k17 => k_is)
    (case a18 => k_is)
    (case l18 => k_is)
    (case c18 => k_is)
    (case k18 => k_is)
    (case a19 => k_is)
    (case l19 => k_is)
    (case c19 => k_is)
    (case k19 => k_is)
    (case a20 => k_is)
    (case l20 => k_is)
    (case c20 => k_is)
    (case k20 => k_is)
    (case a21 => k_is)
    (case l21 => k_is)
    (case c21 => k_is)
    (case k21 => k_is)
    (case a22 => k_is)
    (case l22 => k_is)
    (case c22 => k_is)
    (case k22 => k_is)
    (case a23 => k_is)
    (case l23 => k_is)
    (case c23 => k_is)
    (case k23 => k_is)
    (case a24 => k_is)
    (case l24 => k_is)
    (case c24 => k_is)
    (case k24 => k_is)
    (case a25 => k_is)
    (case l25 => k_is)
    (case c25 => k_is)
    (case k25 => k_is)
    (case a26 => k_is)
    (case l26 => k_is)
    (case c26 => k_is)
    (case k26 => k_is)
    (case a27 => k_is)
    (case l27 => k_is)
    (case c27 => k_is)
    (case k27 => k_is)
    (case a28 => k_is)
    (case l28 => k_is)
    (case c28 => k_is)
    (case k28 => k_is)
    (case a29 => k_is)
    (case l29 => k_is)
    (case c29 => k_is)
    (case k29 => k_is)
    (case a30 => k_is)
    (case l30 => k_is)
    (case c30 => k_is)
    (case k30 => k_is)
    (case a31 => k_is)
    (case i31 => k_is)
    (case l31 => k_is)
    (case c31 => k_is)
    (case k31 => k_is)
    (case a32 => k_is)
    (case i32 => k_is)
    (case l32 => k_is)
    (case c32 => k_is)
    (case k32 => k_is)
    (case d32_0 => k_is)
    (case d32_1 => k_is)
    (case d32_2 => k_is)
    (case a33 => k_is)
    (case i33 => k_is)
    (case l33 => k_is)
    (case c33 => k_is)
    (case k33 => k_is)
    (case a34 => k_is)
    (case i34 => k_is)
    (case l34 => k_is)
    (case c34 => k_is)
    (case k34 => k_is)
    (case t34 => k_is)
    (case a35 => k_is)
    (case i35 => k_is)
    (case l35 => k_is)
    (case c35 => k_is)
    (case k35 => k_is)
    (case a36 => k_is)
    (case i36 => k_is)
    (case l36 => k_is)
    (case c36 => k_is)
    (case k36 => k_is)
    (case mCp => k_is)
    (case pgCp => k_is)
    (case hdCp => k_is)
    (case poCp => k_is)
    (case saCp => k_is)
    (case haCp => k_is)
    (case hmCp => k_is)
    (case mkCp => k_is)
    (case kcCp => k_is)
    (case nCp_letters => k_is)
    (case nCp_way => k_is)
    (case nCp_past => k_is)
    (case nCp_rests => k_is)
    (case a37 => k_is)
    (case i37 => k_is)
    (case l37 => k_is)
    (case c37 => k_is)
    (case k37 => k_is)
    (case a38 => k_is)
    (case i38 => k_is)
    (case l38 => k_is)
    (case c38 => k_is)
    (case k38 => k_is)
    (case a39 => k_is)
    (case i39 => k_is)
    (case l39 => k_is)
    (case c39 => k_is)
    (case k39 => k_is)
    (case a40 => k_is)
    (case i40 => k_is)
    (case l40 => k_is)
    (case c40 => k_is)
    (case k40 => k_is)
    (case a41 => k_is)
    (case i41 => k_is)
    (case l41 => k_is)
    (case c41 => k_is)
    (case k41 => k_is)
    (case a42 => k_is)
    (case i42 => k_is)
    (case l42 => k_is)
    (case c42 => k_is)
    (case k42 => k_is)
    (case a43 => k_is)
    (case i43 => k_is)
    (case l43 => k_is)
    (case c43 => k_is)
    (case k43 => k_is)
    (case a44 => k_is)
    (case i44 => k_is)
    (case l44 => k_is)
    (case c44 => k_is)
    (case k44 => k_is)
    (case a45 => k_is)
    (case i45 => k_is)
    (case l45 => k_is)
    (case c45 => k_is)
    (case k45 => k_is)
    (case a46 => k_is)
    (case i46 => k_is)
    (case l46 => k_is)
    (case c46 => k_is)
    (case k46 => k_is)
    (case a47 => k_is)
    (case i47 => k_is)
    (case l47 => k_is)
    (case c47 => k_is)
    (case k47 => k_is)
    (case a48 => k_is)
    (case i48 => k_is)
    (case l48 => k_is)
    (case c48 => k_is)
    (case k48 => k_is)
    (case a49 => k_is)
    (case pgP => k_is)
    (case ptP => k_is)
    (case prP => k_is)
    (case l49 => k_is)
    (case c49 => k_is)
    (case k49 => k_is)
    (case a50 => k_is)
    (case i50 => k_is)
    (case l50 => k_is)
    (case c50 => k_is)
    (case k50 => k_is)
    (case t50 => k_is)
    (case ssCp => k_is)
    (case npCw => k_is)
    (case npCm => k_is)
    (case npCk => k_is)
    (case a51 => k_is)
    (case i51 => k_is)
    (case l51 => k_is)
    (case c51 => k_is)
    (case k51 => k_is)
    (case nqCp => k_is)
    (case sfCp => k_is)
    (case ieP => k_is)
    (case inP => k_is)
    (case ifP => k_is)
    (case a52 => k_is)
    (case i52 => k_is)
    (case l52 => k_is)
    (case c52 => k_is)
    (case k52 => k_is)
    (case neCk => k_is)
    (case a53 => k_is)
    (case i53 => k_is)
    (case l53 => k_is)
    (case c53 => k_is)
    (case k53 => k_is)
    (case neCw => k_is)
    (case a54 => k_is)
    (case l54 => k_is)
    (case c54 => k_is)
    (case k54 => k_is)
    (case fi36 => k_is)
    (case fi38 => k_is)
    (case fi40 => k_is)
    (case fi41 => k_is)
    (case fi42 => k_is)
