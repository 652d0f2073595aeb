import PyProof.Rows.All
import Wide.All
import OpenK.AllK
import Wide.FinOn
import HandS.ForMost
import HandS.Codes
import HandS.Style
import HandS.Flow
import HandS.Wide
import HandS.WideBits
import HandS.Defaults
import HandS.MakeKwOnly
import HandS.MakeKw
import HandS.Star
import HandS.IsInst
import HandS.Steps
import HandS.Walk
import HandS.Conv
import HandS.NoneIn
import HandS.Exc
import HandS.ExcOwn
import HandS.ExcInit
import HandS.ExcField
import HandS.CallSlots
import HandS.TryOnly
import HandS.TryMany
import HandS.WordsExc
import HandS.SetFor
import HandS.Set
import PyProof.Rows.SetFrom
import HandS.ExcValue
import HandS.ExcIs
import HandS.Deep
import HandS.TupSets
import HandS.SetKeys
import HandS.Dict
import HandS.TupAny
import PySem.Challenge.RW_baseclash_k63_counted_texts
set_option Elab.async false
set_option maxRecDepth 100000
set_option linter.all false
/-! Steps of the readings, one lemma a head; heaps that keep what they hold but for one place; relations by name. -/
namespace Bc
open PySem PySem.Spec PyProof.Rows L2

/-! ### relations by name -/
section
variable {X : Cx}
def rLen (K : PySem.W.Frag) : List V → Hp → VK → Prop := fun xs H Q => ∃ p ys, xs = [.ref p] ∧ (SqL K H p ys ∨ SqT K H p ys) ∧ Q (.int ys.length) H
theorem cLen : CallR X (.builtin "len") (rLen X.K) := call_len_seq
def rLenS : List V → Hp → VK → Prop := fun xs H Q => ∃ x, xs = [.str x] ∧ x.length ≤ sizeLine ∧ Q (.int x.length) H
theorem cLenS : CallR X (.builtin "len") rLenS := call_len_str
def rAbs : List V → Hp → VK → Prop := fun xs H Q => ∃ i, xs = [.int i] ∧ Q (.int (if i < 0 then -i else i)) H
theorem cAbs : CallR X (.builtin "abs") rAbs := call_abs
def rMax2 : List V → Hp → VK → Prop := fun xs H Q => ∃ i j, xs = [.int i, .int j] ∧ Q (.int (if j > i then j else i)) H
theorem cMax2 (hc : X.calm = true) : CallR X (.builtin "max") rMax2 := call_max2 hc
def rMin2 : List V → Hp → VK → Prop := fun xs H Q => ∃ i j, xs = [.int i, .int j] ∧ Q (.int (if j < i then j else i)) H
theorem cMin2 (hc : X.calm = true) : CallR X (.builtin "min") rMin2 := call_min2 hc
def rInt1 : List V → Hp → VK → Prop := fun xs H Q => (∃ i, xs = [.int i] ∧ Q (.int i) H) ∨ ∃ k, xs = [.bl k] ∧ Q (.int (if k then 1 else 0)) H
theorem cInt1 : CallR X (.type "int") rInt1 := call_int1
def rOrd : List V → Hp → VK → Prop := fun xs H Q => ∃ x, xs = [.str x] ∧ x.length = 1 ∧ Q (.int (x.cps.getD 0 0 : Nat)) H
theorem cOrd : CallR X (.builtin "ord") rOrd := call_ord
def rListOf (K : PySem.W.Frag) : List V → Hp → VK → Prop := fun xs H Q => ∃ p ys, xs = [.ref p] ∧ (SqL K H p ys ∨ SqT K H p ys) ∧ ∀ l, H l = none → Q (.ref l) (upd H l (.lst ys))
theorem cListOf : CallR X (.type "list") (rListOf X.K) := call_list_of
def rTupOf (K : PySem.W.Frag) : List V → Hp → VK → Prop := fun xs H Q => ∃ p ys, xs = [.ref p] ∧ ((SqL K H p ys ∧ ∀ l, H l = none → Q (.ref l) (upd H l (.tup ys))) ∨ (SqT K H p ys ∧ Q (.ref p) H))
theorem cTupOf : CallR X (.type "tuple") (rTupOf X.K) := call_tuple_of
def rLeS : R2 := fun x y H Q => ∃ i j, x = .str i ∧ y = .str j ∧ Q (.bl (!decide (j.cps.toList < i.cps.toList))) H
theorem oLeS : OpR X (compareOp .LtE) rLeS := op_le_str
def CPowW (i j : Int) : Prop := 0 ≤ j ∧ (Builtin.Int.intBits i : Int) * j ≤ 2 ^ 27
theorem oPowW : OpR X (binaryOp .Pow) (rI CPowW fun i j => .int (i ^ j.toNat)) := opI fun _ _ _ _ _ _ _ hc q => PyProof.Rows.pow_int hc.1 hc.2 q
end

/-! ### steps -/
section
variable {σ : L2.St} {H : Hp} {D : Ends} {Q : VK} {QT : Bool → Hp → Prop} {QA : List V → Hp → Prop} {K : PySem.W.Frag} {te ta tb tc : TE} {t u : TS} {tt tu : TT} {as : TA} {i j : Nat} {v x y : V} {a b n m : Int}

/-- a continuation kept apart -/
def atV (Q : VK) (v : V) (H : Hp) : Prop := Q v H
theorem w_atV (q : Q v H) : atV Q v H := q
theorem w_var (h : σ[i]? = some (some v)) (q : Q v H) : tVar i σ H Q := ⟨v, h, q⟩
theorem w_c (q : Q v H) : tC v σ H Q := q
theorem w_op {r : R2} (q : ta σ H fun x H1 => tb σ H1 fun y H2 => r x y H2 Q) : tOp r ta tb σ H Q := q
theorem w_un {r : V → Hp → VK → Prop} (q : ta σ H fun x H1 => r x H1 Q) : tUn r ta σ H Q := q
theorem w_cb {r : List V → Hp → VK → Prop} (q : as σ H fun vs H1 => r vs H1 Q) : tCB r as σ H Q := q
theorem w_cons {tr : TA} (q : ta σ H fun x H1 => tr σ H1 fun xs H2 => QA (x :: xs) H2) : tCons ta tr σ H QA := q
theorem w_nil (q : QA [] H) : tNil σ H QA := q
theorem w_seq (q : t { D with nx := u D } σ H) : tSeq t u D σ H := q
theorem w_set (q : te σ H fun x H1 => D.nx (σ.set i (some x)) H1) : tAsg te (gName i) D σ H := q
theorem w_asg {g : TG} (q : te σ H fun x H1 => g x σ H1 D.nx) : tAsg te g D σ H := q
theorem w_name {Qs : L2.St → Hp → Prop} (q : Qs (σ.set i (some v)) H) : gName i v σ H Qs := q
theorem w_par (q : as σ H fun vs H1 => ∃ v w, vs = [v, w] ∧ D.nx ((σ.set i (some v)).set j (some w)) H1) : tPar i j as D σ H := q
theorem w_par2 {p q : V} {P : V → V → Prop} (h : P p q) : ∃ v w, [p, q] = [v, w] ∧ P v w := ⟨p, q, rfl, h⟩
theorem w_aug {ti : TIp} (h : σ[i]? = some (some v)) (q : te σ H fun y H1 => ti v y H1 fun z H2 => D.nx (σ.set i (some z)) H2) : tAug i te ti D σ H := ⟨v, h, q⟩
theorem w_ipI {f : Int → Int → Int} (q : Q (.int (f a b)) H) : ipI f (.int a) (.int b) H Q := ⟨a, b, rfl, rfl, q⟩
theorem w_drop (q : te σ H fun _ H1 => D.nx σ H1) : tDrop te D σ H := q
theorem w_ret (q : te σ H D.rt) : tRet te D σ H := q
theorem w_retN (q : D.rt .non H) : tRetN D σ H := q
theorem w_next (q : D.nx σ H) : tNext D σ H := q
theorem w_if {c : TT} (q : c σ H fun b H1 => if b = true then t D σ H1 else u D σ H1) : tIfS c t u D σ H := q
theorem w_test (q : te σ H fun x H' => ∃ k, x = .bl k ∧ QT k H') : tTest te σ H QT := q
theorem w_tB (q : te σ H fun x H' => ∃ k, x = .bl k ∧ QT k H') : tB te σ H QT := q
theorem w_bl {k : Bool} {P : Bool → Prop} (q : P k) : ∃ c, V.bl k = .bl c ∧ P c := ⟨k, rfl, q⟩
theorem w_and (q : tt σ H fun c H1 => if c = true then tu σ H1 QT else QT false H1) : tAnd tt tu σ H QT := q
theorem w_or (q : tt σ H fun c H1 => if c = true then QT true H1 else tu σ H1 QT) : tOr tt tu σ H QT := q
theorem w_not (q : tt σ H fun c H1 => QT (!c) H1) : tNot tt σ H QT := q
theorem w_andV (q : ta σ H fun x H1 => ∃ c, x = .bl c ∧ if c = true then tb σ H1 Q else Q (.bl false) H1) : tAndV ta tb σ H Q := q
theorem w_orV (q : ta σ H fun x H1 => ∃ c, x = .bl c ∧ if c = true then Q (.bl true) H1 else tb σ H1 Q) : tOrV ta tb σ H Q := q
theorem w_notV (q : ta σ H fun x H1 => ∃ c, x = .bl c ∧ Q (.bl (!c)) H1) : tNotV ta σ H Q := q
theorem w_ifE (q : tt σ H fun c H1 => if c = true then ta σ H1 Q else tb σ H1 Q) : tIf tt ta tb σ H Q := q
theorem w_tup (q : as σ H fun xs H1 => xs.length ≤ sizeLine ∧ ∀ p, H1 p = none → atV Q (.ref p) (upd H1 p (.tup xs))) : tTup as σ H Q := q
theorem w_lst (q : as σ H fun xs H1 => xs.length ≤ sizeLine ∧ ∀ p, H1 p = none → atV Q (.ref p) (upd H1 p (.lst xs))) : tLst as σ H Q := q
theorem w_call {sp : Sp} {dvs : List V} {E : XK} (q : as σ H fun vs H1 => sp (vs ++ dvs) H1 Q E) : tCall sp dvs E as σ H Q := q
theorem w_yes (q : QT true H) : tYes σ H QT := q
theorem w_chain {r r' : R2} (q : ta σ H fun x H1 => tb σ H1 fun y H2 => r x y H2 fun z H3 => ∃ k, z = .bl k ∧ (if k = true then tc σ H3 fun w' H4 => r' y w' H4 Q else Q (.bl false) H3)) : tChain r r' ta tb tc σ H Q := q
theorem w_I0 {g : Int → Int → V} (q : Q (g a b) H) : rI0 g (.int a) (.int b) H Q := ⟨a, b, rfl, rfl, q⟩
theorem w_I {C : Int → Int → Prop} {g : Int → Int → V} (c : C a b) (q : Q (g a b) H) : rI C g (.int a) (.int b) H Q := ⟨a, b, rfl, rfl, c, q⟩
theorem w_U {g : Int → V} (q : Q (g a) H) : rU g (.int a) H Q := ⟨a, rfl, q⟩
theorem w_eq (h : scal x y = true) (q : Q (.bl (decide (x = y))) H) : rEq x y H Q := ⟨h, q⟩
theorem w_ne (h : scal x y = true) (q : Q (.bl (!decide (x = y))) H) : rNe x y H Q := ⟨h, q⟩
theorem w_ixL {p : Addr} {xs : List V} (h : SqL K H p xs) (e : atI xs a = some v) (q : Q v H) : rIxL K (.ref p) (.int a) H Q := ⟨p, xs, a, v, rfl, rfl, h, e, q⟩
theorem w_ixT {p : Addr} {xs : List V} (h : SqT K H p xs) (e : atI xs a = some v) (q : Q v H) : rIxT K (.ref p) (.int a) H Q := ⟨p, xs, a, v, rfl, rfl, h, e, q⟩
theorem w_ixS {z : Str} {c : Nat} (h : z.length ≤ sizeLine) (e : atI z.cps.toList a = some c) (q : Q (.str ⟨#[c]⟩) H) : rIxS (.str z) (.int a) H Q := ⟨z, a, c, rfl, rfl, h, e, q⟩
theorem w_len {p : Addr} {xs : List V} (h : SqL K H p xs) (q : Q (.int xs.length) H) : rLen K [.ref p] H Q := ⟨p, xs, rfl, .inl h, q⟩
theorem w_lenT {p : Addr} {xs : List V} (h : SqT K H p xs) (q : Q (.int xs.length) H) : rLen K [.ref p] H Q := ⟨p, xs, rfl, .inr h, q⟩
theorem w_lenS {z : Str} (h : z.length ≤ sizeLine) (q : Q (.int z.length) H) : rLenS [.str z] H Q := ⟨z, rfl, h, q⟩
theorem w_abs (q : Q (.int (if a < 0 then -a else a)) H) : rAbs [.int a] H Q := ⟨a, rfl, q⟩
theorem w_max2 (q : Q (.int (if b > a then b else a)) H) : rMax2 [.int a, .int b] H Q := ⟨a, b, rfl, q⟩
theorem w_min2 (q : Q (.int (if b < a then b else a)) H) : rMin2 [.int a, .int b] H Q := ⟨a, b, rfl, q⟩
theorem w_int1 (q : Q (.int a) H) : rInt1 [.int a] H Q := .inl ⟨a, rfl, q⟩
theorem w_int1b {k : Bool} (q : Q (.int (if k then 1 else 0)) H) : rInt1 [.bl k] H Q := .inr ⟨k, rfl, q⟩
theorem w_listL {p : Addr} {xs : List V} (h : SqL K H p xs) (q : ∀ l, H l = none → atV Q (.ref l) (upd H l (.lst xs))) : rListOf K [.ref p] H Q := ⟨p, xs, rfl, .inl h, q⟩
theorem w_listT {p : Addr} {xs : List V} (h : SqT K H p xs) (q : ∀ l, H l = none → atV Q (.ref l) (upd H l (.lst xs))) : rListOf K [.ref p] H Q := ⟨p, xs, rfl, .inr h, q⟩
theorem w_tupL {p : Addr} {xs : List V} (h : SqL K H p xs) (q : ∀ l, H l = none → atV Q (.ref l) (upd H l (.tup xs))) : rTupOf K [.ref p] H Q := ⟨p, xs, rfl, .inl ⟨h, q⟩⟩
theorem w_tupT {p : Addr} {xs : List V} (h : SqT K H p xs) (q : Q (.ref p) H) : rTupOf K [.ref p] H Q := ⟨p, xs, rfl, .inr ⟨h, q⟩⟩
theorem w_setL {p : Addr} {xs : List V} {Qs : Hp → Prop} (h : H p = some (.lst xs)) (e : ixN xs.length a = some j) (q : Qs (upd H p (.lst (xs.set j v)))) : rSetL (.ref p) (.int a) v H Qs := ⟨p, xs, a, j, rfl, rfl, h, e, q⟩
theorem w_gsub {to ti : TE} {ts : TSet} {Qs : L2.St → Hp → Prop} (q : to σ H fun o H1 => ti σ H1 fun i H2 => ts o i v H2 fun H3 => Qs σ H3) : gSub to ti ts v σ H Qs := q
theorem w_bm {T : String} {r : V → List V → Hp → VK → Prop} (q : ta σ H fun x H1 => tyV K T x H1 ∧ as σ H1 fun xs H2 => r x xs H2 Q) : tBM K T r ta as σ H Q := q
theorem w_bm0 {T : String} {r : V → List V → Hp → VK → Prop} (q : ta σ H fun x H1 => tyV K T x H1 ∧ r x [] H1 Q) : tBM0 K T r ta σ H Q := q
theorem w_append {p : Addr} {xs : List V} (h : H p = some (.lst xs)) (l : xs.length < sizeLine) (q : Q .non (upd H p (.lst (xs ++ [v])))) : rAppend (.ref p) [v] H Q := ⟨p, xs, v, rfl, rfl, h, l, q⟩
theorem w_cat {p r : Addr} {xs ys : List V} (h : H p = some (.lst xs)) (h2 : H r = some (.lst ys)) (l : xs.length + ys.length ≤ sizeLine) (q : ∀ p, H p = none → atV Q (.ref p) (upd H p (.lst (xs ++ ys)))) : rCat (.ref p) (.ref r) H Q := ⟨p, r, xs, ys, rfl, rfl, h, h2, l, q⟩
theorem w_fld {f : Str} (q : ta σ H fun x H1 => ∃ a C dx fs v, x = .ref a ∧ H1 a = some (.ins C dx fs) ∧ Cls K C ∧ NoAttr K C f ∧ fs.lookup f = some v ∧ Q v H1) : tFld K ta f σ H Q := q
theorem w_sl {r : V → Option Int → Option Int → Hp → VK → Prop} {tl th : TO} (q : te σ H fun x H1 => tl σ H1 fun l H2 => th σ H2 fun u H3 => r x l u H3 Q) : tSl r te tl th σ H Q := q
theorem w_slL {p : Addr} {xs : List V} {lo hi : Option Int} (h : SqL K H p xs) (q : ∀ p, H p = none → atV Q (.ref p) (upd H p (.lst (cutV xs lo hi)))) : rSlL K (.ref p) lo hi H Q := ⟨p, xs, rfl, h, q⟩
theorem w_noPart {Qo : Option Int → Hp → Prop} (q : Qo none H) : tNoPart σ H Qo := q
theorem w_part {Qo : Option Int → Hp → Prop} (q : te σ H fun x H1 => ∃ i, x = .int i ∧ Qo (some i) H1) : tPart te σ H Qo := q
theorem w_isI {P : Int → Prop} (q : P a) : ∃ i, V.int a = .int i ∧ P i := ⟨a, rfl, q⟩
theorem w_revL {K : PySem.W.Frag} (q : te σ H fun x H1 => ∃ a xs, x = .ref a ∧ SqL K H1 a xs ∧ ∀ p, H1 p = none → atV Q (.ref p) (upd H1 p (.lst xs.reverse))) : tRevL K te σ H Q := q
theorem w_isN (q : Q (.bl (decide (x = .non))) H) : rIsN x .non H Q := ⟨rfl, q⟩
theorem w_notN (q : Q (.bl (!decide (x = .non))) H) : rNotN x .non H Q := ⟨rfl, q⟩
theorem w_bits (q : te σ H fun x H1 => ∃ i, x = .int i ∧ Q (.int (Builtin.Int.intBits i : Nat)) H1) : tBits te σ H Q := q
theorem w_gtup {K : PySem.W.Frag} {tg : TGs} {p : Addr} {xs : List V} {k : Nat} {Qs : L2.St → Hp → Prop} (h : SqT K H p xs) (l : xs.length = k) (q : tg xs σ H Qs) : gTup K k tg (.ref p) σ H Qs := ⟨p, xs, rfl, h, l, q⟩
theorem w_gcons {tg : TG} {tr : TGs} {xs : List V} {Qs : L2.St → Hp → Prop} (q : tg v σ H fun σ' H' => tr xs σ' H' Qs) : gCons tg tr (v :: xs) σ H Qs := ⟨v, xs, rfl, q⟩
theorem w_gnil {Qs : L2.St → Hp → Prop} (q : Qs σ H) : gNil [] σ H Qs := ⟨rfl, q⟩
theorem w_for {wi : TI} {g : TG} {tb : TS} (q : wi σ H fun J H1 => ∃ W : Nat → Nat → L2.St → Hp → Prop, (∃ m, W 0 m σ H1) ∧ ∀ i m σ H, W i m σ H →
      (J.stop i H ∧ D.nx σ H) ∨ (J.go i H ∧ ∃ N : L2.St → Hp → Prop, (∀ σ' H', N σ' H' → ∃ m', m' < m ∧ W (i + 1) m' σ' H') ∧ ∀ x H', J.yld i H x H' → g x σ H' fun σ2 H2 => tb { D with nx := N, ct := N, bk := D.nx } σ2 H2)) : tFor wi g tb D σ H := q
theorem w_rng1 {R : It → Hp → Prop} (q : as σ H fun vs H1 => ∃ j : Int, vs = [.int j] ∧ -(2 ^ 62) ≤ j ∧ j < 2 ^ 62 ∧ R (Itr 0 j.toNat) H1) : iRng1 as σ H R := q
theorem w_rng1i {P : Int → Prop} (h0 : -(2 ^ 62) ≤ n) (h1 : n < 2 ^ 62) (q : P n) : ∃ j : Int, [V.int n] = [.int j] ∧ -(2 ^ 62) ≤ j ∧ j < 2 ^ 62 ∧ P j := ⟨n, rfl, h0, h1, q⟩
theorem w_rng2 {R : It → Hp → Prop} (q : as σ H fun vs H1 => ∃ i j : Int, vs = [.int i, .int j] ∧ (-(2 ^ 62) ≤ i ∧ i < 2 ^ 62 ∧ -(2 ^ 62) ≤ j ∧ j < 2 ^ 62) ∧ R (Itr i (j - i).toNat) H1) : iRng2 as σ H R := q
theorem w_rng2i {P : Int → Int → Prop} (h0 : -(2 ^ 62) ≤ n ∧ n < 2 ^ 62 ∧ -(2 ^ 62) ≤ m ∧ m < 2 ^ 62) (q : P n m) : ∃ i j : Int, [V.int n, V.int m] = [.int i, .int j] ∧ (-(2 ^ 62) ≤ i ∧ i < 2 ^ 62 ∧ -(2 ^ 62) ≤ j ∧ j < 2 ^ 62) ∧ P i j := ⟨n, m, rfl, h0, q⟩
theorem w_andsz {xs : List V} {P : Prop} (h : Nat.ble xs.length 100000 = true) (q : P) : xs.length ≤ sizeLine ∧ P := ⟨Nat.le_trans (Nat.le_of_ble_eq_true h) (by decide), q⟩
theorem w_iList {R : It → Hp → Prop} (q : te σ H fun x H1 => ∃ a, x = .ref a ∧ (∃ xs, SqL K H1 a xs) ∧ R (Itl K a) H1) : iList K te σ H R := q
theorem w_iTup {R : It → Hp → Prop} (q : te σ H fun x H1 => ∃ a, x = .ref a ∧ (∃ xs, SqT K H1 a xs) ∧ R (Itt K a) H1) : iTup K te σ H R := q
theorem w_iAt {p : Addr} {P : Addr → Prop} (q : P p) : ∃ a, V.ref p = .ref a ∧ P a := ⟨p, rfl, q⟩
end
theorem w_lc {wi : TI} {g : TG} {tt : TT} {te : TE} {vs : List Nat} {σ : L2.St} {H : Hp} {Q : VK} (q : wi σ H fun J H1 => ∀ D, H1 D = none → ∃ W : Nat → Nat → Hp → Prop, (∃ m, W 0 m (upd H1 D (.lst []))) ∧ ∀ i m H, W i m H →
  (J.stop i H ∧ Q (.ref D) H) ∨ (J.go i H ∧ ∃ Nx : Hp → Prop, (∀ H', Nx H' → ∃ m', m' < m ∧ W (i + 1) m' H') ∧ ∀ x H', J.yld i H x H' → g x (wipe σ vs) H' fun σ2 H2 => wipe σ2 vs = wipe σ vs ∧ tt σ2 H2 fun b H3 =>
    if b = true then te σ2 H3 fun y H4 => ∃ acc, H4 D = some (.lst acc) ∧ acc.length < sizeLine ∧ Nx (upd H4 D (.lst (acc ++ [y]))) else Nx H3)) : tLc wi g tt te vs σ H Q := q
theorem w_iStr {te : TE} {σ : L2.St} {H : Hp} {R : It → Hp → Prop} (q : te σ H fun v H1 => ∃ x, v = .str x ∧ R (Its x) H1) : iStr te σ H R := q
theorem w_isS {z : Str} {P : Str → Prop} (q : P z) : ∃ x, V.str z = .str x ∧ P x := ⟨z, rfl, q⟩
theorem w_iL {K : PySem.W.Frag} {H : Hp} {a : Addr} {xs : List V} {P : Prop} (h : SqL K H a xs) (q : P) : (∃ xs, SqL K H a xs) ∧ P := ⟨⟨xs, h⟩, q⟩
theorem w_iT {K : PySem.W.Frag} {H : Hp} {a : Addr} {xs : List V} {P : Prop} (h : SqT K H a xs) (q : P) : (∃ xs, SqT K H a xs) ∧ P := ⟨⟨xs, h⟩, q⟩
theorem w_leS {x y : Str} {H : Hp} {Q : VK} (q : Q (.bl (!decide (y.cps.toList < x.cps.toList))) H) : rLeS (.str x) (.str y) H Q := ⟨x, y, rfl, rfl, q⟩
theorem w_all {K : PySem.W.Frag} {H : Hp} {Q : VK} {a : Addr} {bs : List Bool} (h : SqL K H a (bs.map V.bl)) (q : Q (.bl (bs.all id)) H) : rAll K [.ref a] H Q := ⟨a, bs, rfl, h, q⟩
theorem w_ord {H : Hp} {Q : VK} {c : Nat} (q : Q (.int (c : Int)) H) : rOrd [.str ⟨#[c]⟩] H Q := ⟨_, rfl, rfl, q⟩
theorem w_nx {N : L2.St → Hp → Prop} {rt : VK} {bk ct : L2.St → Hp → Prop} {σ : L2.St} {H : Hp} (q : N σ H) : Ends.nx ⟨N, rt, bk, ct⟩ σ H := q
theorem w_rt {N : L2.St → Hp → Prop} {rt : VK} {bk ct : L2.St → Hp → Prop} {v : V} {H : Hp} (q : rt v H) : Ends.rt ⟨N, rt, bk, ct⟩ v H := q
theorem w_ct {N : L2.St → Hp → Prop} {rt : VK} {bk ct : L2.St → Hp → Prop} {σ : L2.St} {H : Hp} (q : ct σ H) : Ends.ct ⟨N, rt, bk, ct⟩ σ H := q
theorem w_bk {N : L2.St → Hp → Prop} {rt : VK} {bk ct : L2.St → Hp → Prop} {σ : L2.St} {H : Hp} (q : bk σ H) : Ends.bk ⟨N, rt, bk, ct⟩ σ H := q
theorem atI0 {v : V} {xs : List V} : atI (v :: xs) 0 = some v := atI_nat (j := 0) rfl
theorem sq {K : PySem.W.Frag} {H : Hp} {a : Addr} {xs : List V} (h : H a = some (.lst xs)) : SqL K H a xs := .inl (.inl h)
theorem sqt {K : PySem.W.Frag} {H : Hp} {a : Addr} {xs : List V} (h : H a = some (.tup xs)) : SqT K H a xs := .inl (.inl h)
theorem upd_new {H : Hp} {p q : Addr} {o u : HO} (n : H p = none) (h : H q = some u) : upd H p o q = some u := (upd_ne (ne_of_none h n)).trans h
theorem ite_d {p : Prop} [Decidable p] {A B : Prop} (h1 : p → A) (h2 : ¬ p → B) : if decide p = true then A else B := by
  by_cases h : p
  · rw [if_pos (decide_eq_true h)]; exact h1 h
  · rw [if_neg (by rw [decide_eq_false h]; decide)]; exact h2 h
theorem ite_nd {p : Prop} [Decidable p] {A B : Prop} (h1 : ¬ p → A) (h2 : p → B) : if (!decide p) = true then A else B := by
  by_cases h : p
  · rw [if_neg (by rw [decide_eq_true h]; decide)]; exact h2 h
  · rw [if_pos (by rw [decide_eq_false h]; rfl)]; exact h1 h
theorem wmul {i j : Int} {a b : Nat} (ha : i.natAbs < 2 ^ a) (hb : j.natAbs < 2 ^ b) (h : a + b ≤ 900000) : CMulW i j :=
  wide_mul (a := a + 1) (b := b + 1) (Nat.lt_trans ha (Nat.pow_lt_pow_right (by decide) (Nat.lt_succ_self _))) (Nat.lt_trans hb (Nat.pow_lt_pow_right (by decide) (Nat.lt_succ_self _))) (Nat.succ_pos _) (Nat.succ_pos _) (by omega)
theorem wdiv {i j : Int} {b : Nat} (h : 0 < j) (hb : j.natAbs < 2 ^ b) (h9 : b ≤ 8000) : CDivW i j :=
  wide_div (b := b + 1) h (Nat.lt_trans hb (Nat.pow_lt_pow_right (by decide) (Nat.lt_succ_self _))) (Nat.succ_pos _) (by omega)

/-- products: one side small, or both of bounded bits -/
def CMx (i j : Int) : Prop := CMul i j ∨ CMulW i j
theorem oMul {X : Cx} : OpR X (binaryOp .Mult) (rI CMx fun i j => .int (i * j)) := opI fun _ _ _ _ _ _ _ hc q => hc.elim (fun h => mul_int q h.ok) (fun h => mul_int q h.ok)
theorem mx_l {i j : Int} (h : -(2 ^ 64) < i ∧ i < 2 ^ 64) : CMx i j := .inl (.inl h)
theorem mx_r {i j : Int} (h : -(2 ^ 64) < j ∧ j < 2 ^ 64) : CMx i j := .inl (.inr h)
theorem mx_w {i j : Int} {a b : Nat} (ha : i.natAbs < 2 ^ a) (hb : j.natAbs < 2 ^ b) (h : a + b ≤ 900000) : CMx i j := .inr (wmul ha hb h)
theorem wdiv60 {i j : Int} (h : 0 < j) (hb : j < 2 ^ 60) : CDivW i j := wdiv (b := 60) h (by omega) (by decide)

/-! ### names that are still the built-ins -/
structure Bt (mg : Str → Option Value) : Prop where
  len : mg "len" = none
  int : mg "int" = none
  abs : mg "abs" = none
  max : mg "max" = none
  min : mg "min" = none
  range : mg "range" = none
  isinstance : mg "isinstance" = none
  list : mg "list" = none
  tuple : mg "tuple" = none
  str : mg "str" = none
  bool : mg "bool" = none
  ord : mg "ord" = none
  all : mg "all" = none
  enumerate : mg "enumerate" = none
  zip : mg "zip" = none

/-! ### the purse -/
/-- a list of three ints at a: what is left of a great number, a seed, a count up to c -/
def Purse (H : Hp) (a : Addr) (c : Int) : Prop := ∃ x y z : Int, H a = some (.lst [.int x, .int y, .int z]) ∧ 0 ≤ x ∧ x < 2 ^ 1600 ∧ 0 ≤ y ∧ y < 2 ^ 31 ∧ 0 ≤ z ∧ z ≤ c
/-- all but what stands at a is kept -/
def Keep (a : Addr) (H H' : Hp) : Prop := ∀ b o, b ≠ a → H b = some o → H' b = some o
theorem Keep.refl {a : Addr} {H : Hp} : Keep a H H := fun _ _ _ h => h
theorem Keep.trans {a : Addr} {H H1 H2 : Hp} (k : Keep a H H1) (l : Keep a H1 H2) : Keep a H H2 := fun b o n h => l b o n (k b o n h)
theorem Keep.of {a : Addr} {H H' : Hp} (s : Same H H') : Keep a H H' := fun b o _ h => s b o h
theorem Keep.at_ {a b : Addr} {o : HO} {H H' : Hp} (k : Keep a H H') (n : b ≠ a) (h : H b = some o) : H' b = some o := k b o n h
theorem Same.new {H : Hp} {p : Addr} {o : HO} (n : H p = none) : Same H (upd H p o) := fun b u h => upd_new n h
theorem Purse.same {H H' : Hp} {a : Addr} {c : Int} (p : Purse H a c) (s : Same H H') : Purse H' a c := by
  obtain ⟨x, y, z, h, r⟩ := p
  exact ⟨x, y, z, s _ _ h, r⟩
theorem Purse.le {H : Hp} {a : Addr} {c d : Int} (p : Purse H a c) (h : c ≤ d) : Purse H a d := by
  obtain ⟨x, y, z, h0, h1, h2, h3, h4, h5, h6⟩ := p
  exact ⟨x, y, z, h0, h1, h2, h3, h4, h5, by omega⟩

/-! ### defs of the text by name -/
section
variable {P : Program} {w : World} {K : PySem.W.Frag} {mg : Str → Option Value} {base : Heap}
/-- a def of the module without defaults -/
structure Dn (K : PySem.W.Frag) (mg : Str → Option Value) (x : Str) (st : Stmt) (ps : List Str) : Prop where
  ex : ∃ (f : Addr) (fd : FuncData), L2.Fun K x x st f fd ∧ mg x = some (.ref f) ∧ Binds K fd ps []
theorem Dn.cal {x : Str} {st : Stmt} {N ps : List Str} {k : Nat} {sp : Sp} (F : Dn K mg x st ps) (S : FnScope N ps (defScope st)) (len : ∀ vs H Q E, sp vs H Q E → vs.length = ps.length)
    (hbody : ∀ (f : Addr) (cdv : Value) (A : Around) (outer : List Env) (s : Shared) (H : Hp) (vs : List V) (Q : VK) (E : XK), Room k (A.deeper (envOfC x (defScope st) s.heap.objs.size f cdv)) → sp vs H Q E →
      ∃ t, PSs (cxOf CX0 P w K mg base N x (defScope st) f cdv A outer s H E).nox (defBody st) t ∧ t { nx := fun _ H' => Q .non H', rt := Q } (start N vs) H) : C8.Cal P w K mg base (k + 1) x sp [] := by
  obtain ⟨f, fd, F1, m, b⟩ := F.ex
  exact ⟨f, fd, ps, [], F1.ok S len (fun cdv A outer s H vs Q E hr h => hbody f cdv A outer s H vs Q E hr h), m, F1.kp, b, .nil⟩
end

theorem atI_ints {ns : List Int} {i : Int} (h0 : 0 ≤ i) (h1 : i < (ns.map V.int).length) : atI (ns.map V.int) i = some (.int (ns.getD i.toNat 0)) := by
  obtain ⟨j, rfl⟩ := Int.eq_ofNat_of_zero_le h0
  rw [List.length_map] at h1
  have h2 : j < ns.length := by omega
  refine atI_nat ?_
  rw [List.getElem?_map, List.getElem?_eq_getElem h2]
  simp [List.getD, h2]
theorem atI_get {xs : List V} {i : Int} {v : V} (h0 : 0 ≤ i) (h : xs[i.toNat]? = some v) : atI xs i = some v := by
  obtain ⟨j, rfl⟩ := Int.eq_ofNat_of_zero_le h0
  exact atI_nat h
theorem Keep.upd {a : Addr} {H H' : Hp} {o : HO} (k : Keep a H H') : Keep a H (upd H' a o) := fun b u n h => by rw [upd_ne n]; exact k b u n h
/-! ### loops -/
section
variable {c : TT} {tb : TS} {D : Ends} {σ : L2.St} {H : Hp}
theorem while_go (Pv : L2.St → Hp → Prop) (μ : L2.St → Hp → Nat) (h0 : Pv σ H) (hs : ∀ σ H, Pv σ H → c σ H fun b H1 => if b = true then (∃ N : L2.St → Hp → Prop, (∀ σ' H', N σ' H' → ∃ m', m' < μ σ H ∧ (m' = μ σ' H' ∧ Pv σ' H')) ∧
      tb { D with nx := N, ct := N, bk := D.nx } σ H1) else D.nx σ H1) : tWhile c tb D σ H := ⟨fun m σ H => m = μ σ H ∧ Pv σ H, ⟨_, rfl, h0⟩, fun m σ H h => by
  obtain ⟨e, p⟩ := h
  subst e
  exact hs σ H p⟩
theorem while_n {Pv : L2.St → Hp → Prop} {μ : L2.St → Hp → Nat} {k : Nat} (q : tb { D with nx := fun σ' H' => μ σ' H' < k ∧ Pv σ' H', ct := fun σ' H' => μ σ' H' < k ∧ Pv σ' H', bk := D.nx } σ H) :
    ∃ N : L2.St → Hp → Prop, (∀ σ' H', N σ' H' → ∃ m', m' < k ∧ (m' = μ σ' H' ∧ Pv σ' H')) ∧ tb { D with nx := N, ct := N, bk := D.nx } σ H := ⟨_, fun _ _ h => ⟨_, h.1, rfl, h.2⟩, q⟩
end
/-! ### isinstance -/
theorem w_isi {K : PySem.W.Frag} {H : Hp} {Q : VK} {x : V} {t : Value} {n : String} {b : Bool} (ty : TyX K H x t) (k : PySem.W.kitOne K t (.type n) = some b) (q : Q (.bl b) H) : rIsi K [x, .ty n] H Q := ⟨x, .ty n, t, .type n, b, rfl, .ty n, ty, k, q⟩
theorem w_isiC {K : PySem.W.Frag} {H : Hp} {Q : VK} {x : V} {t : Value} {C : Addr} {b : Bool} (ty : TyX K H x t) (k : PySem.W.kitOne K t (.ref C) = some b) (q : Q (.bl b) H) : rIsi K [x, .ref C] H Q := ⟨x, .ref C, t, .ref C, b, rfl, .own C, ty, k, q⟩
theorem w_isi2 {K : PySem.W.Frag} {H : Hp} {Q : VK} {x : V} {t : Value} {m n : String} {p : Addr} {b : Bool} (h : H p = some (.tup [.ty m, .ty n])) (ty : TyX K H x t) (k : PySem.W.kitAny K t [.type m, .type n] = some b) (q : Q (.bl b) H) : rIsiT K [x, .ref p] H Q :=
  ⟨x, p, _, t, _, b, rfl, h, .cons (.ty m) (.cons (.ty n) .nil), ty, k, q⟩
theorem ty_int {K : PySem.W.Frag} {H : Hp} (i : Int) : TyX K H (.int i) (.type "int") := .base (.int i)
def spIsInt (K : PySem.W.Frag) : Sp := fun vs H Q _ => ∃ (v : V) (t : Value) (b1 b2 : Bool), vs = [v] ∧ TyX K H v t ∧ PySem.W.kitOne K t (.type "int") = some b1 ∧ PySem.W.kitOne K t (.type "bool") = some b2 ∧ Q (.bl (b1 && !b2)) H
theorem use_isInt {K : PySem.W.Frag} {H : Hp} {Q : VK} {E : XK} {i : Int} (q : Q (.bl true) H) : spIsInt K ([.int i] ++ []) H Q E := ⟨.int i, _, true, false, rfl, ty_int i, kit_ty (by decide +kernel), kit_ty (by decide +kernel), q⟩
/-! ### numbers -/
def spRaised : Sp := fun vs H Q _ => ∃ (f p : Int) (b : Nat), vs = [.int f, .int p] ∧ 0 ≤ p ∧ p < 2 ^ 40 ∧ f.natAbs < 2 ^ b ∧ b * p.toNat + b ≤ 100000 ∧ Q (.int (f ^ p.toNat)) H
def spGcd : Sp := fun vs H Q _ => ∃ a b : Int, vs = [.int a, .int b] ∧ Q (.int (Int.gcd a b)) H
def Pr (n : Int) : Prop := 1 < n ∧ ∀ d : Int, 2 ≤ d → d * d ≤ n → n % d ≠ 0
def spPrime : Sp := fun vs H Q _ => ∃ n : Int, vs = [.int n] ∧ n < 2 ^ 60 ∧ ∀ b : Bool, (b = true ↔ Pr n) → Q (.bl b) H
theorem natAbs_pow_lt {f : Int} {b : Nat} (h : f.natAbs < 2 ^ b) (n : Nat) : (f ^ n).natAbs < 2 ^ (b * n + 1) := by
  rw [Int.natAbs_pow]
  have h1 : f.natAbs ^ n ≤ (2 ^ b) ^ n := Nat.pow_le_pow_left (Nat.le_of_lt h) n
  rw [← Nat.pow_mul] at h1
  exact Nat.lt_of_le_of_lt h1 (Nat.pow_lt_pow_right (by decide) (Nat.lt_succ_self _))
/-! ### comprehensions that leave the heap as it was -/
section
variable {J : It} {G : Hp → Prop} {te : TE} {vs : List Nat} {σ : L2.St} {H : Hp} {D : Addr} {Qd : Hp → Prop} {j : Nat}
theorem lc_pure (xs ys : List V) (w : Walk J xs.length G (YAt xs)) (hD : H D = none) (hG : ∀ H', Same H H' → G H') (hl : ys.length = xs.length) (sz : ys.length ≤ 100000)
    (wp : ∀ v, wipe ((wipe σ vs).set j v) vs = wipe σ vs)
    (step : ∀ (i : Nat) (x y : V) (H' : Hp), xs[i]? = some x → ys[i]? = some y → Same H H' → ∀ Q' : VK, (∀ H'', Same H' H'' → Q' y H'') → te ((wipe σ vs).set j (some x)) H' Q')
    (q : ∀ H', Same H H' → H' D = some (.lst ys) → Qd H') :
    ∃ W : Nat → Nat → Hp → Prop, (∃ m, W 0 m (upd H D (.lst []))) ∧ ∀ i m H, W i m H →
      (J.stop i H ∧ Qd H) ∨ (J.go i H ∧ ∃ Nx : Hp → Prop, (∀ H', Nx H' → ∃ m', m' < m ∧ W (i + 1) m' H') ∧ ∀ x H', J.yld i H x H' → gName j x (wipe σ vs) H' fun σ2 H2 => wipe σ2 vs = wipe σ vs ∧ tYes σ2 H2 fun b H3 =>
        if b = true then te σ2 H3 fun y H4 => ∃ acc, H4 D = some (.lst acc) ∧ acc.length < sizeLine ∧ Nx (upd H4 D (.lst (acc ++ [y]))) else Nx H3) := by
  refine lc_it w (fun i H' => H' D = some (.lst (ys.take i)) ∧ Same H H') ⟨upd_same, Same.new hD⟩ (fun i H' _ h => hG H' h.2) ?_ ?_
  · rintro i x H1 H' hi ⟨h1, h2⟩ ⟨rfl, hx⟩
    refine ⟨wp _, w_yes ?_⟩
    rw [if_pos rfl]
    have hi' : i < ys.length := by omega
    refine step i x ys[i] H' hx (by simp [hi']) h2 _ fun H'' h3 => ?_
    refine ⟨_, h3 _ _ h1, ?_, ?_, ?_⟩
    · rw [List.length_take]
      have : (100000 : Nat) < sizeLine := by decide
      omega
    · rw [upd_same, List.take_succ_eq_append_getElem hi']
    · exact fun b o e => by
        rw [upd_ne (ne_of_none e hD)]
        exact h3 _ _ (h2 _ _ e)
  · rintro H' ⟨h1, h2⟩
    refine q H' h2 ?_
    rw [h1, ← hl, List.take_length]
end
/-! ### a text walked -/
theorem walk_strY {z : Str} : Walk (Its z) (z.cps.toList.map fun c => V.str ⟨#[c]⟩).length (fun _ => True) (YAt (z.cps.toList.map fun c => V.str ⟨#[c]⟩)) := by
  have h := walk_str (z := z)
  have e : (z.cps.toList.map fun c => V.str ⟨#[c]⟩).length = z.cps.size := by simp
  rw [e]
  refine h.mono (fun _ h => h) (fun i H x H' hi _ y => ?_)
  obtain ⟨rfl, c, hc, rfl⟩ := y
  refine ⟨rfl, ?_⟩
  rw [List.getElem?_map, Array.getElem?_toList, hc]
  rfl
/-! ### texts -/
/-- a text's value and its letters -/
inductive TextAt (H : Hp) : V → List Int → Prop where
  | str (z : Str) (h : ∀ c ∈ z.cps.toList, 32 ≤ c ∧ c ≤ 126) (l : z.length ≤ 100000) : TextAt H (.str z) (z.cps.toList.map Int.ofNat)
  | lst (a : Addr) (ls : List Int) (h : H a = some (.lst (ls.map V.int))) (l : ls.length ≤ 100000) : TextAt H (.ref a) ls
  | tup (a : Addr) (ls : List Int) (h : H a = some (.tup (ls.map V.int))) (l : ls.length ≤ 100000) : TextAt H (.ref a) ls
theorem TextAt.same {H H' : Hp} {v : V} {ls : List Int} (t : TextAt H v ls) (s : Same H H') : TextAt H' v ls := by
  cases t with
  | str z h l => exact .str z h l
  | lst a _ h l => exact .lst a _ (s _ _ h) l
  | tup a _ h l => exact .tup a _ (s _ _ h) l
theorem TextAt.len {H : Hp} {v : V} {ls : List Int} (t : TextAt H v ls) : ls.length ≤ 100000 := by
  cases t with
  | str z h l => rw [List.length_map]; exact l
  | lst a _ h l => exact l
  | tup a _ h l => exact l
theorem lt1 {a b : Nat} : (([a] : List Nat) < [b]) ↔ a < b := by simp [List.cons_lt_cons_iff]
theorem sign_lo {c : Nat} (h : 32 ≤ c) : decide ((Str.mk #[c]).cps.toList < (Str.ofString " ").cps.toList) = false := decide_eq_false fun z => by
  have : c < 32 := lt1.mp z
  omega
theorem sign_hi {c : Nat} (h : c ≤ 126) : decide ((Str.ofString "~").cps.toList < (Str.mk #[c]).cps.toList) = false := decide_eq_false fun z => by
  have : 126 < c := lt1.mp z
  omega
theorem all_true {α : Type} (l : List α) : (l.map fun _ => true).all id = true := by
  induction l with
  | nil => rfl
  | cons a r ih => rw [List.map_cons, List.all_cons, ih]; rfl
theorem get_map {α β : Type} {f : α → β} {l : List α} {i : Nat} {y : β} (h : (l.map f)[i]? = some y) : ∃ x, l[i]? = some x ∧ f x = y := by
  rw [List.getElem?_map] at h
  cases e : l[i]? with
  | none => rw [e] at h; cases h
  | some x => rw [e] at h; exact ⟨x, rfl, Option.some.inj h⟩
def spIsText : Sp := fun vs H Q _ => ∃ (v : V) (ls : List Int), vs = [v] ∧ TextAt H v ls ∧ ∀ H', Same H H' → Q (.bl true) H'
def spRead : Sp := fun vs H Q _ => ∃ (v : V) (ls : List Int), vs = [v] ∧ TextAt H v ls ∧ ∀ H' t, Same H H' → H' t = some (.tup (ls.map V.int)) → Q (.ref t) H'
theorem kitA {K : PySem.W.Frag} {t m n : String} {b : Bool} (h : (match kitB t m with | some true => some true | some false => (match kitB t n with | some true => some true | some false => some false | none => none) | none => none) = some b) : PySem.W.kitAny K (.type t) [.type m, .type n] = some b := h
/-! ### moduli, markings, ways -/
def num (ps : List (Int × Int)) : Int := ps.foldl (fun n p => n * p.1 ^ p.2.toNat) 1
def Asc : Int → List (Int × Int) → Prop
  | _, [] => True
  | l, q :: r => l < q.1 ∧ 0 < q.2 ∧ Pr q.1 ∧ Asc q.1 r
def Small (ps : List (Int × Int)) : Prop := (∀ q ∈ ps, 0 < q.1 ∧ q.1 < 1024 ∧ 0 < q.2 ∧ q.2 ≤ 100) ∧ ps.length ≤ 64
theorem num_snoc (ps : List (Int × Int)) (q : Int × Int) : num (ps ++ [q]) = num ps * q.1 ^ q.2.toNat := by
  unfold num
  rw [List.foldl_append]
  rfl
theorem num_take {ps : List (Int × Int)} {i : Nat} {q : Int × Int} (h : ps[i]? = some q) : num (ps.take (i + 1)) = num (ps.take i) * q.1 ^ q.2.toNat := by
  obtain ⟨hi, e⟩ := List.getElem?_eq_some_iff.mp h
  rw [List.take_succ_eq_append_getElem hi, num_snoc, e]
theorem num_bound {ps : List (Int × Int)} (h : Small ps) : ∀ i, i ≤ ps.length → 0 < num (ps.take i) ∧ (num (ps.take i)).natAbs < 2 ^ (1010 * i + 1)
  | 0, _ => by
    rw [List.take_zero]
    exact ⟨by decide, by decide⟩
  | i + 1, hi => by
    have ih := num_bound h i (by omega)
    have hlt : i < ps.length := by omega
    have hq := h.1 ps[i] (List.getElem_mem hlt)
    rw [num_take (q := ps[i]) (by simp [hlt])]
    have h1 : ((ps[i].1) ^ (ps[i].2.toNat)).natAbs < 2 ^ (10 * ps[i].2.toNat + 1) := natAbs_pow_lt (b := 10) (by show ps[i].1.natAbs < 1024; omega) _
    refine ⟨Int.mul_pos ih.1 (Int.pow_pos hq.1), ?_⟩
    have h2 := wide_lt ih.2 h1
    refine Nat.lt_of_lt_of_le h2 (Nat.pow_le_pow_right (by decide) ?_)
    omega
theorem num_pos {ps : List (Int × Int)} (h : Small ps) : 0 < num ps := by
  have := (num_bound h ps.length (Nat.le_refl _)).1
  rwa [List.take_length] at this
theorem num_lt {ps : List (Int × Int)} (h : Small ps) : (num ps).natAbs < 2 ^ 70000 := by
  have := (num_bound h ps.length (Nat.le_refl _)).2
  rw [List.take_length] at this
  refine Nat.lt_of_lt_of_le this (Nat.pow_le_pow_right (by decide) ?_)
  have := h.2
  omega
theorem Asc.at_ : ∀ {l : Int} {ps : List (Int × Int)} {i : Nat} {q : Int × Int}, Asc l ps → ps[i]? = some q → ((ps.take i).getLast?.map (·.1)).getD l < q.1 ∧ 0 < q.2 ∧ Pr q.1
  | l, [], i, q, _, h => by simp at h
  | l, r :: ps, 0, q, a, h => by
    have e : r = q := by simpa using h
    subst e
    exact ⟨a.1, a.2.1, a.2.2.1⟩
  | l, r :: ps, i + 1, q, a, h => by
    have ih := Asc.at_ (i := i) a.2.2.2 (by simpa using h)
    refine ⟨?_, ih.2⟩
    have e := ih.1
    rw [List.take_succ_cons, List.getLast?_cons]
    cases hh : (ps.take i).getLast? with
    | none => rw [hh] at e; exact e
    | some z => rw [hh] at e; exact e
def Tp (H : Hp) (p : Int × Int) (t : Addr) : Prop := H t = some (.tup [.int p.1, .int p.2])
theorem paired_get {α β : Type} {R : α → β → Prop} : ∀ {xs : List α} {ys : List β} {i : Nat} {y : β}, Paired R xs ys → ys[i]? = some y → ∃ x, xs[i]? = some x ∧ R x y
  | _, _, _, _, .nil, h => by simp at h
  | _, _, 0, _, .cons r _, h => by
    have e := Option.some.inj (by simpa using h)
    subst e
    exact ⟨_, rfl, r⟩
  | _, _, i + 1, _, .cons _ t, h => by
    obtain ⟨x, h1, h2⟩ := paired_get (i := i) t (by simpa using h)
    exact ⟨x, by simpa using h1, h2⟩
theorem paired_imp {α β : Type} {R S : α → β → Prop} (h : ∀ x y, R x y → S x y) : ∀ {xs : List α} {ys : List β}, Paired R xs ys → Paired S xs ys
  | _, _, .nil => .nil
  | _, _, .cons r t => .cons (h _ _ r) (paired_imp h t)
theorem lk0 {f : Str} {v : V} {r : List (Str × V)} : List.lookup f ((f, v) :: r) = some v := by simp [List.lookup]
theorem lkS {f g : Str} {u : V} {r : List (Str × V)} (h : f ≠ g) : List.lookup f ((g, u) :: r) = List.lookup f r := by
  rw [List.lookup]
  have e : (f == g) = false := by simpa using h
  rw [e]
theorem putS {f g : Str} {u v : V} {r : List (Str × V)} (h : g ≠ f) : putF f v ((g, u) :: r) = (g, u) :: putF f v r := by
  unfold putF
  rw [if_neg h]
  cases r <;> rfl
theorem put0 {f : Str} {v : V} : putF f v [] = [(f, v)] := rfl
/-- a class whose instances are plain -/
structure ClsF (K : PySem.W.Frag) (C : Addr) : Prop where
  cl : Cls K C
  ha : PySem.W.findIn K (.ref C) "__class__" = some (some (.builtin "object.__class__"))
  hn : PySem.W.specialIn K (.builtin "object.__class__") "__get__" = some (some (.builtin "getset_descriptor.__get__"))
  htk : PySem.W.takesIn K (.builtin "object.__class__") = some true
  hm : PySem.W.mroIn K C (.type "object") = some true
theorem ClsF.ty {K : PySem.W.Frag} {C : Addr} (c : ClsF K C) {H : Hp} {a dx : Addr} {fs : List (Str × V)} (h : H a = some (.ins C dx fs)) : TyX K H (.ref a) (.ref C) := .base (.ins h c.cl c.ha c.hn c.htk c.hm)
theorem kit_own {K : PySem.W.Frag} {C : Addr} : PySem.W.kitOne K (.ref C) (.ref C) = some true := by
  unfold PySem.W.kitOne
  rw [if_pos (by simp)]
/-- the addresses of the three classes -/
structure CA where
  md : Addr
  kg : Addr
  wy : Addr
structure Kx (K : PySem.W.Frag) (mg : Str → Option Value) (c : CA) : Prop where
  md : ClsF K c.md
  kg : ClsF K c.kg
  wy : ClsF K c.wy
  mgMd : mg "Modulus" = some (.ref c.md)
  mgMk : mg "Marking" = some (.ref c.kg)
  mgWy : mg "Way" = some (.ref c.wy)
  number : NoAttr K c.md "number"
  factors : NoAttr K c.md "factors"
  low : NoAttr K c.kg "low"
  shift : NoAttr K c.kg "shift"
  lead : NoAttr K c.kg "lead"
  marking : NoAttr K c.wy "marking"
  modulus : NoAttr K c.wy "modulus"
  wnumber : NoAttr K c.wy "number"
  base : NoAttr K c.wy "base"
def mdF (n : Int) (t : Addr) : List (Str × V) := [("number", .int n), ("factors", .ref t)]
def mkF (low : Bool) (shift : Int) (lead : Bool) : List (Str × V) := [("low", .bl low), ("shift", .int shift), ("lead", .bl lead)]
def wyF (k m : Addr) (n b : Int) : List (Str × V) := [("marking", .ref k), ("modulus", .ref m), ("number", .int n), ("base", .int b)]
def ModAt (c : CA) (H : Hp) (m : Addr) (ps : List (Int × Int)) : Prop := ∃ (dx t : Addr) (ts : List Addr), H m = some (.ins c.md dx (mdF (num ps) t)) ∧ H t = some (.tup (ts.map V.ref)) ∧ Paired (Tp H) ps ts ∧ Asc 0 ps ∧ Small ps
def MkAt (c : CA) (H : Hp) (k : Addr) (low : Bool) (shift : Int) (lead : Bool) : Prop := ∃ dx : Addr, H k = some (.ins c.kg dx (mkF low shift lead))
/-- how letters are added up -/
structure Sty where
  low : Bool
  shift : Int
  lead : Bool
def WayAt (c : CA) (H : Hp) (a : Addr) (b : Int) (ps : List (Int × Int)) (y : Sty) : Prop := ∃ (dx m k : Addr), H a = some (.ins c.wy dx (wyF k m (num ps) b)) ∧ ModAt c H m ps ∧ MkAt c H k y.low y.shift y.lead ∧ 0 ≤ b ∧ b < num ps
theorem ModAt.same {c : CA} {H H' : Hp} {m : Addr} {ps : List (Int × Int)} (h : ModAt c H m ps) (s : Same H H') : ModAt c H' m ps := by
  obtain ⟨dx, t, ts, h1, h2, h3, h4⟩ := h
  exact ⟨dx, t, ts, s _ _ h1, s _ _ h2, paired_imp (fun _ _ z => s _ _ z) h3, h4⟩
theorem MkAt.same {c : CA} {H H' : Hp} {k : Addr} {l : Bool} {s : Int} {d : Bool} (h : MkAt c H k l s d) (e : Same H H') : MkAt c H' k l s d := by
  obtain ⟨dx, h1⟩ := h
  exact ⟨dx, e _ _ h1⟩
theorem WayAt.same {c : CA} {H H' : Hp} {a : Addr} {b : Int} {ps : List (Int × Int)} {y : Sty} (h : WayAt c H a b ps y) (s : Same H H') : WayAt c H' a b ps y := by
  obtain ⟨dx, m, k, h1, h2, h3, h4⟩ := h
  exact ⟨dx, m, k, s _ _ h1, h2.same s, h3.same s, h4⟩
/-- coefficients of the sum, that of the highest power first -/
def hf (y : Sty) (ls : List Int) : List Int := (if y.lead then 1 else 0) :: (if y.low then (ls.map (· + y.shift)).reverse else ls.map (· + y.shift))
def restAt (cs : List Int) (b n : Int) : Int := cs.foldl (fun f c => (f * b + c) % n) 0
def mark (y : Sty) (b n : Int) (ls : List Int) : Int := restAt (hf y ls) b n
section
variable {σ : L2.St} {H : Hp} {D : Ends} {Q : VK} {K : PySem.W.Frag} {ta tv : TE} {f : Str} {x C dx : Addr} {fs : List (Str × V)} {v y : V}
theorem w_fldi {P : V → Prop} (h : H x = some (.ins C dx fs)) (c : Cls K C) (n : NoAttr K C f) (l : fs.lookup f = some v) (q : P v) : ∃ a C dx fs v, V.ref x = .ref a ∧ H a = some (.ins C dx fs) ∧ Cls K C ∧ NoAttr K C f ∧ fs.lookup f = some v ∧ P v := ⟨x, C, dx, fs, v, rfl, h, c, n, l, q⟩
theorem w_sfld (q : tv σ H fun y H1 => ta σ H1 fun x H2 => ∃ a C dx fs, x = .ref a ∧ H2 a = some (.ins C dx fs) ∧ Cls K C ∧ NoAttr K C f ∧ fs.length < 1000 ∧ D.nx σ (upd H2 a (.ins C dx (putF f y fs)))) : sFld K ta tv f D σ H := q
theorem w_sfldi {P : Hp → Prop} (h : H x = some (.ins C dx fs)) (c : Cls K C) (n : NoAttr K C f) (l : fs.length < 1000) (q : P (upd H x (.ins C dx (putF f y fs)))) : ∃ a C dx fs, V.ref x = .ref a ∧ H a = some (.ins C dx fs) ∧ Cls K C ∧ NoAttr K C f ∧ fs.length < 1000 ∧ P (upd H a (.ins C dx (putF f y fs))) :=
  ⟨x, C, dx, fs, rfl, h, c, n, l, q⟩
theorem w_make {sp : Sp} {dvs : List V} {E : XK} {as : TA} (q : as σ H fun vs H1 => ∀ x dx, H1 x = none → H1 dx = none → dx ≠ x → sp (.ref x :: (vs ++ dvs)) (upd (upd H1 dx (.own x)) x (.ins C dx [])) (fun v H2 => v = .non ∧ Q (.ref x) H2) E) : tMake C sp dvs E as σ H Q := q
theorem w_meth {m : Str} {sp : Sp} {dvs : List V} {E : XK} {as : TA} (q : ta σ H fun x H1 => ∃ a dx fs, x = .ref a ∧ H1 a = some (.ins C dx fs) ∧ fs.lookup m = none ∧ as σ H1 fun vs H2 => sp (x :: (vs ++ dvs)) H2 Q E) : tMeth C m sp dvs E ta as σ H Q := q
theorem w_methi {m : Str} {P : Addr → Prop} (h : H x = some (.ins C dx fs)) (l : fs.lookup m = none) (q : P x) : ∃ a dx fs, V.ref x = .ref a ∧ H a = some (.ins C dx fs) ∧ fs.lookup m = none ∧ P a := ⟨x, dx, fs, rfl, h, l, q⟩
theorem w_iEnum {K : PySem.W.Frag} {as : TA} {R : It → Hp → Prop} (q : as σ H fun vs H1 => ∃ a xs, vs = [.ref a] ∧ SqL K H1 a xs ∧ R (Ite K a) H1) : iEnum K as σ H R := q
theorem w_enumi {K : PySem.W.Frag} {a : Addr} {xs : List V} {P : Addr → Prop} (h : SqL K H a xs) (q : P a) : ∃ a' xs', [V.ref a] = [.ref a'] ∧ SqL K H a' xs' ∧ P a' := ⟨a, xs, rfl, h, q⟩
end
theorem mk_same {H H' : Hp} {x dx C : Addr} (nx : H x = none) (nd : H dx = none) (k : ∀ b o, b ≠ x → (upd (upd H dx (.own x)) x (.ins C dx [])) b = some o → H' b = some o) : Same H H' := fun b o e =>
  k b o (ne_of_none e nx) (by rw [upd_ne (ne_of_none e nx), upd_ne (ne_of_none e nd)]; exact e)
/-- __init__ of an own class by its body -/
theorem fnD_ok {P : Program} {w : World} {K : PySem.W.Frag} {mg : Str → Option Value} {base : Heap} {x qual : Str} {st : Stmt} {dvs : List V} {kws : List (Str × V)} {f : Addr} {fd : FuncData} {N ps : List Str} {k : Nat} {sp : Sp}
    (F : FunD K x qual (defArgs st) (defBody st) (defScope st) dvs kws f fd) (S : FnScope N ps (defScope st)) (len : ∀ vs H Q E, sp vs H Q E → vs.length = ps.length)
    (hbody : ∀ (cdv : Value) (A : Around) (outer : List Env) (s : Shared) (H : Hp) (vs : List V) (Q : VK) (E : XK), Room k (A.deeper (envOfC qual (defScope st) s.heap.objs.size f cdv)) → sp vs H Q E →
      ∃ t, PSs (cxOf CX0 P w K mg base N qual (defScope st) f cdv A outer s H E).nox (defBody st) t ∧ t { nx := fun _ H' => Q .non H', rt := Q } (start N vs) H) : FnOk P w K mg base CX0 (k + 1) f fd ps sp := by
  refine F.ok S len fun cdv A outer s H vs Q E hr h => ?_
  obtain ⟨t, h1, h2⟩ := hbody cdv A outer s H vs Q E hr h
  exact ⟨t, h1.nox, h2⟩
def spIsFactor : Sp := fun vs H Q _ => ∃ (t : Addr) (l p k : Int), vs = [.ref t, .int l] ∧ H t = some (.tup [.int p, .int k]) ∧ p < 2 ^ 60 ∧ ∀ b : Bool, (b = true ↔ l < p ∧ 0 < k ∧ Pr p) → Q (.bl b) H
def spModInit (c : CA) : Sp := fun vs H Q _ => ∃ (x dx l : Addr) (ts : List Addr) (ps : List (Int × Int)), vs = [.ref x, .ref l] ∧ H x = some (.ins c.md dx []) ∧ H l = some (.lst (ts.map V.ref)) ∧ Paired (Tp H) ps ts ∧ Asc 0 ps ∧ Small ps ∧
  ∀ H' t, (∀ b o, b ≠ x → H b = some o → H' b = some o) → H' x = some (.ins c.md dx (mdF (num ps) t)) → H' t = some (.tup (ts.map V.ref)) → Q .non H'
theorem use_mod {c : CA} {H : Hp} {PP : Addr → Hp → Prop} {E : XK} {l : Addr} {ts : List Addr} {ps : List (Int × Int)} (hl : H l = some (.lst (ts.map V.ref))) (hp : Paired (Tp H) ps ts) (ha : Asc 0 ps) (hs : Small ps) (q : ∀ m H', H m = none → Same H H' → ModAt c H' m ps → PP m H') :
    ∀ x dx, H x = none → H dx = none → dx ≠ x → spModInit c (.ref x :: ([.ref l] ++ [])) (upd (upd H dx (.own x)) x (.ins c.md dx [])) (fun v H2 => v = .non ∧ PP x H2) E := fun x dx nx nd ne => by
  have up : Same H (upd (upd H dx (.own x)) x (.ins c.md dx [])) := fun b o e => by rw [upd_ne (ne_of_none e nx), upd_ne (ne_of_none e nd)]; exact e
  refine ⟨x, dx, l, ts, ps, rfl, upd_same, up _ _ hl, paired_imp (fun _ _ z => up _ _ z) hp, ha, hs, fun H' t k h1 h2 => ⟨rfl, ?_⟩⟩
  have sm : Same H H' := mk_same nx nd k
  exact q x H' nx sm ⟨dx, t, ts, h1, h2, paired_imp (fun _ _ z => sm _ _ z) hp, ha, hs⟩
def spMkInit (c : CA) : Sp := fun vs H Q _ => ∃ (x dx : Addr) (l : Bool) (s : Int) (d : Bool), vs = [.ref x, .bl l, .int s, .bl d] ∧ H x = some (.ins c.kg dx []) ∧
  ∀ H', (∀ b o, b ≠ x → H b = some o → H' b = some o) → H' x = some (.ins c.kg dx (mkF l s d)) → Q .non H'
theorem use_mk {c : CA} {H : Hp} {PP : Addr → Hp → Prop} {E : XK} {l : Bool} {s : Int} {d : Bool} (q : ∀ m H', H m = none → Same H H' → MkAt c H' m l s d → PP m H') :
    ∀ x dx, H x = none → H dx = none → dx ≠ x → spMkInit c [.ref x, .bl l, .int s, .bl d] (upd (upd H dx (.own x)) x (.ins c.kg dx [])) (fun v H2 => v = .non ∧ PP x H2) E := fun x dx nx nd ne =>
  ⟨x, dx, l, s, d, rfl, upd_same, fun H' k h1 => ⟨rfl, q x H' nx (mk_same nx nd k) ⟨dx, h1⟩⟩⟩
def spHf (c : CA) : Sp := fun vs H Q _ => ∃ (k a : Addr) (y : Sty) (ls : List Int), vs = [.ref k, .ref a] ∧ MkAt c H k y.low y.shift y.lead ∧ H a = some (.tup (ls.map V.int)) ∧ ls.length ≤ 100000 ∧ ∀ H' l, Same H H' → H' l = some (.lst ((hf y ls).map V.int)) → Q (.ref l) H'
def spRestAt : Sp := fun vs H Q _ => ∃ (a : Addr) (cs : List Int) (b n : Int) (B : Nat), vs = [.ref a, .int b, .int n] ∧ H a = some (.lst (cs.map V.int)) ∧ 0 ≤ b ∧ b < n ∧ n.natAbs < 2 ^ B ∧ B ≤ 100000 ∧ Q (.int (restAt cs b n)) H
def spMkOf (c : CA) : Sp := fun vs H Q _ => ∃ (v : V) (y : Sty), vs = [v] ∧ ((v = .non ∧ y = ⟨false, 0, false⟩) ∨ ∃ k, v = .ref k ∧ MkAt c H k y.low y.shift y.lead) ∧ ∀ H' k, Same H H' → MkAt c H' k y.low y.shift y.lead → Q (.ref k) H'
def spReqMod (c : CA) : Sp := fun vs H Q _ => ∃ (m dx : Addr) (fs : List (Str × V)), vs = [.ref m] ∧ H m = some (.ins c.md dx fs) ∧ Q .non H
def spReqWay (c : CA) : Sp := fun vs H Q _ => ∃ (m dx : Addr) (fs : List (Str × V)), vs = [.ref m] ∧ H m = some (.ins c.wy dx fs) ∧ Q .non H
def spReqStock : Sp := fun vs H Q _ => ∃ n : Int, vs = [.int n] ∧ 1 ≤ n ∧ Q .non H
def spWayInit (c : CA) : Sp := fun vs H Q _ => ∃ (x dx m : Addr) (b : Int) (mv : V) (ps : List (Int × Int)) (y : Sty), vs = [.ref x, .int b, .ref m, mv] ∧ H x = some (.ins c.wy dx []) ∧ ModAt c H m ps ∧ ((mv = .non ∧ y = ⟨false, 0, false⟩) ∨ ∃ k, mv = .ref k ∧ MkAt c H k y.low y.shift y.lead) ∧
  ∀ H' k, (∀ b o, b ≠ x → H b = some o → H' b = some o) → H' x = some (.ins c.wy dx (wyF k m (num ps) (b % num ps))) → MkAt c H' k y.low y.shift y.lead → Q .non H'
theorem use_way {c : CA} {H : Hp} {PP : Addr → Hp → Prop} {E : XK} {m : Addr} {b : Int} {mv : V} {ps : List (Int × Int)} {y : Sty} (hm : ModAt c H m ps) (hk : (mv = .non ∧ y = ⟨false, 0, false⟩) ∨ ∃ k, mv = .ref k ∧ MkAt c H k y.low y.shift y.lead)
    (q : ∀ m H', H m = none → Same H H' → WayAt c H' m (b % num ps) ps y → PP m H') :
    ∀ x dx, H x = none → H dx = none → dx ≠ x → spWayInit c [.ref x, .int b, .ref m, mv] (upd (upd H dx (.own x)) x (.ins c.wy dx [])) (fun v H2 => v = .non ∧ PP x H2) E := fun x dx nx nd ne => by
  have up : Same H (upd (upd H dx (.own x)) x (.ins c.wy dx [])) := fun b o e => by rw [upd_ne (ne_of_none e nx), upd_ne (ne_of_none e nd)]; exact e
  refine ⟨x, dx, m, b, mv, ps, y, rfl, upd_same, hm.same up, ?_, fun H' k kp h1 h2 => ⟨rfl, ?_⟩⟩
  · rcases hk with h | ⟨k, e, h⟩
    · exact .inl h
    · exact .inr ⟨k, e, h.same up⟩
  · have sm : Same H H' := mk_same nx nd kp
    have hn : 0 < num ps := by
      obtain ⟨_, _, _, _, _, _, _, h⟩ := hm
      exact num_pos h
    exact q x H' nx sm ⟨dx, m, k, h1, hm.same sm, h2, Int.emod_nonneg _ (by omega), Int.emod_lt_of_pos _ hn⟩
def spOfLetters (c : CA) : Sp := fun vs H Q _ => ∃ (x a : Addr) (b : Int) (ps : List (Int × Int)) (y : Sty) (ls : List Int), vs = [.ref x, .ref a] ∧ WayAt c H x b ps y ∧ H a = some (.tup (ls.map V.int)) ∧ ls.length ≤ 100000 ∧ ∀ H', Same H H' → Q (.int (mark y b (num ps) ls)) H'
def spMarkOf (c : CA) : Sp := fun vs H Q _ => ∃ (x : Addr) (v : V) (b : Int) (ps : List (Int × Int)) (y : Sty) (ls : List Int), vs = [.ref x, v] ∧ WayAt c H x b ps y ∧ TextAt H v ls ∧ ∀ H', Same H H' → Q (.int (mark y b (num ps) ls)) H'
def spTwo (c : CA) (r : Sty → Int → Int → List Int → List Int → Bool) : Sp := fun vs H Q _ => ∃ (x : Addr) (v u : V) (b : Int) (ps : List (Int × Int)) (y : Sty) (ls ms : List Int), vs = [.ref x, v, u] ∧ WayAt c H x b ps y ∧ TextAt H v ls ∧ TextAt H u ms ∧ ∀ H', Same H H' → Q (.bl (r y b (num ps) ls ms)) H'
def rAgree (y : Sty) (b n : Int) (ls ms : List Int) : Bool := decide (mark y b n ls = mark y b n ms)
def rClash (y : Sty) (b n : Int) (ls ms : List Int) : Bool := decide (ls ≠ ms) && decide (mark y b n ls = mark y b n ms)
/-! ### calls by keyword, calls without arguments -/
section
variable {X : Cx} {k j : Nat} {x : Str} {C : Addr} {sp : Sp} {dvs : List V} {p pos : Pos} {ks : List Str} {gV : List V → List V → List V} {kws : List Keyword} {tk : TA}
theorem pe_mk0 (c : C8.Mak X.prog X.w X.K X.mg X.base k x C sp dvs) (hr : Room j X.A) (hk : k + 1 ≤ j) (hg : Gl X x) (hdb : (x == ("__debug__" : Str)) = false := by decide) : PE X (.Call (.Name x p) [] [] pos) (tMake C sp dvs L2.E0 tNil) := by
  obtain ⟨f, fd, ps, ds, M, F, hm, b, d⟩ := c.ex
  exact pe_make0 M F (hr.mono hk) hg hm b d pass0 hdb
structure MakK (P : Program) (w : World) (K : PySem.W.Frag) (mg : Str → Option Value) (base : Heap) (k : Nat) (x : Str) (C : Addr) (ks : List Str) (sp : Sp) (gV : List V → List V → List V) : Prop where
  ex : ∃ (f : Addr) (fd : FuncData) (ps : List Str) (g : List Value → List Value → List Value), Mk K C f ∧ FnOk P w K mg base L2.CX0 k f fd ps sp ∧ mg x = some (.ref C) ∧ KBn K fd ps 1 ks g gV
theorem pe_mkK0 (c : MakK X.prog X.w X.K X.mg X.base k x C ks sp gV) (hr : Room j X.A) (hk : k + 1 ≤ j) (hg : Gl X x) (hkw : PK X kws tk)
    (hall : (backToKw pos (keywordEach kws X.env)).all (·.1.isSome) = true := by rfl) (hks : (backToKw pos (keywordEach kws X.env)).filterMap (·.1) = ks := by rfl) (hdb : (x == ("__debug__" : Str)) = false := by decide)
    (hpl : ((backTo pos (starEach [] X.env)).any (·.1) || (backToKw pos (keywordEach kws X.env)).any (·.1.isNone)) = false := by rfl) :
    PE X (.Call (.Name x p) [] kws pos) (tMakeK C 0 ks.length sp gV L2.E0 tNil tk) := by
  obtain ⟨f, fd, ps, g, M, F, hm, b⟩ := c.ex
  exact pe_makeK0 M F (hr.mono hk) hg hm b pass0 hkw hall hks hdb hpl
structure CalK (P : Program) (w : World) (K : PySem.W.Frag) (mg : Str → Option Value) (base : Heap) (k : Nat) (x : Str) (ks : List Str) (sp : Sp) (gV : List V → List V → List V) : Prop where
  ex : ∃ (f : Addr) (fd : FuncData) (ps : List Str) (g : List Value → List Value → List Value), FnOk P w K mg base L2.CX0 k f fd ps sp ∧ mg x = some (.ref f) ∧ PySem.W.keepIn K (.ref f) = true ∧ KBn K fd ps 0 ks g gV
theorem pe_cK0 (c : CalK X.prog X.w X.K X.mg X.base k x ks sp gV) (hr : Room j X.A) (hk : k ≤ j) (hg : Gl X x) (hkw : PK X kws tk)
    (hall : (backToKw pos (keywordEach kws X.env)).all (·.1.isSome) = true := by rfl) (hks : (backToKw pos (keywordEach kws X.env)).filterMap (·.1) = ks := by rfl) (hdb : (x == ("__debug__" : Str)) = false := by decide)
    (hpl : ((backTo pos (starEach [] X.env)).any (·.1) || (backToKw pos (keywordEach kws X.env)).any (·.1.isNone)) = false := by rfl) :
    PE X (.Call (.Name x p) [] kws pos) (tCallN 0 ks.length sp gV L2.E0 tNil tk) := by
  obtain ⟨f, fd, ps, g, F, hm, kp, b⟩ := c.ex
  refine ⟨fun pins s σ H Q I h => ?_⟩
  refine wpAny_Call_Name_kw (ld_glob I hg hm ?_ hdb)
  refine PySem.W.callWith_KW0 (h₀ := X.base) I.ok.mod.kin kp hall ?_ hpl
  refine thn (hkw.run pos pins s σ H _ I h) fun ws s2 ⟨zs, H2, I2, rz, l1, l2, q2⟩ => ⟨I2.kIn, ?_⟩
  rw [hks]
  exact run_fnN (us := []) (vs := []) F (hr.mono hk) b pass0 I2 .nil rz rfl l2 q2
theorem w_makeK {σ : L2.St} {H : Hp} {Q : VK} {n m : Nat} {E : XK} {t tk : TA} (q : t σ H fun vs H1 => tk σ H1 fun zs H2 => vs.length = n ∧ zs.length = m ∧ ∀ x dx, H2 x = none → H2 dx = none → dx ≠ x → sp (gV (.ref x :: vs) zs) (upd (upd H2 dx (.own x)) x (.ins C dx [])) (fun v H3 => v = .non ∧ Q (.ref x) H3) E) : tMakeK C n m sp gV E t tk σ H Q := q
theorem w_callN {σ : L2.St} {H : Hp} {Q : VK} {n m : Nat} {E : XK} {t tk : TA} (q : t σ H fun vs H1 => tk σ H1 fun zs H2 => vs.length = n ∧ zs.length = m ∧ sp (gV vs zs) H2 Q E) : tCallN n m sp gV E t tk σ H Q := q
end
/-! ### lists of ints as data -/
section
variable {K : PySem.W.Frag} {H : Hp}
theorem dp_ints : ∀ ls : List Int, DpAll K H (ls.map V.int) (ls.map PyData.int)
  | [] => .nil
  | i :: r => .cons (.int i) (dp_ints r)
theorem eqv_ints : ∀ ls ms : List Int, PyData.eqvAll (ls.map PyData.int) (ms.map PyData.int) = decide (ls = ms)
  | [], [] => by simp [PyData.eqvAll]
  | [], _ :: _ => by simp [PyData.eqvAll]
  | _ :: _, [] => by simp [PyData.eqvAll]
  | i :: r, j :: t => by
    rw [List.map_cons, List.map_cons, PyData.eqvAll, eqv_ints r t, PyData.eqv]
    simp only [List.cons.injEq, Bool.decide_and]
    congr 1
theorem lay_ints : ∀ ls : List Int, PyData.canLayAll0 (ls.map PyData.int) = true
  | [] => rfl
  | i :: r => by
    rw [List.map_cons, PyData.canLayAll0, lay_ints r]
    rfl
theorem depth_ints : ∀ ls : List Int, PyData.depthAll (ls.map PyData.int) = 0
  | [] => rfl
  | i :: r => by
    rw [List.map_cons, PyData.depthAll, depth_ints r]
    rfl
theorem shaped_tup (ls : List Int) : SeqAt.shaped (.tuple (ls.map PyData.int)) = true := by
  unfold SeqAt.shaped
  rw [PyData.canLay0, lay_ints, PyData.depth, depth_ints]
  rfl
theorem shaped_lst (ls : List Int) : SeqAt.shaped (.list (ls.map PyData.int)) = true := by
  unfold SeqAt.shaped
  rw [PyData.canLay0, lay_ints, PyData.depth, depth_ints]
  rfl
theorem w_neTT {a b : Addr} {ls ms : List Int} {Q : VK} (ha : SqT K H a (ls.map V.int)) (hb : SqT K H b (ms.map V.int)) (q : Q (.bl (!decide (ls = ms))) H) : rNeD K (.ref a) (.ref b) H Q :=
  ⟨_, _, .tup ha (dp_ints ls), .tup hb (dp_ints ms), shaped_tup _, shaped_tup _, by rw [PyData.eqv, eqv_ints]; exact q⟩
theorem w_eqTT {a b : Addr} {ls ms : List Int} {Q : VK} (ha : SqT K H a (ls.map V.int)) (hb : SqT K H b (ms.map V.int)) (q : Q (.bl (decide (ls = ms))) H) : rEqD K (.ref a) (.ref b) H Q :=
  ⟨_, _, .tup ha (dp_ints ls), .tup hb (dp_ints ms), shaped_tup _, shaped_tup _, by rw [PyData.eqv, eqv_ints]; exact q⟩
theorem w_neLL {a b : Addr} {ls ms : List Int} {Q : VK} (ha : SqL K H a (ls.map V.int)) (hb : SqL K H b (ms.map V.int)) (q : Q (.bl (!decide (ls = ms))) H) : rNeD K (.ref a) (.ref b) H Q :=
  ⟨_, _, .lst ha (dp_ints ls), .lst hb (dp_ints ms), shaped_lst _, shaped_lst _, by rw [PyData.eqv, eqv_ints]; exact q⟩
theorem w_eqLL {a b : Addr} {ls ms : List Int} {Q : VK} (ha : SqL K H a (ls.map V.int)) (hb : SqL K H b (ms.map V.int)) (q : Q (.bl (decide (ls = ms))) H) : rEqD K (.ref a) (.ref b) H Q :=
  ⟨_, _, .lst ha (dp_ints ls), .lst hb (dp_ints ms), shaped_lst _, shaped_lst _, by rw [PyData.eqv, eqv_ints]; exact q⟩
theorem w_revi {x : Addr} {xs : List V} {P : Addr → Hp → Prop} (h : SqL K H x xs) (q : ∀ p, H p = none → P p (upd H p (.lst xs.reverse))) : ∃ a xs, V.ref x = .ref a ∧ SqL K H a xs ∧ ∀ p, H p = none → P p (upd H p (.lst xs.reverse)) := ⟨x, xs, rfl, h, q⟩
end
theorem mk_low {l : Bool} {s : Int} {d : Bool} : (mkF l s d).lookup ("low" : Str) = some (.bl l) := lk0
theorem mk_shift {l : Bool} {s : Int} {d : Bool} : (mkF l s d).lookup ("shift" : Str) = some (.int s) := (lkS (by decide +kernel)).trans lk0
theorem mk_lead {l : Bool} {s : Int} {d : Bool} : (mkF l s d).lookup ("lead" : Str) = some (.bl d) := (lkS (by decide +kernel)).trans ((lkS (by decide +kernel)).trans lk0)
theorem mk_no {l : Bool} {s : Int} {d : Bool} {m : Str} (h1 : m ≠ ("low" : Str)) (h2 : m ≠ ("shift" : Str)) (h3 : m ≠ ("lead" : Str)) : (mkF l s d).lookup m = none := (lkS h1).trans ((lkS h2).trans ((lkS h3).trans rfl))
theorem md_number {n : Int} {t : Addr} : (mdF n t).lookup ("number" : Str) = some (.int n) := lk0
theorem md_factors {n : Int} {t : Addr} : (mdF n t).lookup ("factors" : Str) = some (.ref t) := (lkS (by decide +kernel)).trans lk0
theorem wy_marking {k m : Addr} {n b : Int} : (wyF k m n b).lookup ("marking" : Str) = some (.ref k) := lk0
theorem wy_modulus {k m : Addr} {n b : Int} : (wyF k m n b).lookup ("modulus" : Str) = some (.ref m) := (lkS (by decide +kernel)).trans lk0
theorem wy_number {k m : Addr} {n b : Int} : (wyF k m n b).lookup ("number" : Str) = some (.int n) := (lkS (by decide +kernel)).trans ((lkS (by decide +kernel)).trans lk0)
theorem wy_base {k m : Addr} {n b : Int} : (wyF k m n b).lookup ("base" : Str) = some (.int b) := (lkS (by decide +kernel)).trans ((lkS (by decide +kernel)).trans ((lkS (by decide +kernel)).trans lk0))
theorem wy_no {k m : Addr} {n b : Int} {f : Str} (h1 : f ≠ ("marking" : Str)) (h2 : f ≠ ("modulus" : Str)) (h3 : f ≠ ("number" : Str)) (h4 : f ≠ ("base" : Str)) : (wyF k m n b).lookup f = none := (lkS h1).trans ((lkS h2).trans ((lkS h3).trans ((lkS h4).trans rfl)))
theorem rest_take {cs : List Int} {i : Nat} {v b n : Int} (h : cs[i]? = some v) : restAt (cs.take (i + 1)) b n = (restAt (cs.take i) b n * b + v) % n := by
  obtain ⟨hi, e⟩ := List.getElem?_eq_some_iff.mp h
  unfold restAt
  rw [List.take_succ_eq_append_getElem hi, List.foldl_append, e]
  rfl
theorem rest_range {b n : Int} (hn : 0 < n) : ∀ (cs : List Int), 0 ≤ restAt cs b n ∧ restAt cs b n < n := fun cs => by
  unfold restAt
  have : ∀ (cs : List Int) (a : Int), 0 ≤ a → a < n → 0 ≤ cs.foldl (fun f c => (f * b + c) % n) a ∧ cs.foldl (fun f c => (f * b + c) % n) a < n := by
    intro cs
    induction cs with
    | nil => exact fun a h1 h2 => ⟨h1, h2⟩
    | cons c r ih => exact fun a h1 h2 => ih _ (Int.emod_nonneg _ (by omega)) (Int.emod_lt_of_pos _ hn)
  exact this cs 0 (Int.le_refl _) hn
theorem map_rev (f : Int → V) (l : List Int) : (l.map f).reverse = l.reverse.map f := by rw [List.map_reverse]
theorem w_tyL {K : PySem.W.Frag} {H : Hp} {a : Addr} {xs : List V} {P : Prop} (h : SqL K H a xs) (q : P) : tyV K "list" (.ref a) H ∧ P := ⟨Or.inl ⟨rfl, _, h⟩, q⟩
theorem decI {a b : Int} : decide (V.int a = V.int b) = decide (a = b) := by
  by_cases z : a = b
  · rw [decide_eq_true z, decide_eq_true (by rw [z])]
  · rw [decide_eq_false z, decide_eq_false (fun w => z (by injection w))]
theorem w_m1 {σ : L2.St} {H : Hp} {Q : VK} {r : V → List V → Hp → VK → Prop} {to te : TE} (q : to σ H fun x H1 => (∃ a, x = .str a) ∧ te σ H1 fun y H2 => r x [y] H2 Q) : tM1 r to te σ H Q := q
theorem w_isStr {z : Str} {P : Prop} (q : P) : (∃ a, V.str z = .str a) ∧ P := ⟨⟨z, rfl⟩, q⟩
/-! ### what the purse leaves alone -/
section
variable {a b : Addr} {c : Int} {H H' : Hp} {o : HO}
theorem Purse.ne (p : Purse H a c) (h : H b = some o) (d : ∀ x y z : Int, o ≠ .lst [.int x, .int y, .int z]) : b ≠ a := fun e => by
  obtain ⟨x, y, z, h1, _⟩ := p
  rw [e, h1] at h
  exact d x y z (Option.some.inj h).symm
theorem Purse.fresh (p : Purse H a c) (h : H b = none) : b ≠ a := fun e => by
  obtain ⟨x, y, z, h1, _⟩ := p
  rw [e, h1] at h
  cases h
theorem Keep.free (k : Keep a H H') (p : Purse H' a c) (h : H' b = none) : H b = none := by
  cases e : H b with
  | none => rfl
  | some o =>
    by_cases z : b = a
    · obtain ⟨_, _, _, e2, _⟩ := p
      rw [z, e2] at h
      cases h
    · rw [k _ _ z e] at h
      cases h
theorem Keep.tup {xs : List V} (k : Keep a H H') (p : Purse H a c) (h : H b = some (.tup xs)) : H' b = some (.tup xs) := k b _ (p.ne h fun _ _ _ z => by cases z) h
theorem Keep.ins {C dx : Addr} {fs : List (Str × V)} (k : Keep a H H') (p : Purse H a c) (h : H b = some (.ins C dx fs)) : H' b = some (.ins C dx fs) := k b _ (p.ne h fun _ _ _ z => by cases z) h
/-- a list of pairs -/
def PrL (H : Hp) (l : Addr) (ps : List (Int × Int)) : Prop := ∃ ts : List Addr, H l = some (.lst (ts.map V.ref)) ∧ Paired (Tp H) ps ts
theorem refs_ne {ts : List Addr} (x y z : Int) : HO.lst (ts.map V.ref) ≠ .lst [.int x, .int y, .int z] := fun e => by
  injection e with e
  cases ts with
  | nil => cases e
  | cons t r =>
    rw [List.map_cons] at e
    injection e with e1
    cases e1
theorem PrL.keep {l : Addr} {ps : List (Int × Int)} (h : PrL H l ps) (p : Purse H a c) (k : Keep a H H') : PrL H' l ps := by
  obtain ⟨ts, h1, h2⟩ := h
  exact ⟨ts, k l _ (p.ne h1 refs_ne) h1, paired_imp (fun _ _ z => k.tup p z) h2⟩
theorem PrL.same {l : Addr} {ps : List (Int × Int)} (h : PrL H l ps) (s : Same H H') : PrL H' l ps := by
  obtain ⟨ts, h1, h2⟩ := h
  exact ⟨ts, s _ _ h1, paired_imp (fun _ _ z => s _ _ z) h2⟩
theorem ModAt.keep {ca : CA} {m : Addr} {ps : List (Int × Int)} (h : ModAt ca H m ps) (p : Purse H a c) (k : Keep a H H') : ModAt ca H' m ps := by
  obtain ⟨dx, t, ts, h1, h2, h3, h4⟩ := h
  exact ⟨dx, t, ts, k.ins p h1, k.tup p h2, paired_imp (fun _ _ z => k.tup p z) h3, h4⟩
theorem MkAt.keep {ca : CA} {m : Addr} {l : Bool} {s : Int} {d : Bool} (h : MkAt ca H m l s d) (p : Purse H a c) (k : Keep a H H') : MkAt ca H' m l s d := by
  obtain ⟨dx, h1⟩ := h
  exact ⟨dx, k.ins p h1⟩
theorem WayAt.keep {ca : CA} {m : Addr} {b : Int} {ps : List (Int × Int)} {y : Sty} (h : WayAt ca H m b ps y) (p : Purse H a c) (k : Keep a H H') : WayAt ca H' m b ps y := by
  obtain ⟨dx, m1, k1, h1, h2, h3, h4⟩ := h
  exact ⟨dx, m1, k1, k.ins p h1, h2.keep p k, h3.keep p k, h4⟩
theorem Keep.new (p : Purse H a c) {q : Addr} (n : H q = none) : Keep a H (L2.upd H q o) := .of (Same.new n)
end
theorem Asc.snoc : ∀ {l : Int} {ps : List (Int × Int)} {q : Int × Int}, Asc l ps → (ps.getLast?.map (·.1)).getD l < q.1 → 0 < q.2 → Pr q.1 → Asc l (ps ++ [q])
  | l, [], q, _, h1, h2, h3 => ⟨h1, h2, h3, trivial⟩
  | l, r :: ps, q, a, h1, h2, h3 => by
    refine ⟨a.1, a.2.1, a.2.2.1, Asc.snoc a.2.2.2 ?_ h2 h3⟩
    rw [List.getLast?_cons] at h1
    cases hh : ps.getLast? with
    | none => rw [hh] at h1; exact h1
    | some z => rw [hh] at h1; exact h1
instance (n : Int) : Decidable (∀ d : Int, 2 ≤ d → d * d ≤ n → n % d ≠ 0) := 
  if h : ∀ k : Fin 64, (2 ≤ k.val ∧ (k.val : Int) * k.val ≤ n) → n % (k.val : Int) ≠ 0 then
    if h2 : n < 4096 then .isTrue (fun d h3 h4 => by
      have hd : d < 64 := by
        refine Int.not_le.mp fun z => ?_
        have := Int.mul_le_mul z z (by decide) (by omega)
        omega
      have e : ((d.toNat : Nat) : Int) = d := Int.toNat_of_nonneg (by omega)
      have := h ⟨d.toNat, by omega⟩ ⟨by show 2 ≤ d.toNat; omega, by show ((d.toNat : Nat) : Int) * ((d.toNat : Nat) : Int) ≤ n; rw [e]; exact h4⟩
      rwa [show (((⟨d.toNat, by omega⟩ : Fin 64).val : Nat) : Int) = d from e] at this)
    else if h5 : ∀ k : Fin n.toNat, (2 ≤ k.val ∧ (k.val : Int) * k.val ≤ n) → n % (k.val : Int) ≠ 0 then .isTrue (fun d h3 h4 => by
      have hd : d < n := by
        refine Int.not_le.mp fun z => ?_
        have : n * 2 ≤ d * d := Int.mul_le_mul z h3 (by decide) (by omega)
        omega
      have e : ((d.toNat : Nat) : Int) = d := Int.toNat_of_nonneg (by omega)
      have := h5 ⟨d.toNat, by omega⟩ ⟨by show 2 ≤ d.toNat; omega, by show ((d.toNat : Nat) : Int) * ((d.toNat : Nat) : Int) ≤ n; rw [e]; exact h4⟩
      rwa [show (((⟨d.toNat, by omega⟩ : Fin n.toNat).val : Nat) : Int) = d from e] at this)
    else .isFalse fun z => h5 fun k hk => z k.val (by omega) hk.2
  else .isFalse fun z => h fun k hk => z k.val (by omega) hk.2
instance (n : Int) : Decidable (Pr n) := inferInstanceAs (Decidable (_ ∧ _))
def PL : List Int := [2, 3, 5, 7, 11, 13, 97, 101, 499, 991, 997]
def KL : List Int := [12, 5, 3, 3, 2, 2, 2, 2, 2, 8, 12]
theorem PL_pr : ∀ i : Fin 11, Pr (PL.getD i.val 0) ∧ 0 < PL.getD i.val 0 ∧ PL.getD i.val 0 < 1024 ∧ PL.getD i.val 0 < PL.getD (i.val + 1) 10000 ∧ PL.getD i.val 0 = PL.getD i.val 10000 := by decide +kernel
theorem KL_pr : ∀ i : Fin 11, 0 < KL.getD i.val 0 ∧ KL.getD i.val 0 ≤ 12 := by decide +kernel
theorem prN {p : Int} (h : Pr p) (d : Nat) (hd : d ∣ p.natAbs) : d = 1 ∨ d = p.natAbs := by
  obtain ⟨e, he⟩ := hd
  have hp := h.1
  have h0 : p = ((d * e : Nat) : Int) := by omega
  by_cases d1 : d = 1
  · exact .inl d1
  by_cases e1 : e = 1
  · right; rw [he, e1, Nat.mul_one]
  exfalso
  have d0 : d ≠ 0 := fun z => by rw [z, Nat.zero_mul] at he; omega
  have e0 : e ≠ 0 := fun z => by rw [z, Nat.mul_zero] at he; omega
  by_cases c : d ≤ e
  · refine h.2 d (by omega) ?_ ?_
    · rw [h0]
      have : d * d ≤ d * e := Nat.mul_le_mul_left d c
      exact_mod_cast this
    · rw [h0, Int.natCast_mul]
      exact Int.mul_emod_right _ _
  · refine h.2 e (by omega) ?_ ?_
    · rw [h0]
      have : e * e ≤ d * e := Nat.mul_le_mul_right e (by omega)
      exact_mod_cast this
    · rw [h0, Int.natCast_mul]
      exact Int.mul_emod_left _ _
theorem cop_or {p : Int} (h : Pr p) (b : Nat) : p.natAbs ∣ b ∨ Nat.Coprime b p.natAbs := by
  rcases prN h _ (Nat.gcd_dvd_right b p.natAbs) with e | e
  · exact .inr e
  · left
    have := Nat.gcd_dvd_left b p.natAbs
    rwa [e] at this
def numN (ps : List (Int × Int)) : Nat := ps.foldl (fun n p => n * p.1.natAbs ^ p.2.toNat) 1
theorem numN_fold (ps : List (Int × Int)) : ∀ a : Nat, ps.foldl (fun n p => n * p.1.natAbs ^ p.2.toNat) a = a * numN ps := by
  unfold numN
  induction ps with
  | nil => intro a; simp
  | cons q r ih =>
    intro a
    rw [List.foldl_cons, List.foldl_cons, ih, ih (1 * _), Nat.one_mul, Nat.mul_assoc]
theorem numN_cons (q : Int × Int) (ps : List (Int × Int)) : numN (q :: ps) = q.1.natAbs ^ q.2.toNat * numN ps := by
  show List.foldl _ _ _ = _
  rw [List.foldl_cons, numN_fold, Nat.one_mul]
theorem num_fold (ps : List (Int × Int)) : ∀ a : Int, ps.foldl (fun n p => n * p.1 ^ p.2.toNat) a = a * num ps := by
  unfold num
  induction ps with
  | nil => intro a; simp
  | cons q r ih =>
    intro a
    rw [List.foldl_cons, List.foldl_cons, ih, ih (1 * _), Int.one_mul, Int.mul_assoc]
theorem num_cons (q : Int × Int) (ps : List (Int × Int)) : num (q :: ps) = q.1 ^ q.2.toNat * num ps := by
  show List.foldl _ _ _ = _
  rw [List.foldl_cons, num_fold, Int.one_mul]
theorem num_cast : ∀ {l : Int} {ps : List (Int × Int)}, 0 ≤ l → Asc l ps → num ps = (numN ps : Int)
  | _, [], _, _ => rfl
  | l, q :: r, h0, a => by
    have h1 := a.1
    rw [num_cons, numN_cons, num_cast (l := q.1) (by omega) a.2.2.2, Int.natCast_mul, Int.natCast_pow, Int.natAbs_of_nonneg (by omega)]
theorem Asc.lt : ∀ {l : Int} {ps : List (Int × Int)}, Asc l ps → ∀ q ∈ ps, l < q.1 ∧ 0 < q.2 ∧ Pr q.1
  | _, [], _, q, h => by cases h
  | l, r :: ps, a, q, h => by
    rcases List.mem_cons.mp h with e | e
    · rw [e]; exact ⟨a.1, a.2.1, a.2.2.1⟩
    · have := Asc.lt a.2.2.2 q e
      exact ⟨Int.lt_trans a.1 this.1, this.2⟩
theorem cop_num {p : Int} (hp : Pr p) (k : Nat) : ∀ {ps : List (Int × Int)}, (∀ q ∈ ps, p < q.1 ∧ 0 < q.2 ∧ Pr q.1) → Nat.Coprime (p.natAbs ^ k) (numN ps)
  | [], _ => Nat.coprime_one_right _
  | q :: r, h => by
    rw [numN_cons]
    refine Nat.Coprime.mul_right (Nat.Coprime.pow _ _ ?_) (cop_num hp k fun q hq => h q (List.mem_cons_of_mem _ hq))
    have hq := h q (List.mem_cons_self ..)
    have hp1 := hp.1
    rcases cop_or hq.2.2 p.natAbs with z | z
    · exfalso
      have := Nat.le_of_dvd (by omega) z
      omega
    · exact z
theorem gcd_stab {b S e : Nat} (he : S ≤ e) : ∀ {l : Int} {ps : List (Int × Int)}, Asc l ps → (∀ q ∈ ps, q.2.toNat ≤ S) → Nat.gcd (b ^ e) (numN ps) = Nat.gcd (b ^ S) (numN ps)
  | _, [], _, _ => by
    show Nat.gcd _ 1 = Nat.gcd _ 1
    rw [Nat.gcd_one_right, Nat.gcd_one_right]
  | l, q :: r, a, h => by
    have hk := h q (List.mem_cons_self ..)
    have hc : Nat.Coprime (q.1.natAbs ^ q.2.toNat) (numN r) := cop_num a.2.2.1 _ (Asc.lt a.2.2.2)
    rw [numN_cons, Nat.Coprime.gcd_mul _ hc, Nat.Coprime.gcd_mul _ hc, gcd_stab he a.2.2.2 fun q hq => h q (List.mem_cons_of_mem _ hq)]
    congr 1
    rcases cop_or a.2.2.1 b with z | z
    · have h1 : ∀ m, q.2.toNat ≤ m → q.1.natAbs ^ q.2.toNat ∣ b ^ m := fun m hm => Nat.dvd_trans (Nat.pow_dvd_pow _ hm) ((Nat.pow_dvd_pow_iff (by have := a.2.1; omega)).mpr z)
      rw [Nat.gcd_eq_right (h1 e (by omega)), Nat.gcd_eq_right (h1 S hk)]
    · rw [(Nat.Coprime.pow e q.2.toNat z), (Nat.Coprime.pow S q.2.toNat z)]
/-- a step that a number hides -/
theorem miss_iff {n x A : Nat} (hn : 0 < n) : (∃ s, 1 ≤ s ∧ s < A ∧ n ∣ s * x) ↔ n / Nat.gcd x n < A := by
  have hg : 0 < Nat.gcd x n := Nat.gcd_pos_of_pos_right _ hn
  have hgn := Nat.gcd_dvd_right x n
  have hgx := Nat.gcd_dvd_left x n
  constructor
  · rintro ⟨s, s1, s2, h⟩
    have h1 : n / Nat.gcd x n ∣ s := by
      have hc : Nat.Coprime (n / Nat.gcd x n) (x / Nat.gcd x n) := (Nat.coprime_div_gcd_div_gcd hg).symm
      refine hc.dvd_of_dvd_mul_right ?_
      obtain ⟨t, ht⟩ := h
      refine ⟨t, ?_⟩
      have e1 : n / Nat.gcd x n * Nat.gcd x n = n := Nat.div_mul_cancel hgn
      have e2 : x / Nat.gcd x n * Nat.gcd x n = x := Nat.div_mul_cancel hgx
      refine Nat.eq_of_mul_eq_mul_right hg ?_
      rw [Nat.mul_assoc, e2, ht, Nat.mul_right_comm, e1]
    exact Nat.lt_of_le_of_lt (Nat.le_of_dvd (by omega) h1) s2
  · intro h
    refine ⟨n / Nat.gcd x n, Nat.div_pos (Nat.le_of_dvd hn hgn) hg, h, ?_⟩
    obtain ⟨t, ht⟩ := hgx
    refine ⟨t, ?_⟩
    have e1 : n / Nat.gcd x n * Nat.gcd x n = n := Nat.div_mul_cancel hgn
    calc n / Nat.gcd x n * x = n / Nat.gcd x n * (Nat.gcd x n * t) := by rw [← ht]
      _ = n * t := by rw [← Nat.mul_assoc, e1]
/-- the first of the places below N at which P holds -/
def Fst (P : Nat → Prop) (N : Nat) : Option Nat → Prop
  | none => ∀ e, e < N → ¬ P e
  | some e => e < N ∧ P e ∧ ∀ j, j < e → ¬ P j
theorem Fst.same {P P' : Nat → Prop} {N M S : Nat} {r r' : Option Nat} (h : Fst P N r) (h' : Fst P' M r') (e : ∀ j, P j ↔ P' j) (st : ∀ j, S ≤ j → P j → P S) (hN : S < N) (hM : S < M) : r = r' := by
  have low : ∀ j, P j → ∃ i, i ≤ S ∧ i ≤ j ∧ P i := fun j hj => by
    by_cases c : S ≤ j
    · exact ⟨S, Nat.le_refl _, c, st j c hj⟩
    · exact ⟨j, by omega, Nat.le_refl _, hj⟩
  cases r with
  | none =>
    cases r' with
    | none => rfl
    | some e' =>
      obtain ⟨i, h1, h2, h3⟩ := low e' ((e e').mpr h'.2.1)
      exact absurd h3 (h i (by omega))
  | some e1 =>
    cases r' with
    | none =>
      obtain ⟨i, h1, h2, h3⟩ := low e1 h.2.1
      exact absurd ((e i).mp h3) (h' i (by omega))
    | some e2 =>
      have a1 : ¬ e1 < e2 := fun z => h'.2.2 e1 z ((e e1).mp h.2.1)
      have a2 : ¬ e2 < e1 := fun z => h.2.2 e2 z ((e e2).mpr h'.2.1)
      have : e1 = e2 := by omega
      rw [this]
theorem max_pow {S0 : Nat} : ∀ {l : Int} {ps : List (Int × Int)}, 0 ≤ l → Asc l ps → (∀ q ∈ ps, q.2.toNat ≤ S0) → ∃ S, S ≤ S0 ∧ (∀ q ∈ ps, q.2.toNat ≤ S) ∧ 2 ^ S ≤ numN ps ∧ 0 < numN ps
  | _, [], _, _, _ => ⟨0, Nat.zero_le _, (fun q h => by cases h), Nat.le_refl _, Nat.zero_lt_one⟩
  | l, q :: r, h0, a, h => by
    have h1 := a.1
    obtain ⟨S, b1, b2, b3, b4⟩ := max_pow (S0 := S0) (l := q.1) (ps := r) (by omega) a.2.2.2 fun z hz => h z (List.mem_cons_of_mem _ hz)
    have hp := a.2.2.1.1
    have hq : 2 ^ q.2.toNat ≤ q.1.natAbs ^ q.2.toNat := Nat.pow_le_pow_left (by omega) _
    have hq0 : 0 < q.1.natAbs ^ q.2.toNat := Nat.lt_of_lt_of_le (Nat.pow_pos (by decide)) hq
    refine ⟨max S q.2.toNat, Nat.max_le.mpr ⟨b1, h q (List.mem_cons_self ..)⟩, fun z hz => ?_, ?_, ?_⟩
    · rcases List.mem_cons.mp hz with e | e
      · rw [e]; exact Nat.le_max_right _ _
      · exact Nat.le_trans (b2 z e) (Nat.le_max_left _ _)
    · rw [numN_cons]
      by_cases c : S ≤ q.2.toNat
      · rw [Nat.max_eq_right c]
        exact Nat.le_trans hq (Nat.le_mul_of_pos_right _ b4)
      · rw [Nat.max_eq_left (by omega)]
        exact Nat.le_trans b3 (Nat.le_mul_of_pos_left _ hq0)
    · rw [numN_cons]
      exact Nat.mul_pos hq0 b4
/-! ### comprehensions with a test, and such as draw -/
section
variable {J : It} {G : Hp → Prop} {tt : TT} {te : TE} {vs : List Nat} {σ : L2.St} {H : Hp} {D : Addr} {Qd : Hp → Prop} {j : Nat}
theorem lc_filt (xs : List V) (p : V → Bool) (f : V → V) (w : Walk J xs.length G (YAt xs)) (hD : H D = none) (hG : ∀ H', Same H H' → G H') (sz : xs.length ≤ 100000)
    (wp : ∀ v, wipe ((wipe σ vs).set j v) vs = wipe σ vs)
    (tst : ∀ (i : Nat) (x : V) (H' : Hp), xs[i]? = some x → Same H H' → ∀ Q' : Bool → Hp → Prop, (∀ H'', Same H' H'' → Q' (p x) H'') → tt ((wipe σ vs).set j (some x)) H' Q')
    (step : ∀ (i : Nat) (x : V) (H' : Hp), xs[i]? = some x → p x = true → Same H H' → ∀ Q' : VK, (∀ H'', Same H' H'' → Q' (f x) H'') → te ((wipe σ vs).set j (some x)) H' Q')
    (q : ∀ H', Same H H' → H' D = some (.lst ((xs.filter p).map f)) → Qd H') :
    ∃ W : Nat → Nat → Hp → Prop, (∃ m, W 0 m (upd H D (.lst []))) ∧ ∀ i m H, W i m H →
      (J.stop i H ∧ Qd H) ∨ (J.go i H ∧ ∃ Nx : Hp → Prop, (∀ H', Nx H' → ∃ m', m' < m ∧ W (i + 1) m' H') ∧ ∀ x H', J.yld i H x H' → gName j x (wipe σ vs) H' fun σ2 H2 => wipe σ2 vs = wipe σ vs ∧ tt σ2 H2 fun b H3 =>
        if b = true then te σ2 H3 fun y H4 => ∃ acc, H4 D = some (.lst acc) ∧ acc.length < sizeLine ∧ Nx (upd H4 D (.lst (acc ++ [y]))) else Nx H3) := by
  refine lc_it w (fun i H' => H' D = some (.lst (((xs.take i).filter p).map f)) ∧ Same H H') ⟨upd_same, Same.new hD⟩ (fun i H' _ h => hG H' h.2) ?_ ?_
  · rintro i x H1 H' hi ⟨h1, h2⟩ ⟨rfl, hx⟩
    refine ⟨wp _, ?_⟩
    have e : xs[i] = x := by rw [List.getElem?_eq_getElem hi] at hx; exact Option.some.inj hx
    have tk : xs.take (i + 1) = xs.take i ++ [x] := by rw [List.take_succ_eq_append_getElem hi, e]
    refine tst i x H' hx h2 _ fun H2 s2 => ?_
    by_cases hp : p x = true
    · rw [hp]
      refine iteT ?_
      refine step i x H2 hx hp (h2.trans s2) _ fun H3 s3 => ?_
      refine ⟨_, s3 _ _ (s2 _ _ h1), ?_, ?_, ?_⟩
      · rw [List.length_map]
        have h5 := List.length_filter_le p (xs.take i)
        rw [List.length_take] at h5
        have : (100000 : Nat) < sizeLine := by decide
        omega
      · rw [upd_same, tk, List.filter_append, List.map_append, List.filter_cons, if_pos hp]
        rfl
      · exact fun b o e => by
          rw [upd_ne (ne_of_none e hD)]
          exact s3 _ _ (s2 _ _ (h2 _ _ e))
    · have hp' : p x = false := by simpa using hp
      rw [hp']
      refine iteF ?_
      refine ⟨?_, h2.trans s2⟩
      rw [s2 _ _ h1, tk, List.filter_append, List.map_append, List.filter_cons, if_neg hp]
      simp
  · rintro H' ⟨h1, h2⟩
    refine q H' h2 ?_
    rw [h1, List.take_length]
/-- each turn draws: ints that R speaks of, the purse counted up by n a turn -/
theorem lc_draws (xs : List V) (a : Addr) (c n : Int) (R : Int → Prop) (w : Walk J xs.length G (YAt xs)) (pu : Purse H a c) (hD : H D = none) (hG : ∀ H', Keep a H H' → G H') (sz : xs.length ≤ 100000)
    (wp : ∀ v, wipe ((wipe σ vs).set j v) vs = wipe σ vs)
    (step : ∀ (i : Nat) (x : V) (H' : Hp), xs[i]? = some x → Keep a H H' → Purse H' a (c + n * i) → ∀ Q' : VK, (∀ (y : Int) (H'' : Hp), R y → Keep a H' H'' → Purse H'' a (c + n * ((i + 1 : Nat) : Int)) → Q' (.int y) H'') → te ((wipe σ vs).set j (some x)) H' Q')
    (q : ∀ (H' : Hp) (ys : List Int), ys.length = xs.length → (∀ y ∈ ys, R y) → H' D = some (.lst (ys.map V.int)) → Keep a H H' → Purse H' a (c + n * xs.length) → Qd H') :
    ∃ W : Nat → Nat → Hp → Prop, (∃ m, W 0 m (upd H D (.lst []))) ∧ ∀ i m H, W i m H →
      (J.stop i H ∧ Qd H) ∨ (J.go i H ∧ ∃ Nx : Hp → Prop, (∀ H', Nx H' → ∃ m', m' < m ∧ W (i + 1) m' H') ∧ ∀ x H', J.yld i H x H' → gName j x (wipe σ vs) H' fun σ2 H2 => wipe σ2 vs = wipe σ vs ∧ tYes σ2 H2 fun b H3 =>
        if b = true then te σ2 H3 fun y H4 => ∃ acc, H4 D = some (.lst acc) ∧ acc.length < sizeLine ∧ Nx (upd H4 D (.lst (acc ++ [y]))) else Nx H3) := by
  have nD : D ≠ a := pu.fresh hD
  refine lc_it w (fun i H' => ∃ ys : List Int, ys.length = i ∧ (∀ y ∈ ys, R y) ∧ H' D = some (.lst (ys.map V.int)) ∧ Keep a H H' ∧ Purse H' a (c + n * i)) ⟨[], rfl, (fun y h => by cases h), upd_same, .of (Same.new hD), (pu.same (Same.new hD)).le (by simp)⟩ (fun i H' _ h => by obtain ⟨_, _, _, _, k, _⟩ := h; exact hG H' k) ?_ ?_
  · rintro i x H1 H' hi ⟨ys, h1, h2, h3, h4, h5⟩ ⟨rfl, hx⟩
    refine ⟨wp _, w_yes ?_⟩
    rw [if_pos rfl]
    refine step i x H' hx h4 h5 _ fun y H2 r k2 p2 => ?_
    refine ⟨_, k2.at_ nD h3, ?_, ys ++ [y], ?_, ?_, ?_, ?_, ?_⟩
    · rw [List.length_map]
      have : (100000 : Nat) < sizeLine := by decide
      omega
    · rw [List.length_append, h1]
      rfl
    · intro z hz
      rcases List.mem_append.mp hz with e | e
      · exact h2 z e
      · have : z = y := by simpa using e
        rw [this]; exact r
    · rw [upd_same, List.map_append]
      rfl
    · intro b o nb hb
      rw [upd_ne (ne_of_none hb hD)]
      exact k2 _ _ nb (h4 _ _ nb hb)
    · obtain ⟨x1, y1, z1, e, r1⟩ := p2
      exact ⟨x1, y1, z1, by rw [upd_ne nD.symm]; exact e, r1⟩
  · rintro H' ⟨ys, h1, h2, h3, h4, h5⟩
    exact q H' ys h1 h2 h3 h4 h5
end
theorem walk_rangeY {lo : Int} {n : Nat} : Walk (Itr lo n) ((List.range n).map fun i : Nat => V.int (lo + i)).length (fun _ => True) (YAt ((List.range n).map fun i : Nat => V.int (lo + i))) := by
  have h := walk_range (lo := lo) (n := n)
  have e : ((List.range n).map fun i : Nat => V.int (lo + i)).length = n := by simp
  rw [e]
  refine h.mono (fun _ h => h) (fun i H x H' hi _ y => ?_)
  obtain ⟨rfl, rfl⟩ := y
  refine ⟨rfl, ?_⟩
  rw [List.getElem?_map, List.getElem?_range hi]
  rfl
/-! ### sums, and a letter exchanged -/
def hv (cs : List Int) (b : Int) : Int := cs.foldl (fun f c => f * b + c) 0
theorem hv_fold (cs : List Int) (b : Int) : ∀ a : Int, cs.foldl (fun f c => f * b + c) a = a * b ^ cs.length + hv cs b := by
  unfold hv
  induction cs with
  | nil => intro a; simp
  | cons c r ih =>
    intro a
    rw [List.foldl_cons, List.foldl_cons, ih, ih (0 * b + c), List.length_cons, Int.pow_succ, Int.zero_mul, Int.zero_add, Int.add_mul, Int.mul_assoc, Int.mul_comm b]
    omega
theorem hv_cons (c : Int) (cs : List Int) (b : Int) : hv (c :: cs) b = c * b ^ cs.length + hv cs b := by
  show List.foldl _ _ _ = _
  rw [List.foldl_cons, hv_fold, Int.zero_mul, Int.zero_add]
theorem rest_hv (cs : List Int) (b n : Int) : restAt cs b n = hv cs b % n := by
  unfold restAt hv
  have : ∀ (cs : List Int) (a a' : Int), a % n = a' % n → (cs.foldl (fun f c => (f * b + c) % n) a) % n = (cs.foldl (fun f c => f * b + c) a') % n := by
    intro cs
    induction cs with
    | nil => exact fun a a' h => h
    | cons c r ih =>
      intro a a' h
      rw [List.foldl_cons, List.foldl_cons]
      refine ih _ _ ?_
      rw [Int.emod_emod_of_dvd _ (Int.dvd_refl n), Int.add_emod, Int.mul_emod, h, ← Int.mul_emod, ← Int.add_emod]
  cases cs with
  | nil => simp
  | cons c r =>
    have h := this (c :: r) 0 0 rfl
    rw [← h]
    have h2 : ∀ (cs : List Int) (a : Int), a % n = a → (cs.foldl (fun f c => (f * b + c) % n) a) % n = cs.foldl (fun f c => (f * b + c) % n) a := by
      intro cs
      induction cs with
      | nil => exact fun a h => h
      | cons c r ih => exact fun a h => ih _ (Int.emod_emod_of_dvd _ (Int.dvd_refl n))
    exact (h2 (c :: r) 0 (by simp)).symm
/-! ### promises of the law's own drawing -/
def spMixed : Sp := fun vs H Q _ => ∃ a b : Int, vs = [.int a, .int b] ∧ 0 ≤ a ∧ a < 2 ^ 31 ∧ 0 ≤ b ∧ b < 2 ^ 60 ∧ ∀ r : Int, 0 ≤ r → r < 2 ^ 31 → Q (.int r) H
def spPurse (K : PySem.W.Frag) : Sp := fun vs H Q _ => ∃ (a : Addr) (ns : List Int) (i : Int), vs = [.ref a, .int i] ∧ SqL K H a (ns.map V.int) ∧ 0 ≤ i ∧ i < 2 ^ 40 ∧
  ∀ p H', H p = none → Same H H' → Purse H' p (1000 * i) → Q (.ref p) H'
def spDraw : Sp := fun vs H Q _ => ∃ (a : Addr) (n c : Int), vs = [.ref a, .int n] ∧ 0 < n ∧ n < 2 ^ 60 ∧ c < 2 ^ 50 ∧ Purse H a c ∧
  ∀ r H', 0 ≤ r → r < n → Keep a H H' → Purse H' a (c + 1) → Q (.int r) H'
theorem use_draw {H : Hp} {Q : VK} {E : XK} {a : Addr} {n c : Int} (p : Purse H a c) (n0 : 0 < n) (n1 : n < 2 ^ 60) (hc : c < 2 ^ 50) (q : ∀ r H', 0 ≤ r → r < n → Keep a H H' → Purse H' a (c + 1) → Q (.int r) H') :
    spDraw ([.ref a, .int n] ++ []) H Q E := ⟨a, n, c, rfl, n0, n1, hc, p, q⟩
def spGreat : Sp := fun vs H Q _ => ∃ (a : Addr) (n c : Int), vs = [.ref a, .int n] ∧ 0 ≤ n ∧ n < 1000 ∧ c < 2 ^ 49 ∧ Purse H a c ∧
  ∀ r H', 0 ≤ r → r < 10 ^ n.toNat → Keep a H H' → Purse H' a (c + n) → Q (.int r) H'
theorem use_great {H : Hp} {Q : VK} {E : XK} {a : Addr} {n c : Int} (p : Purse H a c) (n0 : 0 ≤ n) (n1 : n < 1000) (hc : c < 2 ^ 49) (q : ∀ r H', 0 ≤ r → r < 10 ^ n.toNat → Keep a H H' → Purse H' a (c + n) → Q (.int r) H') :
    spGreat ([.ref a, .int n] ++ []) H Q E := ⟨a, n, c, rfl, n0, n1, hc, p, q⟩

def spPairs : Sp := fun vs H Q _ => ∃ (a : Addr) (n c : Int), vs = [.ref a, .int n] ∧ 0 ≤ n ∧ n ≤ 11 ∧ c < 2 ^ 48 ∧ Purse H a c ∧
  ∀ l H' ps, H l = none → Keep a H H' → Purse H' a (c + 22) → PrL H' l ps → Asc 0 ps → Small ps → (ps.length : Int) ≤ n → (∀ q ∈ ps, q.2 ≤ 12) → Q (.ref l) H'
theorem use_pairs {H : Hp} {Q : VK} {E : XK} {a : Addr} {n c : Int} (p : Purse H a c) (n0 : 0 ≤ n) (n1 : n ≤ 11) (hc : c < 2 ^ 48)
    (q : ∀ l H' ps, H l = none → Keep a H H' → Purse H' a (c + 22) → PrL H' l ps → Asc 0 ps → Small ps → (ps.length : Int) ≤ n → (∀ q ∈ ps, q.2 ≤ 12) → Q (.ref l) H') : spPairs ([.ref a, .int n] ++ []) H Q E := ⟨a, n, c, rfl, n0, n1, hc, p, q⟩
def spSize : Sp := fun vs H Q _ => ∃ (l : Addr) (ps : List (Int × Int)), vs = [.ref l] ∧ PrL H l ps ∧ Small ps ∧ Q (.int (num ps)) H
def spStyle : Sp := fun vs H Q _ => ∃ (a : Addr) (c : Int), vs = [.ref a] ∧ c < 2 ^ 48 ∧ Purse H a c ∧
  ∀ p H' (y : Sty), H p = none → Keep a H H' → Purse H' a (c + 34) → H' p = some (.lst [.bl y.low, .int y.shift, .bl y.lead]) → y.shift.natAbs < 10 ^ 31 → Q (.ref p) H'
def spMarking (ca : CA) : Sp := fun vs H Q _ => ∃ (g : Addr) (y : Sty), vs = [.ref g] ∧ H g = some (.lst [.bl y.low, .int y.shift, .bl y.lead]) ∧ ∀ k H', H k = none → Same H H' → MkAt ca H' k y.low y.shift y.lead → Q (.ref k) H'
def spRoot : Sp := fun vs H Q _ => ∃ (a : Addr) (n c : Int), vs = [.ref a, .int n] ∧ 0 < n ∧ c < 2 ^ 48 ∧ Purse H a c ∧
  ∀ (r : Int) H', r.natAbs ≤ n.natAbs + 10 ^ 40 → Keep a H H' → Purse H' a (c + 43) → Q (.int r) H'
/-! ### the slots kept as a plain list -/
theorem w_st {t : TS} {N : List Str} {vs : List V} {σ' : L2.St} {D : Ends} {H : Hp} (h : L2.start N vs = σ') (q : t D σ' H) : t D (L2.start N vs) H := by rw [h]; exact q
theorem w_setN {te : TE} {i : Nat} {σ : L2.St} {σ' : V → L2.St} {D : Ends} {H : Hp} (h : ∀ x, σ.set i (some x) = σ' x) (q : te σ H fun x H1 => D.nx (σ' x) H1) : tAsg te (gName i) D σ H := by
  have e : (fun x H1 => D.nx (σ' x) H1) = fun x H1 => gName i x σ H1 D.nx := by
    funext x H1
    rw [← h x]
    rfl
  show te σ H fun x H1 => gName i x σ H1 D.nx
  rw [← e]
  exact q
theorem w_nxD {D : Ends} {σ : L2.St} {H : Hp} (q : D.nx σ H) : D.nx σ H := q
theorem w_rtD {D : Ends} {v : V} {H : Hp} (q : D.rt v H) : D.rt v H := q
theorem w_ctD {D : Ends} {σ : L2.St} {H : Hp} (q : D.ct σ H) : D.ct σ H := q
theorem w_bkD {D : Ends} {σ : L2.St} {H : Hp} (q : D.bk σ H) : D.bk σ H := q
end Bc

namespace Bc
open PySem PySem.Spec PyProof.Rows L2
/-! ### slices of ints, the law's own promise -/
theorem take_min {α : Type} (xs : List α) (j : Nat) : xs.take (min j xs.length) = xs.take j := by
  by_cases h : j ≤ xs.length
  · rw [Nat.min_eq_left h]
  · rw [Nat.min_eq_right (by omega), List.take_length, List.take_of_length_le (by omega)]
theorem drop_min {α : Type} (xs : List α) (j : Nat) : xs.drop (min j xs.length) = xs.drop j := by
  by_cases h : j ≤ xs.length
  · rw [Nat.min_eq_left h]
  · rw [Nat.min_eq_right (by omega), List.drop_length, List.drop_of_length_le (by omega)]
theorem cut_to (ls : List Int) (j : Nat) : cutV (ls.map V.int) none (some (j : Int)) = (ls.take j).map V.int := by
  unfold cutV
  rw [HT.sIx_none, HT.sIx_nat, List.drop_zero, Nat.sub_zero, take_min, List.map_take]
theorem cut_from (ls : List Int) (j : Nat) : cutV (ls.map V.int) (some (j : Int)) none = (ls.drop j).map V.int := by
  unfold cutV
  rw [HT.sIx_none, HT.sIx_nat, drop_min, List.map_drop, List.take_of_length_le]
  rw [List.length_drop, List.length_map]
  by_cases h : j ≤ ls.length
  · rw [Nat.min_eq_left h]; exact Nat.le_refl _
  · omega
theorem sz {n : Nat} (h : n ≤ 100000) : n ≤ sizeLine := Nat.le_trans h (by decide)
theorem map3 (a b c : List Int) : a.map V.int ++ b.map V.int ++ c.map V.int = (a ++ b ++ c).map V.int := by rw [List.map_append, List.map_append]
theorem vals_rev : ∀ {zs : List V} {ws : List Value}, Vals zs ws → Vals zs.reverse ws.reverse
  | _, _, .nil => .nil
  | _, _, .cons r t => by
    rw [List.reverse_cons, List.reverse_cons]
    exact Vals.append (vals_rev t) (.cons r .nil)
theorem Keep.toSame {p : Addr} {H H' : Hp} (n : H p = none) (k : Keep p H H') : Same H H' := fun b o h => k b o (fun e => by rw [e, n] at h; cases h) h
theorem small1 {p k : Int} (h : 0 < p ∧ p < 1024 ∧ 0 < k ∧ k ≤ 100) : Small [(p, k)] := ⟨fun q hq => by
  have : q = (p, k) := by simpa using hq
  rw [this]; exact h, by show 1 ≤ 64; decide⟩
def spLaw (K : PySem.W.Frag) : Sp := fun vs H Q _ => ∃ (a : Addr) (ns : List Int), vs = [.ref a] ∧ SqL K H a (ns.map V.int) ∧ ns.length ≤ 63 ∧ ∀ H', Q (.bl true) H'

end Bc
namespace Bc
open PySem PySem.Spec PyProof.Rows L2
/-! ### texts that are drawn -/
section
variable {J : It} {G : Hp → Prop} {te : TE} {vs : List Nat} {σ : L2.St} {H : Hp} {D : Addr} {Qd : Hp → Prop} {j : Nat}
theorem lc_drawsV (xs : List V) (a : Addr) (c n : Int) (R : V → Prop) (w : Walk J xs.length G (YAt xs)) (pu : Purse H a c) (hD : H D = none) (hG : ∀ H', Keep a H H' → G H') (sz : xs.length ≤ 100000)
    (wp : ∀ v, wipe ((wipe σ vs).set j v) vs = wipe σ vs)
    (step : ∀ (i : Nat) (x : V) (H' : Hp), xs[i]? = some x → Keep a H H' → Purse H' a (c + n * i) → ∀ Q' : VK, (∀ (y : V) (H'' : Hp), R y → Keep a H' H'' → Purse H'' a (c + n * ((i + 1 : Nat) : Int)) → Q' y H'') → te ((wipe σ vs).set j (some x)) H' Q')
    (q : ∀ (H' : Hp) (ys : List V), ys.length = xs.length → (∀ y ∈ ys, R y) → H' D = some (.lst ys) → Keep a H H' → Purse H' a (c + n * xs.length) → Qd H') :
    ∃ W : Nat → Nat → Hp → Prop, (∃ m, W 0 m (upd H D (.lst []))) ∧ ∀ i m H, W i m H →
      (J.stop i H ∧ Qd H) ∨ (J.go i H ∧ ∃ Nx : Hp → Prop, (∀ H', Nx H' → ∃ m', m' < m ∧ W (i + 1) m' H') ∧ ∀ x H', J.yld i H x H' → gName j x (wipe σ vs) H' fun σ2 H2 => wipe σ2 vs = wipe σ vs ∧ tYes σ2 H2 fun b H3 =>
        if b = true then te σ2 H3 fun y H4 => ∃ acc, H4 D = some (.lst acc) ∧ acc.length < sizeLine ∧ Nx (upd H4 D (.lst (acc ++ [y]))) else Nx H3) := by
  have nD : D ≠ a := pu.fresh hD
  refine lc_it w (fun i H' => ∃ ys : List V, ys.length = i ∧ (∀ y ∈ ys, R y) ∧ H' D = some (.lst ys) ∧ Keep a H H' ∧ Purse H' a (c + n * i)) ⟨[], rfl, (fun y h => by cases h), upd_same, .of (Same.new hD), (pu.same (Same.new hD)).le (by simp)⟩ (fun i H' _ h => by obtain ⟨_, _, _, _, k, _⟩ := h; exact hG H' k) ?_ ?_
  · rintro i x H1 H' hi ⟨ys, h1, h2, h3, h4, h5⟩ ⟨rfl, hx⟩
    refine ⟨wp _, w_yes ?_⟩
    rw [if_pos rfl]
    refine step i x H' hx h4 h5 _ fun y H2 r k2 p2 => ?_
    refine ⟨_, k2.at_ nD h3, ?_, ys ++ [y], ?_, ?_, ?_, ?_, ?_⟩
    · have : (100000 : Nat) < sizeLine := by decide
      omega
    · rw [List.length_append, h1]
      rfl
    · intro z hz
      rcases List.mem_append.mp hz with e | e
      · exact h2 z e
      · have : z = y := by simpa using e
        rw [this]; exact r
    · rw [upd_same]
    · intro b o nb hb
      rw [upd_ne (ne_of_none hb hD)]
      exact k2 _ _ nb (h4 _ _ nb hb)
    · obtain ⟨x1, y1, z1, e, r1⟩ := p2
      exact ⟨x1, y1, z1, by rw [upd_ne nD.symm]; exact e, r1⟩
  · rintro H' ⟨ys, h1, h2, h3, h4, h5⟩
    exact q H' ys h1 h2 h3 h4 h5
end
/-- a written text of plain signs -/
def Plain (z : Str) : Prop := ∀ c ∈ z.cps.toList, 32 ≤ c ∧ c ≤ 126
instance (z : Str) : Decidable (Plain z) := inferInstanceAs (Decidable (∀ c ∈ z.cps.toList, _))
theorem signs_of : ∀ {ys : List V}, (∀ y ∈ ys, ∃ c : Nat, (32 ≤ c ∧ c ≤ 126) ∧ y = .str ⟨#[c]⟩) → ∃ cs : List Nat, (∀ c ∈ cs, 32 ≤ c ∧ c ≤ 126) ∧ ys = (cs.map fun c => (⟨#[c]⟩ : Str)).map V.str
  | [], _ => ⟨[], (fun c h => by cases h), rfl⟩
  | y :: r, h => by
    obtain ⟨c, hc, e⟩ := h y (List.mem_cons_self ..)
    obtain ⟨cs, h1, h2⟩ := signs_of (ys := r) fun z hz => h z (List.mem_cons_of_mem _ hz)
    refine ⟨c :: cs, fun d hd => ?_, by rw [e, h2]; rfl⟩
    rcases List.mem_cons.mp hd with z | z
    · rw [z]; exact hc
    · exact h1 d z
theorem joinL_nil : ∀ cs : List Nat, TL.joinL [] (cs.map fun c => [c]) = cs
  | [] => rfl
  | [c] => rfl
  | c :: d :: r => by
    show [c] ++ ([] ++ TL.joinL [] ((d :: r).map fun c => [c])) = _
    rw [joinL_nil (d :: r)]
    rfl
theorem join_signs (cs : List Nat) : (Txt.join (Str.ofString "") (cs.map fun c => (⟨#[c]⟩ : Str))).cps.toList = cs := by
  rw [TL.join_eq]
  have h := TL.tl_join (Str.ofString "") (cs.map fun c => (⟨#[c]⟩ : Str))
  rw [List.map_map] at h
  exact h.trans (joinL_nil cs)
def spSigns : Sp := fun vs H Q _ => ∃ (a : Addr) (n c : Int), vs = [.ref a, .int n] ∧ 0 ≤ n ∧ n ≤ 1000 ∧ c < 2 ^ 48 ∧ Purse H a c ∧
  ∀ (z : Str) H', Keep a H H' → Purse H' a (c + 1 + n) → Plain z → (z.length : Int) = n → Q (.str z) H'
def spLetter : Sp := fun vs H Q _ => ∃ (a : Addr) (c : Int), vs = [.ref a] ∧ c < 2 ^ 48 ∧ Purse H a c ∧ ∀ (x : Int) H', Keep a H H' → Purse H' a (c + 34) → x.natAbs < 10 ^ 31 → Q (.int x) H'
theorem use_letter {H : Hp} {Q : VK} {E : XK} {a : Addr} {c : Int} (p : Purse H a c) (hc : c < 2 ^ 48) (q : ∀ (x : Int) H', Keep a H H' → Purse H' a (c + 34) → x.natAbs < 10 ^ 31 → Q (.int x) H') : spLetter ([.ref a] ++ []) H Q E := ⟨a, c, rfl, hc, p, q⟩
def NotAt (a : Addr) : V → Prop
  | .ref p => p ≠ a
  | _ => True
theorem TextAt.keep {a : Addr} {H H' : Hp} {v : V} {ls : List Int} (t : TextAt H v ls) (n : NotAt a v) (k : Keep a H H') : TextAt H' v ls := by
  cases t with
  | str z h l => exact .str z h l
  | lst p _ h l => exact .lst p _ (k _ _ n h) l
  | tup p _ h l => exact .tup p _ (k _ _ n h) l
def spText : Sp := fun vs H Q _ => ∃ (a : Addr) (n c : Int), vs = [.ref a, .int n] ∧ 0 ≤ n ∧ n ≤ 1000 ∧ c < 2 ^ 47 ∧ Purse H a c ∧
  ∀ (v : V) (ls : List Int) H', Keep a H H' → Purse H' a (c + 2 + 34 * (n + 1)) → TextAt H' v ls → NotAt a v → (ls.length : Int) ≤ n → (∀ l ∈ ls, l.natAbs < 10 ^ 31) → Q v H'
theorem use_text {H : Hp} {Q : VK} {E : XK} {a : Addr} {n c : Int} (p : Purse H a c) (n0 : 0 ≤ n) (n1 : n ≤ 1000) (hc : c < 2 ^ 47) (q : ∀ (v : V) (ls : List Int) H', Keep a H H' → Purse H' a (c + 2 + 34 * (n + 1)) → TextAt H' v ls → NotAt a v → (ls.length : Int) ≤ n → (∀ l ∈ ls, l.natAbs < 10 ^ 31) → Q v H') :
    spText ([.ref a, .int n] ++ []) H Q E := ⟨a, n, c, rfl, n0, n1, hc, p, q⟩
def spLetters : Sp := fun vs H Q _ => ∃ (v : V) (ls : List Int), vs = [v] ∧ TextAt H v ls ∧ ∀ l H', H l = none → Same H H' → H' l = some (.lst (ls.map V.int)) → Q (.ref l) H'
theorem mem_ints {cs : List Nat} {l : Int} (hc : ∀ c ∈ cs, 32 ≤ c ∧ c ≤ 126) (h : l ∈ cs.map Int.ofNat) : l.natAbs < 10 ^ 31 := by
  obtain ⟨c, h1, rfl⟩ := List.mem_map.mp h
  have := hc c h1
  show c < 10 ^ 31
  omega

end Bc
namespace Bc
open PySem PySem.Spec PyProof.Rows L2
/-! ### instances that are called, ways compared -/
section
variable {X : Cx} {k j : Nat} {C : Addr} {sp : Sp} {tf : TE} {t : TA} {fe e : Expr} {es : List Expr} {pos : Pos}
structure CalO (P : Program) (w : World) (K : PySem.W.Frag) (mg : Str → Option Value) (base : Heap) (k : Nat) (C : Addr) (sp : Sp) : Prop where
  ex : ∃ g : Addr, StX.CallO K C g ∧ FnR P w K mg base L2.CX0 k g sp
def tCO (C : Addr) (sp : Sp) (E : XK) (tf : TE) (t : TA) : TE := fun σ H Q => tf σ H fun y H1 => ∃ a, y = V.ref a ∧ t σ H1 fun vs H2 => ((∃ dx vs, SlX.Slt H2 a C dx vs) ∨ ∃ dx fs, H2 a = some (.ins C dx fs)) ∧ sp (V.ref a :: vs) H2 Q E
theorem pe_cO (hf : PE X fe tf) (c : CalO X.prog X.w X.K X.mg X.base k C sp) (hr : Room j X.A) (hk : k ≤ j) (ha : PA X (e :: es) t)
    (ht : eval (.Call fe (e :: es) [] pos) X.env = (do callWith pos (← eval fe X.env) [] (backTo pos (starEach (e :: es) X.env)) (backToKw pos (keywordEach [] X.env))) := by rfl)
    (he : starEach (e :: es) X.env = (false, eval e X.env) :: starEach es X.env := by rfl) (hpl : (backTo pos (starEach es X.env)).any (·.1) = false := by rfl) : PE X (.Call fe (e :: es) [] pos) (tCO C sp L2.E0 tf t) := by
  obtain ⟨g, c1, F⟩ := c.ex
  exact StX.pe_callO hf c1 F (hr.mono hk) pass0 ha ht he hpl
theorem w_cO {σ : L2.St} {H : Hp} {Q : VK} {E : XK} (q : tf σ H fun y H1 => ∃ a, y = V.ref a ∧ t σ H1 fun vs H2 => ((∃ dx vs, SlX.Slt H2 a C dx vs) ∨ ∃ dx fs, H2 a = some (.ins C dx fs)) ∧ sp (V.ref a :: vs) H2 Q E) : tCO C sp E tf t σ H Q := q
theorem w_insC {H : Hp} {a dx : Addr} {fs : List (Str × V)} {P : Prop} (h : H a = some (.ins C dx fs)) (q : P) : ((∃ dx vs, SlX.Slt H a C dx vs) ∨ ∃ dx fs, H a = some (.ins C dx fs)) ∧ P := ⟨.inr ⟨dx, fs, h⟩, q⟩
end
def plainS (y : Sty) (b n : Int) : Int := (y.shift + (if y.lead then b - 1 else 0)) % n
def spShift (c : CA) : Sp := fun vs H Q _ => ∃ (x : Addr) (b : Int) (ps : List (Int × Int)) (y : Sty), vs = [.ref x] ∧ WayAt c H x b ps y ∧ Q (.int (plainS y b (num ps))) H
def spLike (c : CA) : Sp := fun vs H Q _ => ∃ (x x' : Addr) (b b' : Int) (ps ps' : List (Int × Int)) (y y' : Sty), vs = [.ref x, .ref x'] ∧ WayAt c H x b ps y ∧ WayAt c H x' b' ps' y' ∧ y.low = y'.low ∧ Q .non H
def rParts (b n s b' n' s' : Int) : Bool := decide (n % n' = 0) && decide ((b - b') % n' = 0) && decide ((s - s') % n' = 0)
def spParts (c : CA) : Sp := fun vs H Q _ => ∃ (x x' : Addr) (b b' : Int) (ps ps' : List (Int × Int)) (y y' : Sty), vs = [.ref x, .ref x'] ∧ WayAt c H x b ps y ∧ WayAt c H x' b' ps' y' ∧ y.low = y'.low ∧ Q (.bl (rParts b (num ps) (plainS y b (num ps)) b' (num ps') (plainS y' b' (num ps')))) H
def rPartsL (low low' : Bool) (b n b' n' : Int) : Bool := decide (n % n' = 0) && (if low = low' then decide ((b - b') % n' = 0) else decide ((b * b' - 1) % n' = 0))
def spPartsL (c : CA) : Sp := fun vs H Q _ => ∃ (x x' : Addr) (b b' : Int) (ps ps' : List (Int × Int)) (y y' : Sty), vs = [.ref x, .ref x'] ∧ WayAt c H x b ps y ∧ WayAt c H x' b' ps' y' ∧ Q (.bl (rPartsL y.low y'.low b (num ps) b' (num ps'))) H
theorem WayAt.pos {c : CA} {H : Hp} {x : Addr} {b : Int} {ps : List (Int × Int)} {y : Sty} (h : WayAt c H x b ps y) : 0 < num ps := by
  obtain ⟨_, _, _, _, _, _, h1, h2⟩ := h
  omega
theorem decB {a b : Bool} : decide (V.bl a = V.bl b) = decide (a = b) := by cases a <;> cases b <;> rfl

end Bc
namespace Bc
open PySem PySem.Spec PyProof.Rows L2
/-! ### k96: sums turned about -/
theorem hv_app (u v : List Int) (b : Int) : hv (u ++ v) b = hv u b * b ^ v.length + hv v b := by
  show List.foldl _ _ _ = _
  rw [List.foldl_append, hv_fold]
  rfl
/-- 1 + b + .. -/
def geo (b : Int) (n : Nat) : Int := hv (List.replicate n 1) b
theorem geo_succ (b : Int) (n : Nat) : geo b (n + 1) = b ^ n + geo b n := by
  unfold geo
  rw [List.replicate_succ, hv_cons, List.length_replicate, Int.one_mul]
theorem geo_mul (b : Int) : ∀ n : Nat, (b - 1) * geo b n = b ^ n - 1
  | 0 => by simp [geo, hv]
  | n + 1 => by
    rw [geo_succ, Int.pow_succ, Int.mul_add, geo_mul b n]
    grind
theorem hv_map (s b : Int) : ∀ ls : List Int, hv (ls.map (· + s)) b = hv ls b + s * geo b ls.length
  | [] => by simp [geo, hv]
  | l :: r => by
    rw [List.map_cons, hv_cons, hv_cons, hv_map s b r, List.length_map, List.length_cons, geo_succ]
    grind
/-- the mark, by the sum -/
theorem mark_hv (y : Sty) (b n : Int) (ls : List Int) : mark y b n ls = ((if y.lead then 1 else 0) * b ^ ls.length + hv (if y.low then ls.reverse else ls) b + y.shift * geo b ls.length) % n := by
  unfold mark hf
  rw [rest_hv, hv_cons]
  by_cases h : y.low = true
  · rw [if_pos h, if_pos h, ← List.map_reverse, hv_map, List.length_map, List.length_reverse, Int.add_assoc]
  · rw [if_neg h, if_neg h, hv_map, List.length_map, Int.add_assoc]
theorem emod_of {n x y : Int} (k : Int) (h : x = y + n * k) : x % n = y % n := by
  rw [h, Int.add_mul_emod_self_left]
theorem plain_mark (y : Sty) (b n : Int) (ls : List Int) : (mark ⟨y.low, plainS y b n, false⟩ b n ls + (if y.lead then 1 else 0)) % n = mark y b n ls := by
  rw [mark_hv, mark_hv, Int.emod_add_emod]
  unfold plainS
  have h := geo_mul b ls.length
  generalize b ^ ls.length = p at h ⊢
  generalize hv (if y.low = true then ls.reverse else ls) b = z
  generalize geo b ls.length = g at h ⊢
  by_cases hl : y.lead = true
  · simp only [hl, if_true, Bool.false_eq_true, if_false]
    refine emod_of (-((y.shift + (b - 1)) / n) * g) ?_
    rw [Int.emod_def]
    generalize (y.shift + (b - 1)) / n = q
    grind
  · have hl' : y.lead = false := by simpa using hl
    simp only [hl', if_true, Bool.false_eq_true, if_false]
    refine emod_of (-((y.shift + 0) / n) * g) ?_
    rw [Int.emod_def]
    generalize (y.shift + 0) / n = q
    grind
theorem hv_mod (b n : Int) : ∀ cs : List Int, hv cs (b % n) % n = hv cs b % n := fun cs => by
  have h : ∀ (cs : List Int) (a a' : Int), a % n = a' % n → (cs.foldl (fun f c => f * (b % n) + c) a) % n = (cs.foldl (fun f c => f * b + c) a') % n := by
    intro cs
    induction cs with
    | nil => exact fun a a' h => h
    | cons c r ih =>
      intro a a' h
      rw [List.foldl_cons, List.foldl_cons]
      refine ih _ _ ?_
      rw [Int.add_emod, Int.mul_emod, h, Int.emod_emod_of_dvd _ (Int.dvd_refl n), ← Int.mul_emod, ← Int.add_emod]
  exact h cs 0 0 rfl
/-- the difference of two lists of one length -/
def sub2 (ls ms : List Int) : List Int := List.zipWith (· - ·) ls ms
theorem hv_sub (b : Int) : ∀ {ls ms : List Int}, ls.length = ms.length → hv (sub2 ls ms) b = hv ls b - hv ms b
  | [], [], _ => by simp [sub2, hv]
  | [], _ :: _, h => by cases h
  | _ :: _, [], h => by cases h
  | l :: r, m :: t, h => by
    have h' : r.length = t.length := by simpa using h
    have e : sub2 (l :: r) (m :: t) = (l - m) :: sub2 r t := rfl
    have el : (sub2 r t).length = r.length := by unfold sub2; rw [List.length_zipWith]; omega
    rw [e, hv_cons, hv_cons, hv_cons, hv_sub b h', el, ← h']
    grind
theorem sub2_rev : ∀ {ls ms : List Int}, ls.length = ms.length → sub2 ls.reverse ms.reverse = (sub2 ls ms).reverse := fun {ls ms} h => by
  unfold sub2
  rw [List.reverse_zipWith h]
/-- two texts of one length agree just if the number divides the sum of their difference -/
theorem agree_iff {y : Sty} {b n : Int} {ls ms : List Int} (hl : ls.length = ms.length) : mark y b n ls = mark y b n ms ↔ n ∣ hv (if y.low then (sub2 ls ms).reverse else sub2 ls ms) b := by
  rw [mark_hv, mark_hv, Int.emod_eq_emod_iff_emod_sub_eq_zero, ← Int.dvd_iff_emod_eq_zero]
  have e : hv (if y.low then (sub2 ls ms).reverse else sub2 ls ms) b = hv (if y.low then ls.reverse else ls) b - hv (if y.low then ms.reverse else ms) b := by
    by_cases h : y.low = true
    · rw [if_pos h, if_pos h, if_pos h, ← sub2_rev hl, hv_sub b (by simpa using hl)]
    · rw [if_neg h, if_neg h, if_neg h, hv_sub b hl]
  rw [e, hl]
  have e2 : ∀ p q r s g : Int, p + q + s - (p + r + s) = q - r := fun p q r s g => by omega
  rw [e2 _ _ _ _ 0]
/-- read from the other end by an inverse -/
theorem hv_turn {b c n u : Int} (h : b * c = 1 + n * u) : ∀ ds : List Int, ∃ k, hv ds.reverse c * b ^ ds.length = hv ds b * b + n * k
  | [] => ⟨0, by simp [hv]⟩
  | d :: r => by
    obtain ⟨k, hk⟩ := hv_turn h r
    refine ⟨hv r.reverse c * b ^ r.length * u + k, ?_⟩
    have e : hv [d] c = d := by simp [hv]
    rw [List.reverse_cons, hv_app, e, hv_cons d r b]
    show (hv r.reverse c * c ^ 1 + d) * b ^ (r.length + 1) = _
    rw [Int.pow_succ b r.length]
    generalize hv r.reverse c = x at hk ⊢
    generalize b ^ r.length = p at hk ⊢
    generalize hv r b = z at hk ⊢
    grind
theorem turn_dvd {b c n u : Int} (h : b * c = 1 + n * u) (ds : List Int) : n ∣ hv ds.reverse c ↔ n ∣ hv ds b := by
  obtain ⟨k, hk⟩ := hv_turn h ds
  have hp : ∀ m : Nat, ∃ v, b ^ m * c ^ m = 1 + n * v := fun m => by
    induction m with
    | zero => exact ⟨0, by simp⟩
    | succ m ih =>
      obtain ⟨v, hv⟩ := ih
      refine ⟨v + u + n * u * v, ?_⟩
      rw [Int.pow_succ, Int.pow_succ]
      generalize b ^ m = p at hv ⊢
      generalize c ^ m = q at hv ⊢
      grind
  constructor
  · rintro ⟨t, ht⟩
    refine ⟨t * b ^ ds.length * c - k * c - hv ds b * u, ?_⟩
    rw [ht] at hk
    generalize hv ds b = z at hk ⊢
    generalize b ^ ds.length = p at hk ⊢
    grind
  · rintro ⟨t, ht⟩
    obtain ⟨v, hv'⟩ := hp ds.length
    refine ⟨(t * b + k) * c ^ ds.length - hv ds.reverse c * v, ?_⟩
    rw [ht] at hk
    generalize hv ds.reverse c = z at hk ⊢
    generalize b ^ ds.length = p at hk hv' ⊢
    generalize c ^ ds.length = q at hv' ⊢
    grind

def spInv : Sp := fun vs H Q _ => ∃ (r n : Int) (B : Nat), vs = [.int r, .int n] ∧ 0 < n ∧ n.natAbs < 2 ^ B ∧ B ≤ 8000 ∧ (∀ (i u : Int) H', Same H H' → 0 ≤ i → i < n → r * i = 1 + n * u → Q (.int i) H') ∧ (∀ H', Same H H' → (∀ i u : Int, r * i ≠ 1 + n * u) → Q .non H')
/-- the two rows of the search for an inverse -/
def InvRow (r n one two f l : Int) : Prop := (one ≤ n ∧ two ≤ n) ∧ 0 < one ∧ 0 ≤ two ∧ (∃ u, f * r = one + n * u) ∧ (∃ v, l * r = two + n * v) ∧ Int.gcd one two = Int.gcd r n ∧ ∃ s F L : Int, (s = 1 ∨ s = -1) ∧ f = -s * F ∧ l = s * L ∧ 0 ≤ F ∧ 0 ≤ L ∧ L * one + F * two = n
theorem InvRow.start {r n : Int} (hn : 0 < n) : InvRow r n n (r % n) 0 1 := by
  have hlt := Int.emod_lt_of_pos r hn
  refine ⟨⟨by omega, by omega⟩, hn, Int.emod_nonneg _ (by omega), ⟨-1, by omega⟩, ⟨r / n, ?_⟩, ?_, 1, 0, 1, .inl rfl, rfl, rfl, by decide, by decide, by omega⟩
  · have := Int.emod_add_mul_ediv r n
    omega
  · have h := Int.gcd_mul_left_add_left n (r % n) (r / n)
    rw [Int.mul_ediv_add_emod] at h
    rw [Int.gcd_comm, h]
theorem InvRow.step {r n one two f l : Int} (h : InvRow r n one two f l) (h2 : two ≠ 0) : InvRow r n two (one - one / two * two) l (f - one / two * l) := by
  obtain ⟨a0, a1, a2, ⟨u, a3⟩, ⟨v, a4⟩, a5, s, F, L, a6, a7, a8, a9, a10, a11⟩ := h
  have hlt := Int.emod_lt_of_pos one (show 0 < two by omega)
  have e : one - one / two * two = one % two := by rw [Int.emod_def, Int.mul_comm]
  have hm := Int.emod_nonneg one h2
  have hq : 0 ≤ one / two := Int.ediv_nonneg (by omega) a2
  refine ⟨⟨by omega, by omega⟩, by omega, by omega, ⟨v, a4⟩, ⟨u - one / two * v, ?_⟩, ?_, -s, L, F + one / two * L, ?_, ?_, ?_, a10, ?_, ?_⟩
  · generalize one / two = t
    grind
  · rw [e, ← a5]
    have h6 := Int.gcd_mul_left_add_right two (one % two) (one / two)
    rw [Int.mul_ediv_add_emod] at h6
    rw [← h6, Int.gcd_comm]
  · omega
  · rw [a8]; grind
  · rw [a7, a8]
    generalize one / two = t
    grind
  · have := Int.mul_nonneg hq a10
    omega
  · generalize one / two = t
    grind
theorem InvRow.small {r n one two f l : Int} (h : InvRow r n one two f l) : l.natAbs ≤ n.natAbs := by
  obtain ⟨_, a1, a2, _, _, _, s, F, L, a6, a7, a8, a9, a10, a11⟩ := h
  have h1 : L ≤ L * one := by
    have := Int.mul_le_mul_of_nonneg_left (show 1 ≤ one by omega) a10
    omega
  have h2 : 0 ≤ F * two := Int.mul_nonneg a9 a2
  rcases a6 with rfl | rfl <;> omega
theorem InvRow.ends {r n one f l : Int} (h : InvRow r n one 0 f l) : (one = 1 → ∃ u, r * (f % n) = 1 + n * u) ∧ (one ≠ 1 → ∀ i u : Int, r * i ≠ 1 + n * u) := by
  obtain ⟨_, a1, _, ⟨u, a3⟩, _, a5, _⟩ := h
  constructor
  · intro e
    refine ⟨u - r * (f / n), ?_⟩
    rw [Int.emod_def]
    generalize f / n = q
    grind
  · intro e i u z
    rw [Int.gcd_zero] at a5
    have h1 : (Int.gcd r n : Int) ∣ 1 := by
      have d1 : (Int.gcd r n : Int) ∣ r * i := Int.dvd_trans (Int.gcd_dvd_left r n) (Int.dvd_mul_right _ _)
      have d2 : (Int.gcd r n : Int) ∣ n * u := Int.dvd_trans (Int.gcd_dvd_right r n) (Int.dvd_mul_right _ _)
      have := Int.dvd_sub d1 d2
      rwa [z, show 1 + n * u - n * u = 1 by omega] at this
    have h2 := Int.le_of_dvd (by decide) h1
    omega
def spNear : Sp := fun vs H Q _ => ∃ (a l : Addr) (ls : List Int) (r n c : Int), vs = [.ref a, .ref l, .int r, .int n] ∧ l ≠ a ∧ H l = some (.lst (ls.map V.int)) ∧ ls.length ≤ 1000 ∧ c < 2 ^ 47 ∧ Purse H a c ∧
  ∀ (m : Addr) (ms : List Int) H', H m = none → Keep a H H' → Purse H' a (c + 5) → H' m = some (.lst (ms.map V.int)) → ms.length = ls.length → hv ms r = hv ls r → Q (.ref m) H'
theorem near_hv {ls : List Int} {j : Nat} (h : j + 1 < ls.length) (s r : Int) : hv (ls.take j ++ [ls.getD j 0 + s, ls.getD (j + 1) 0 - s * r] ++ ls.drop (j + 2)) r = hv ls r := by
  have e : ls = ls.take j ++ [ls.getD j 0, ls.getD (j + 1) 0] ++ ls.drop (j + 2) := by
    have h1 : ls.getD j 0 = ls[j] := by simp [List.getD, h, show j < ls.length by omega]
    have h2 : ls.getD (j + 1) 0 = ls[j + 1] := by simp [List.getD, h]
    rw [h1, h2, List.append_assoc]
    show ls = ls.take j ++ (ls[j] :: ls[j + 1] :: ls.drop (j + 2))
    rw [← List.drop_eq_getElem_cons h, ← List.drop_eq_getElem_cons (show j < ls.length by omega), List.take_append_drop]
  conv => rhs; rw [e]
  rw [hv_app, hv_app, hv_app, hv_app]
  have e3 : ∀ x y : Int, hv [x, y] r = x * r + y := fun x y => by simp [hv]
  rw [e3, e3]
  generalize hv (ls.take j) r = z
  generalize hv (ls.drop (j + 2)) r = w
  generalize r ^ (ls.drop (j + 2)).length = p
  show (z * r ^ 2 + _) * p + w = (z * r ^ 2 + _) * p + w
  generalize r ^ 2 = q
  grind
def spRight : Sp := fun vs H Q _ => ∃ (a : Addr) (c : Int), vs = [.ref a] ∧ c < 2 ^ 46 ∧ Purse H a c ∧ ∀ H', Keep a H H' → Purse H' a (c + 10000) → Q (.bl true) H'
theorem cut3 (x y z : V) : cutV [x, y, z] (some 1) none = [y, z] := by
  have h := HT.sIx_nat 3 0 1
  unfold cutV
  rw [HT.sIx_none, show HT.sIx [x, y, z].length 0 (some 1) = min 1 3 from h]
  rfl
theorem three_ne (l : Bool) (s : Int) (d : Bool) (x y z : Int) : HO.lst [.bl l, .int s, .bl d] ≠ .lst [.int x, .int y, .int z] := fun e => by cases e
theorem bound3 {ps : List (Int × Int)} (hs : Small ps) (hl : (ps.length : Int) ≤ 3) : (num ps).natAbs < 2 ^ 3031 := by
  have h := (num_bound hs ps.length (Nat.le_refl _)).2
  rw [List.take_length] at h
  exact Nat.lt_of_lt_of_le h (Nat.pow_le_pow_right (by decide) (by omega))
theorem mark_rev1 (s : Int) (d : Bool) (b n : Int) (ls : List Int) : mark ⟨true, s, d⟩ b n ls.reverse = mark ⟨false, s, d⟩ b n ls := by
  unfold mark hf
  simp only [if_true, Bool.false_eq_true, if_false]
  rw [← List.map_reverse, List.reverse_reverse]
theorem mark_rev2 (s : Int) (d : Bool) (b n : Int) (ls : List Int) : mark ⟨false, s, d⟩ b n ls.reverse = mark ⟨true, s, d⟩ b n ls := by
  unfold mark hf
  simp only [if_true, Bool.false_eq_true, if_false]
  rw [List.map_reverse]
theorem plainS_plain (y : Sty) (l : Bool) (b n : Int) : plainS ⟨l, plainS y b n, false⟩ b n = plainS y b n := by
  unfold plainS
  simp only [Bool.false_eq_true, if_false]
  rw [Int.add_zero, Int.emod_emod_of_dvd _ (Int.dvd_refl n)]
theorem parts_self (b n s : Int) : rParts b n s b n s = true := by
  unfold rParts
  simp
theorem partsL_no {r n : Int} (h : ∀ i u : Int, r * i ≠ 1 + n * u) : rPartsL false true (r % n) n (r % n) n = false := by
  unfold rPartsL
  rw [if_neg (by decide)]
  have : ¬ (r % n * (r % n) - 1) % n = 0 := fun z => by
    obtain ⟨k, hk⟩ := Int.dvd_of_emod_eq_zero z
    refine h (r % n) (k + r / n * (r % n)) ?_
    have e := Int.emod_add_mul_ediv r n
    generalize r / n = q at e ⊢
    generalize r % n = m at e hk ⊢
    grind
  rw [decide_eq_false this, Bool.and_false]
theorem prod_mod {r n i u : Int} (h : r * i = 1 + n * u) : ∃ v, r % n * (i % n) = 1 + n * v := by
  refine ⟨u - r / n * i - i / n * r + n * (r / n) * (i / n), ?_⟩
  rw [Int.emod_def, Int.emod_def]
  generalize r / n = q
  generalize i / n = t
  grind
theorem partsL_yes {r n i u : Int} (h : r * i = 1 + n * u) : rPartsL false true (r % n) n (i % n) n = true ∧ rPartsL true false (i % n) n (r % n) n = true := by
  obtain ⟨v, hv⟩ := prod_mod h
  unfold rPartsL
  rw [if_neg (by decide), if_neg (by decide), Int.mul_comm (i % n), hv, show 1 + n * v - 1 = n * v by omega]
  simp
theorem agree_turn {r n i u s : Int} {d d' : Bool} {ls ms : List Int} (h : r * i = 1 + n * u) (hl : ls.length = ms.length) : rAgree ⟨false, s, d⟩ (r % n) n ls ms = rAgree ⟨true, s, d'⟩ (i % n) n ls ms := by
  obtain ⟨v, hv⟩ := prod_mod h
  unfold rAgree
  have h1 := agree_iff (y := ⟨false, s, d⟩) (b := r % n) (n := n) hl
  have h2 := agree_iff (y := ⟨true, s, d'⟩) (b := i % n) (n := n) hl
  simp only [if_true, Bool.false_eq_true, if_false] at h1 h2
  rw [turn_dvd hv] at h2
  exact decide_eq_decide.mpr (h1.trans h2.symm)
theorem agree_near {r n s : Int} {d : Bool} {ls ms : List Int} (hl : ms.length = ls.length) (hv' : hv ms r = hv ls r) : rAgree ⟨false, s, d⟩ (r % n) n ls ms = true := by
  unfold rAgree
  refine decide_eq_true ?_
  rw [agree_iff hl.symm]
  simp only [Bool.false_eq_true, if_false]
  rw [hv_sub _ hl.symm, Int.dvd_iff_emod_eq_zero, Int.sub_emod, hv_mod, hv_mod, hv', ← Int.sub_emod, Int.sub_self]
  rfl
theorem w_revx {K : PySem.W.Frag} {H : Hp} {x : Addr} {xs : List V} {P : Addr → List V → Prop} (h : SqL K H x xs) (q : ∀ p, H p = none → P p xs) : ∃ a xs, V.ref x = .ref a ∧ SqL K H a xs ∧ ∀ p, H p = none → P p xs := ⟨x, xs, rfl, h, q⟩

end Bc
namespace Bc
open PySem PySem.Spec PyProof.Rows L2
/-! ### pieces of texts: sums that are not reduced -/
def ld (y : Sty) : Int := if y.lead then 1 else 0
def Sm (y : Sty) (b : Int) (ls : List Int) : Int := ld y * b ^ ls.length + hv (if y.low then ls.reverse else ls) b + y.shift * geo b ls.length
theorem mark_Sm (y : Sty) (b n : Int) (ls : List Int) : mark y b n ls = Sm y b ls % n := mark_hv y b n ls
theorem geo_add (b : Int) (m : Nat) : ∀ k : Nat, geo b (k + m) = geo b k * b ^ m + geo b m
  | 0 => by rw [Nat.zero_add]; simp [geo, hv]
  | k + 1 => by
    rw [Nat.add_right_comm, geo_succ, geo_succ, geo_add b m k, Int.pow_add]
    grind
theorem geo_add2 (b : Int) (k m : Nat) : geo b (k + m) = geo b k + b ^ k * geo b m := by
  rw [Nat.add_comm, geo_add]
  grind
theorem Sm_high {y : Sty} (h : y.low = false) (b : Int) (u v : List Int) : Sm y b (u ++ v) = (Sm y b u - ld y) * b ^ v.length + Sm y b v := by
  unfold Sm
  rw [h]
  simp only [Bool.false_eq_true, if_false]
  rw [List.length_append, hv_app, geo_add, Int.pow_add]
  generalize b ^ u.length = p
  generalize b ^ v.length = q
  grind
theorem Sm_low {y : Sty} (h : y.low = true) (b : Int) (u v : List Int) : Sm y b (u ++ v) = Sm y b u + b ^ u.length * (Sm y b v - ld y) := by
  unfold Sm
  rw [h]
  simp only [if_true]
  rw [List.length_append, List.reverse_append, hv_app, geo_add2, Int.pow_add, List.length_reverse]
  generalize b ^ u.length = p
  generalize b ^ v.length = q
  grind
theorem cg {n x y : Int} : x % n = y % n ↔ ∃ k, x = y + n * k := by
  rw [Int.emod_eq_emod_iff_emod_sub_eq_zero, ← Int.dvd_iff_emod_eq_zero]
  constructor
  · rintro ⟨k, hk⟩
    exact ⟨k, by omega⟩
  · rintro ⟨k, hk⟩
    exact ⟨k, by omega⟩
theorem self_mod (n x : Int) : ∃ k, x % n = x + n * k := ⟨-(x / n), by rw [Int.emod_def]; grind⟩
/-- what joined reckons -/
theorem join_high {y : Sty} (h : y.low = false) (b n : Int) (u v : List Int) : (b ^ v.length % n * (mark y b n u - ld y) + mark y b n v) % n = mark y b n (u ++ v) := by
  rw [mark_Sm, mark_Sm, mark_Sm, Sm_high h, cg]
  obtain ⟨k1, e1⟩ := self_mod n (b ^ v.length)
  obtain ⟨k2, e2⟩ := self_mod n (Sm y b u)
  obtain ⟨k3, e3⟩ := self_mod n (Sm y b v)
  rw [e1, e2, e3]
  generalize b ^ v.length = q
  generalize Sm y b u = su
  generalize Sm y b v = sv
  exact ⟨q * k2 + k1 * (su - ld y) + n * k1 * k2 + k3, by grind⟩
theorem join_low {y : Sty} (h : y.low = true) (b n : Int) (u v : List Int) : (mark y b n u + b ^ u.length % n * (mark y b n v - ld y)) % n = mark y b n (u ++ v) := by
  rw [mark_Sm, mark_Sm, mark_Sm, Sm_low h, cg]
  obtain ⟨k1, e1⟩ := self_mod n (b ^ u.length)
  obtain ⟨k2, e2⟩ := self_mod n (Sm y b v)
  obtain ⟨k3, e3⟩ := self_mod n (Sm y b u)
  rw [e1, e2, e3]
  generalize b ^ u.length = q
  generalize Sm y b u = su
  generalize Sm y b v = sv
  exact ⟨q * k2 + k1 * (sv - ld y) + n * k1 * k2 + k3, by grind⟩
/-- the right part of a high one, the left part of a low one -/
theorem right_high {y : Sty} (h : y.low = false) (b n : Int) (u v : List Int) : (mark y b n (u ++ v) - b ^ v.length % n * (mark y b n u - ld y)) % n = mark y b n v := by
  rw [mark_Sm, mark_Sm, mark_Sm, Sm_high h, cg]
  obtain ⟨k1, e1⟩ := self_mod n (b ^ v.length)
  obtain ⟨k2, e2⟩ := self_mod n (Sm y b u)
  obtain ⟨k3, e3⟩ := self_mod n ((Sm y b u - ld y) * b ^ v.length + Sm y b v)
  rw [e1, e2, e3]
  generalize b ^ v.length = q
  generalize Sm y b u = su
  generalize Sm y b v = sv
  exact ⟨k3 - q * k2 - k1 * (su - ld y) - n * k1 * k2, by grind⟩
theorem left_low {y : Sty} (h : y.low = true) (b n : Int) (u v : List Int) : (mark y b n (u ++ v) - b ^ u.length % n * (mark y b n v - ld y)) % n = mark y b n u := by
  rw [mark_Sm, mark_Sm, mark_Sm, Sm_low h, cg]
  obtain ⟨k1, e1⟩ := self_mod n (b ^ u.length)
  obtain ⟨k2, e2⟩ := self_mod n (Sm y b v)
  obtain ⟨k3, e3⟩ := self_mod n (Sm y b u + b ^ u.length * (Sm y b v - ld y))
  rw [e1, e2, e3]
  generalize b ^ u.length = q
  generalize Sm y b u = su
  generalize Sm y b v = sv
  exact ⟨k3 - q * k2 - k1 * (sv - ld y) - n * k1 * k2, by grind⟩
/-- powers by halves -/
def spPower : Sp := fun vs H Q _ => ∃ (b e n : Int) (B : Nat), vs = [.int b, .int e, .int n] ∧ 0 ≤ e ∧ e < 2 ^ 60 ∧ 0 < n ∧ n.natAbs < 2 ^ B ∧ B ≤ 100000 ∧ Q (.int (b ^ e.toNat % n)) H
theorem half_pow (f : Int) (x : Int) (h : 0 < x) : f ^ x.toNat = (if x % 2 = 1 then f else 1) * (f * f) ^ (x / 2).toNat := by
  have e : x.toNat = (x / 2).toNat + (x / 2).toNat + (x % 2).toNat := by omega
  have h2 : x % 2 = 0 ∨ x % 2 = 1 := by omega
  have hm : ∀ k : Nat, (f * f) ^ k = f ^ k * f ^ k := fun k => by
    induction k with
    | zero => simp
    | succ k ih => rw [Int.pow_succ, Int.pow_succ, ih]; grind
  rw [hm]
  rcases h2 with h2 | h2
  · rw [if_neg (by omega), e, h2, Int.pow_add, Int.pow_add]
    simp
  · rw [if_pos h2, e, h2, Int.pow_add, Int.pow_add]
    show f ^ _ * f ^ _ * f ^ 1 = _
    grind
def spReqMark (c : CA) : Sp := fun vs H Q _ => ∃ (x : Addr) (m b : Int) (ps : List (Int × Int)) (y : Sty), vs = [.ref x, .int m] ∧ WayAt c H x b ps y ∧ 0 ≤ m ∧ m < num ps ∧ Q .non H
def spReqLen : Sp := fun vs H Q _ => ∃ n : Int, vs = [.int n] ∧ 0 ≤ n ∧ Q .non H
def spReqPlace : Sp := fun vs H Q _ => ∃ n f l : Int, vs = [.int n, .int f, .int l] ∧ f ≤ n ∧ n ≤ l ∧ Q .non H
def spReqLetter : Sp := fun vs H Q _ => ∃ n : Int, vs = [.int n] ∧ Q .non H
def spReqPieces (c : CA) : Sp := fun vs H Q _ => ∃ (x : Addr) (m k i j b : Int) (ps : List (Int × Int)) (y : Sty), vs = [.ref x, .int m, .int k, .int i, .int j] ∧ WayAt c H x b ps y ∧ (0 ≤ m ∧ m < num ps) ∧ (0 ≤ k ∧ k < num ps) ∧ 0 ≤ i ∧ 0 ≤ j ∧ Q .non H
def spWeight (c : CA) : Sp := fun vs H Q _ => ∃ (x : Addr) (e b : Int) (ps : List (Int × Int)) (y : Sty), vs = [.ref x, .int e] ∧ WayAt c H x b ps y ∧ 0 ≤ e ∧ e < 2 ^ 60 ∧ Q (.int (b ^ e.toNat % num ps)) H
/-- joined, right_of, left_of, changed, rolled: two texts and what is told -/
def spJoined (c : CA) : Sp := fun vs H Q _ => ∃ (x : Addr) (b : Int) (ps : List (Int × Int)) (y : Sty) (u v : List Int), vs = [.ref x, .int (mark y b (num ps) u), .int (mark y b (num ps) v), .int u.length, .int v.length] ∧ WayAt c H x b ps y ∧ u.length < 2 ^ 40 ∧ v.length < 2 ^ 40 ∧ Q (.int (mark y b (num ps) (u ++ v))) H
theorem mark_range {y : Sty} {b n : Int} (hn : 0 < n) (ls : List Int) : 0 ≤ mark y b n ls ∧ mark y b n ls < n := rest_range hn _
theorem ld_int (y : Sty) : (if y.lead = true then (1 : Int) else 0) = ld y := rfl
theorem pow_mod_range {b n : Int} (hn : 0 < n) (e : Nat) : 0 ≤ b ^ e % n ∧ b ^ e % n < n := ⟨Int.emod_nonneg _ (by omega), Int.emod_lt_of_pos _ hn⟩
theorem ld_range (y : Sty) : 0 ≤ ld y ∧ ld y ≤ 1 := by unfold ld; split <;> omega
theorem WayAt.bits {c : CA} {H : Hp} {x : Addr} {b : Int} {ps : List (Int × Int)} {y : Sty} (h : WayAt c H x b ps y) : (num ps).natAbs < 2 ^ 70000 := by
  obtain ⟨_, _, _, _, ⟨_, _, _, _, _, _, _, hs⟩, _⟩ := h
  exact num_lt hs

end Bc
namespace Bc
open PySem PySem.Spec PyProof.Rows L2
/-! ### heaps by chains: what is known below the purse -/
def rm (a : Addr) (H : Hp) : Hp := fun b => if b = a then none else H b
section
variable {a b p : Addr} {c d : Int} {H H' X : Hp} {o : HO} {Q : VK} {ca : CA} {K : PySem.W.Frag}
theorem rm_le : Same (rm a H) H := fun b o h => by
  unfold rm at h
  by_cases e : b = a
  · rw [if_pos e] at h; cases h
  · rwa [if_neg e] at h
theorem rm_of (n : b ≠ a) (h : H b = some o) : rm a H b = some o := by
  unfold rm
  rw [if_neg n]; exact h
theorem rm_none (h : H b = none) : rm a H b = none := by
  unfold rm
  by_cases e : b = a
  · rw [if_pos e]
  · rw [if_neg e]; exact h
theorem rm_self : rm a H a = none := by
  unfold rm
  rw [if_pos rfl]
theorem Keep.rm (k : Keep a H H') : Same (rm a H) (rm a H') := fun b o h => by
  by_cases e : b = a
  · rw [e, rm_self] at h; cases h
  · exact rm_of e (k b o e (rm_le _ _ h))
theorem _root_.L2.Same.rm (s : Same H H') : Same (rm a H) (rm a H') := Keep.rm (.of s)
theorem Keep.ofR (s : Same (Bc.rm a H) (Bc.rm a H')) : Keep a H H' := fun b o n h => rm_le _ _ (s b o (rm_of n h))
theorem rm_new (n : H a = none) (s : Same (Bc.rm a H) X) : Same H X := fun b o h => s b o (rm_of (fun e => by rw [e, n] at h; cases h) h)
theorem rm_in (n : X a = none) (s : Same X H) : Same X (rm a H) := fun b o h => rm_of (fun e => by rw [e, n] at h; cases h) (s b o h)
theorem rm_upd (n : p ≠ a) : rm a (upd H p o) = upd (rm a H) p o := by
  funext b
  by_cases e : b = a
  · rw [e, rm_self, upd_ne n.symm, rm_self]
  · by_cases e2 : b = p
    · rw [e2, upd_same, rm_of n upd_same]
    · rw [upd_ne e2]
      unfold rm
      rw [if_neg e, if_neg e, upd_ne e2]
theorem rm_updS : rm a (upd H a o) = rm a H := by
  funext b
  by_cases e : b = a
  · rw [e, rm_self, rm_self]
  · unfold rm
    rw [if_neg e, if_neg e, upd_ne e]
theorem rm_free (n : H a = none) : rm a H = H := by
  funext b
  by_cases e : b = a
  · rw [e, rm_self, n]
  · unfold rm
    rw [if_neg e]
theorem rm_comm : rm a (rm b H) = rm b (rm a H) := by
  funext x
  unfold rm
  by_cases e : x = a
  · rw [if_pos e]
    by_cases e2 : x = b
    · rw [if_pos e2]
    · rw [if_neg e2, if_pos e]
  · rw [if_neg e]
    by_cases e2 : x = b
    · rw [if_pos e2, if_pos e2]
    · rw [if_neg e2, if_neg e2, if_neg e]
theorem same_rm (s : Same X (rm a H)) : Same X H := s.trans rm_le
theorem hpL (h : X b = some o) (s : Same X H) : H b = some o := s _ _ h
theorem al (q : ∀ p H', H p = none → Same H H' → H' p = some o → atV Q (.ref p) H') : ∀ p, H p = none → atV Q (.ref p) (upd H p o) := fun p n => q p _ n (Same.new n) upd_same
theorem alR (pu : Purse H a c) (q : ∀ p H', Same (rm a H) (rm a H') → Purse H' a c → rm a H' p = some o → rm a H p = none → atV Q (.ref p) H') : ∀ p, H p = none → atV Q (.ref p) (upd H p o) := fun p n =>
  q p _ (Same.new n).rm (pu.same (Same.new n)) (rm_of (pu.fresh n) upd_same) (rm_none n)
theorem PrL.rm {l : Addr} {ps : List (Int × Int)} (h : PrL H l ps) (pu : Purse H a c) : PrL (rm a H) l ps := by
  obtain ⟨ts, h1, h2⟩ := h
  exact ⟨ts, rm_of (pu.ne h1 refs_ne) h1, paired_imp (fun _ _ z => rm_of (pu.ne z fun _ _ _ w => by cases w) z) h2⟩
theorem ModAt.rm {m : Addr} {ps : List (Int × Int)} (h : ModAt ca H m ps) (pu : Purse H a c) : ModAt ca (rm a H) m ps := by
  obtain ⟨dx, t, ts, h1, h2, h3, h4⟩ := h
  exact ⟨dx, t, ts, rm_of (pu.ne h1 fun _ _ _ w => by cases w) h1, rm_of (pu.ne h2 fun _ _ _ w => by cases w) h2, paired_imp (fun _ _ z => rm_of (pu.ne z fun _ _ _ w => by cases w) z) h3, h4⟩
theorem MkAt.rm {m : Addr} {l : Bool} {s : Int} {e : Bool} (h : MkAt ca H m l s e) (pu : Purse H a c) : MkAt ca (rm a H) m l s e := by
  obtain ⟨dx, h1⟩ := h
  exact ⟨dx, rm_of (pu.ne h1 fun _ _ _ w => by cases w) h1⟩
theorem WayAt.rm {m : Addr} {b : Int} {ps : List (Int × Int)} {y : Sty} (h : WayAt ca H m b ps y) (pu : Purse H a c) : WayAt ca (rm a H) m b ps y := by
  obtain ⟨dx, m1, k1, h1, h2, h3, h4⟩ := h
  exact ⟨dx, m1, k1, rm_of (pu.ne h1 fun _ _ _ w => by cases w) h1, h2.rm pu, h3.rm pu, h4⟩
theorem TextAt.rm {v : V} {ls : List Int} (t : TextAt H v ls) (n : NotAt a v) : TextAt (rm a H) v ls := by
  cases t with
  | str z h l => exact .str z h l
  | lst p _ h l => exact .lst p _ (rm_of n h) l
  | tup p _ h l => exact .tup p _ (rm_of n h) l
/-! fields -/
variable {x m k : Addr} {bb : Int} {ps : List (Int × Int)} {y : Sty} {mg : Str → Option Value} {P : V → Prop}
theorem w_wbase (X : Kx K mg ca) (h : WayAt ca H x bb ps y) (q : P (.int bb)) : ∃ a C dx fs v, V.ref x = .ref a ∧ H a = some (.ins C dx fs) ∧ Cls K C ∧ NoAttr K C "base" ∧ fs.lookup ("base" : Str) = some v ∧ P v := by
  obtain ⟨dx, m, k, hx, _⟩ := h
  exact w_fldi hx X.wy.cl X.base wy_base q
theorem w_wnum (X : Kx K mg ca) (h : WayAt ca H x bb ps y) (q : P (.int (num ps))) : ∃ a C dx fs v, V.ref x = .ref a ∧ H a = some (.ins C dx fs) ∧ Cls K C ∧ NoAttr K C "number" ∧ fs.lookup ("number" : Str) = some v ∧ P v := by
  obtain ⟨dx, m, k, hx, _⟩ := h
  exact w_fldi hx X.wy.cl X.wnumber wy_number q
theorem w_wmark (X : Kx K mg ca) (h : WayAt ca H x bb ps y) (q : ∀ k, MkAt ca H k y.low y.shift y.lead → P (.ref k)) : ∃ a C dx fs v, V.ref x = .ref a ∧ H a = some (.ins C dx fs) ∧ Cls K C ∧ NoAttr K C "marking" ∧ fs.lookup ("marking" : Str) = some v ∧ P v := by
  obtain ⟨dx, m, k, hx, hm, hk, _⟩ := h
  exact w_fldi hx X.wy.cl X.marking wy_marking (q k hk)
theorem w_wmod (X : Kx K mg ca) (h : WayAt ca H x bb ps y) (q : ∀ m, ModAt ca H m ps → P (.ref m)) : ∃ a C dx fs v, V.ref x = .ref a ∧ H a = some (.ins C dx fs) ∧ Cls K C ∧ NoAttr K C "modulus" ∧ fs.lookup ("modulus" : Str) = some v ∧ P v := by
  obtain ⟨dx, m, k, hx, hm, hk, _⟩ := h
  exact w_fldi hx X.wy.cl X.modulus wy_modulus (q m hm)
theorem w_mnum (X : Kx K mg ca) (h : ModAt ca H m ps) (q : P (.int (num ps))) : ∃ a C dx fs v, V.ref m = .ref a ∧ H a = some (.ins C dx fs) ∧ Cls K C ∧ NoAttr K C "number" ∧ fs.lookup ("number" : Str) = some v ∧ P v := by
  obtain ⟨dx, t, ts, hx, _⟩ := h
  exact w_fldi hx X.md.cl X.number md_number q
theorem w_mfac (X : Kx K mg ca) (h : ModAt ca H m ps) (q : ∀ t ts, H t = some (.tup (ts.map V.ref)) → Paired (Tp H) ps ts → P (.ref t)) : ∃ a C dx fs v, V.ref m = .ref a ∧ H a = some (.ins C dx fs) ∧ Cls K C ∧ NoAttr K C "factors" ∧ fs.lookup ("factors" : Str) = some v ∧ P v := by
  obtain ⟨dx, t, ts, hx, h1, h2, _⟩ := h
  exact w_fldi hx X.md.cl X.factors md_factors (q t ts h1 h2)
theorem w_klow (X : Kx K mg ca) {l e : Bool} {s : Int} (h : MkAt ca H k l s e) (q : P (.bl l)) : ∃ a C dx fs v, V.ref k = .ref a ∧ H a = some (.ins C dx fs) ∧ Cls K C ∧ NoAttr K C "low" ∧ fs.lookup ("low" : Str) = some v ∧ P v := by
  obtain ⟨dx, hx⟩ := h
  exact w_fldi hx X.kg.cl X.low mk_low q
theorem w_kshift (X : Kx K mg ca) {l e : Bool} {s : Int} (h : MkAt ca H k l s e) (q : P (.int s)) : ∃ a C dx fs v, V.ref k = .ref a ∧ H a = some (.ins C dx fs) ∧ Cls K C ∧ NoAttr K C "shift" ∧ fs.lookup ("shift" : Str) = some v ∧ P v := by
  obtain ⟨dx, hx⟩ := h
  exact w_fldi hx X.kg.cl X.shift mk_shift q
theorem w_klead (X : Kx K mg ca) {l e : Bool} {s : Int} (h : MkAt ca H k l s e) (q : P (.bl e)) : ∃ a C dx fs v, V.ref k = .ref a ∧ H a = some (.ins C dx fs) ∧ Cls K C ∧ NoAttr K C "lead" ∧ fs.lookup ("lead" : Str) = some v ∧ P v := by
  obtain ⟨dx, hx⟩ := h
  exact w_fldi hx X.kg.cl X.lead mk_lead q
/-! calls, below the purse -/
variable {E : XK} {n : Int} {l g : Addr} {PP : Addr → Hp → Prop}
theorem use_drawR (pu : Purse H a c) (n0 : 0 < n) (n1 : n < 2 ^ 60) (hc : c < 2 ^ 50) (q : ∀ r H', 0 ≤ r → r < n → Same (rm a H) (rm a H') → Purse H' a (c + 1) → Q (.int r) H') : spDraw ([.ref a, .int n] ++ []) H Q E :=
  use_draw pu n0 n1 hc fun r H' h0 h1 k p => q r H' h0 h1 k.rm p
theorem use_greatR (pu : Purse H a c) (n0 : 0 ≤ n) (n1 : n < 1000) (hc : c < 2 ^ 49) (q : ∀ r H', 0 ≤ r → r < 10 ^ n.toNat → Same (rm a H) (rm a H') → Purse H' a (c + n) → Q (.int r) H') : spGreat ([.ref a, .int n] ++ []) H Q E :=
  use_great pu n0 n1 hc fun r H' h0 h1 k p => q r H' h0 h1 k.rm p
theorem use_pairsR (pu : Purse H a c) (n0 : 0 ≤ n) (n1 : n ≤ 11) (hc : c < 2 ^ 48)
    (q : ∀ l H' ps, Same (rm a H) (rm a H') → Purse H' a (c + 22) → PrL (rm a H') l ps → Asc 0 ps → Small ps → (ps.length : Int) ≤ n → (∀ q ∈ ps, q.2 ≤ 12) → Q (.ref l) H') : spPairs ([.ref a, .int n] ++ []) H Q E :=
  use_pairs pu n0 n1 hc fun l H' ps _ k p h => q l H' ps k.rm p (h.rm p)
theorem use_sizeR (h : PrL H l ps) (hs : Small ps) (q : Q (.int (num ps)) H) : spSize ([.ref l] ++ []) H Q E := ⟨l, ps, rfl, h, hs, q⟩
theorem use_styleR (pu : Purse H a c) (hc : c < 2 ^ 48) (q : ∀ p H' (y : Sty), Same (rm a H) (rm a H') → Purse H' a (c + 34) → rm a H' p = some (.lst [.bl y.low, .int y.shift, .bl y.lead]) → y.shift.natAbs < 10 ^ 31 → Q (.ref p) H') : spStyle ([.ref a] ++ []) H Q E :=
  ⟨a, c, rfl, hc, pu, fun p H' y _ k p2 h => q p H' y k.rm p2 (rm_of (p2.ne h (fun _ _ _ w => by cases w)) h)⟩
theorem use_markingR (pu : Purse H a c) (h : H g = some (.lst [.bl y.low, .int y.shift, .bl y.lead])) (q : ∀ k H', Same (rm a H) (rm a H') → Purse H' a c → MkAt ca (rm a H') k y.low y.shift y.lead → Q (.ref k) H') : spMarking ca ([.ref g] ++ []) H Q E :=
  ⟨g, y, rfl, h, fun k H' _ s hk => q k H' s.rm (pu.same s) (hk.rm (pu.same s))⟩
theorem use_rootR (pu : Purse H a c) (n0 : 0 < n) (hc : c < 2 ^ 48) (q : ∀ (r : Int) H', r.natAbs ≤ n.natAbs + 10 ^ 40 → Same (rm a H) (rm a H') → Purse H' a (c + 43) → Q (.int r) H') : spRoot ([.ref a, .int n] ++ []) H Q E :=
  ⟨a, n, c, rfl, n0, hc, pu, fun r H' h k p => q r H' h k.rm p⟩
theorem use_letterR (pu : Purse H a c) (hc : c < 2 ^ 48) (q : ∀ (x : Int) H', Same (rm a H) (rm a H') → Purse H' a (c + 34) → x.natAbs < 10 ^ 31 → Q (.int x) H') : spLetter ([.ref a] ++ []) H Q E :=
  use_letter pu hc fun x H' k p h => q x H' k.rm p h
theorem use_textR (pu : Purse H a c) (n0 : 0 ≤ n) (n1 : n ≤ 1000) (hc : c < 2 ^ 47) (q : ∀ (v : V) (ls : List Int) H', Same (rm a H) (rm a H') → Purse H' a (c + 2 + 34 * (n + 1)) → TextAt (rm a H') v ls → (ls.length : Int) ≤ n → (∀ l ∈ ls, l.natAbs < 10 ^ 31) → Q v H') :
    spText ([.ref a, .int n] ++ []) H Q E := use_text pu n0 n1 hc fun v ls H' k p t na h1 h2 => q v ls H' k.rm p (t.rm na) h1 h2
theorem use_lettersR {v : V} {ls : List Int} (pu : Purse H a c) (t : TextAt H v ls) (q : ∀ l H', Same (rm a H) (rm a H') → Purse H' a c → rm a H' l = some (.lst (ls.map V.int)) → Q (.ref l) H') : spLetters ([v] ++ []) H Q E :=
  ⟨v, ls, rfl, t, fun l H' nl s h => q l H' s.rm (pu.same s) (rm_of (pu.fresh nl) h)⟩
theorem use_modR (pu : Purse H a c) (hl : PrL H l ps) (ha : Asc 0 ps) (hs : Small ps) (q : ∀ m H', Same (rm a H) (rm a H') → Purse H' a c → ModAt ca (rm a H') m ps → PP m H') :
    ∀ x dx, H x = none → H dx = none → dx ≠ x → spModInit ca (.ref x :: ([.ref l] ++ [])) (upd (upd H dx (.own x)) x (.ins ca.md dx [])) (fun v H2 => v = .non ∧ PP x H2) E := by
  obtain ⟨ts, h1, h2⟩ := hl
  exact use_mod h1 h2 ha hs fun m H' _ s hm => q m H' s.rm (pu.same s) (hm.rm (pu.same s))
theorem use_modS (hl : PrL H l ps) (ha : Asc 0 ps) (hs : Small ps) (q : ∀ m H', Same H H' → ModAt ca H' m ps → PP m H') :
    ∀ x dx, H x = none → H dx = none → dx ≠ x → spModInit ca (.ref x :: ([.ref l] ++ [])) (upd (upd H dx (.own x)) x (.ins ca.md dx [])) (fun v H2 => v = .non ∧ PP x H2) E := by
  obtain ⟨ts, h1, h2⟩ := hl
  exact use_mod h1 h2 ha hs fun m H' _ s hm => q m H' s hm
theorem use_wayR (pu : Purse H a c) (hm : ModAt ca H m ps) (hk : MkAt ca H k y.low y.shift y.lead) (q : ∀ x H', Same (rm a H) (rm a H') → Purse H' a c → WayAt ca (rm a H') x (bb % num ps) ps y → PP x H') :
    ∀ x dx, H x = none → H dx = none → dx ≠ x → spWayInit ca [.ref x, .int bb, .ref m, .ref k] (upd (upd H dx (.own x)) x (.ins ca.wy dx [])) (fun v H2 => v = .non ∧ PP x H2) E :=
  use_way hm (.inr ⟨k, rfl, hk⟩) fun x H' _ s hw => q x H' s.rm (pu.same s) (hw.rm (pu.same s))
theorem use_wayN (hm : ModAt ca H m ps) (q : ∀ x H', Same H H' → WayAt ca H' x (bb % num ps) ps ⟨false, 0, false⟩ → PP x H') :
    ∀ x dx, H x = none → H dx = none → dx ≠ x → spWayInit ca [.ref x, .int bb, .ref m, .non] (upd (upd H dx (.own x)) x (.ins ca.wy dx [])) (fun v H2 => v = .non ∧ PP x H2) E :=
  use_way hm (.inl ⟨rfl, rfl⟩) fun x H' _ s hw => q x H' s hw
theorem w_insW {P : Prop} (h : WayAt ca H x bb ps y) (q : P) : ((∃ dx vs, SlX.Slt H x ca.wy dx vs) ∨ ∃ dx fs, H x = some (.ins ca.wy dx fs)) ∧ P := by
  obtain ⟨dx, m, k, hx, _⟩ := h
  exact w_insC hx q
theorem use_markR {v : V} {ls : List Int} (pu : Purse H a c) (h : WayAt ca H x bb ps y) (t : TextAt H v ls) (q : ∀ H', Same (rm a H) (rm a H') → Purse H' a c → Q (.int (mark y bb (num ps) ls)) H') : spMarkOf ca [.ref x, v] H Q E :=
  ⟨x, v, bb, ps, y, ls, rfl, h, t, fun H' s => q H' s.rm (pu.same s)⟩
theorem use_mark {v : V} {ls : List Int} (h : WayAt ca H x bb ps y) (t : TextAt H v ls) (q : ∀ H', Same H H' → Q (.int (mark y bb (num ps) ls)) H') : spMarkOf ca [.ref x, v] H Q E :=
  ⟨x, v, bb, ps, y, ls, rfl, h, t, q⟩
theorem use_reqway (h : WayAt ca H x bb ps y) (q : Q .non H) : spReqWay ca ([.ref x] ++ []) H Q E := by
  obtain ⟨dx, m, k, hx, _⟩ := h
  exact ⟨x, dx, _, rfl, hx, q⟩
end


end Bc
namespace Bc
open PySem PySem.Spec PyProof.Rows L2
/-! ### a letter exchanged, a text rolled -/
theorem hv_set (x b : Int) : ∀ {ls : List Int} {i : Nat} {o : Int}, ls[i]? = some o → hv (ls.set i x) b = hv ls b + (x - o) * b ^ (ls.length - 1 - i)
  | [], i, o, h => by simp at h
  | c :: r, 0, o, h => by
    have e : c = o := by simpa using h
    subst e
    rw [List.set_cons_zero, hv_cons, hv_cons, List.length_cons, Nat.add_sub_cancel, Nat.sub_zero]
    grind
  | c :: r, i + 1, o, h => by
    have h2 : r[i]? = some o := by simpa using h
    rw [List.set_cons_succ, hv_cons, hv_cons, hv_set x b h2, List.length_set, List.length_cons, show r.length + 1 - 1 - (i + 1) = r.length - 1 - i by omega]
    grind
theorem hv_setR (x b : Int) : ∀ {ls : List Int} {i : Nat} {o : Int}, ls[i]? = some o → hv (ls.set i x).reverse b = hv ls.reverse b + (x - o) * b ^ i
  | [], i, o, h => by simp at h
  | c :: r, 0, o, h => by
    have e : c = o := by simpa using h
    subst e
    rw [List.set_cons_zero, List.reverse_cons, List.reverse_cons, hv_app, hv_app]
    simp [hv]
    grind
  | c :: r, i + 1, o, h => by
    have h2 : r[i]? = some o := by simpa using h
    rw [List.set_cons_succ, List.reverse_cons, List.reverse_cons, hv_app, hv_app, hv_setR x b h2, Int.pow_succ]
    simp [hv]
    grind
def exN (y : Sty) (len i : Nat) : Nat := if y.low then i else len - 1 - i
theorem Sm_set {y : Sty} (b x : Int) {ls : List Int} {i : Nat} {o : Int} (h : ls[i]? = some o) : Sm y b (ls.set i x) = Sm y b ls + (x - o) * b ^ exN y ls.length i := by
  unfold Sm exN
  rw [List.length_set]
  cases hl : y.low with
  | true =>
    simp only [if_true]
    rw [hv_setR x b h]
    grind
  | false =>
    simp only [Bool.false_eq_true, if_false]
    rw [hv_set x b h]
    grind
theorem changed_eq {y : Sty} (b n x : Int) {ls : List Int} {i : Nat} {o : Int} (h : ls[i]? = some o) : (mark y b n ls + (x - o) * (b ^ exN y ls.length i % n)) % n = mark y b n (ls.set i x) := by
  rw [mark_Sm, mark_Sm, Sm_set b x h, cg]
  obtain ⟨k1, e1⟩ := self_mod n (b ^ exN y ls.length i)
  obtain ⟨k2, e2⟩ := self_mod n (Sm y b ls)
  rw [e1, e2]
  generalize b ^ exN y ls.length i = q
  generalize Sm y b ls = su
  exact ⟨k2 + (x - o) * k1, by grind⟩
theorem Sm_one (y : Sty) (b x : Int) : Sm y b [x] = ld y * b + x + y.shift := by
  unfold Sm
  have e : hv (if y.low = true then [x].reverse else [x]) b = x := by split <;> simp [hv]
  rw [e]
  simp [geo, hv, Int.pow_succ]
theorem roll_high {y : Sty} (h : y.low = false) (b n o x : Int) (t : List Int) : ((mark y b n (o :: t) - ld y * (b ^ (t.length + 1) % n) - (o + y.shift) * (b ^ t.length % n)) * b + (x + y.shift) + ld y * (b ^ (t.length + 1) % n)) % n = mark y b n (t ++ [x]) := by
  rw [mark_Sm, mark_Sm, Sm_high h, show o :: t = [o] ++ t from rfl, Sm_high h, Sm_one, Sm_one, cg]
  obtain ⟨k1, e1⟩ := self_mod n (b ^ (t.length + 1))
  obtain ⟨k2, e2⟩ := self_mod n (b ^ t.length)
  obtain ⟨k3, e3⟩ := self_mod n ((ld y * b + o + y.shift - ld y) * b ^ t.length + Sm y b t)
  rw [e1, e2, e3, Int.pow_succ, show ([x] : List Int).length = 1 from rfl, Int.pow_succ, Int.pow_zero]
  generalize b ^ t.length = q
  generalize Sm y b t = su
  exact ⟨(k3 - ld y * k1 - (o + y.shift) * k2) * b + ld y * k1, by grind⟩
/-! ### sums that the laws reckon -/
theorem hv_take {cs : List Int} {i : Nat} {v b : Int} (h : cs[i]? = some v) : hv (cs.take (i + 1)) b = hv (cs.take i) b * b + v := by
  obtain ⟨hi, e⟩ := List.getElem?_eq_some_iff.mp h
  unfold hv
  rw [List.take_succ_eq_append_getElem hi, List.foldl_append, e]
  rfl
theorem hv_bits {R : Nat} {r : Int} (hr : r.natAbs < 2 ^ R) : ∀ {cs : List Int}, (∀ c ∈ cs, c.natAbs < 2 ^ R) → ∀ i, (hv (cs.take i) r).natAbs < 2 ^ (R * i)
  | cs, h, 0 => by simp [hv]
  | cs, h, i + 1 => by
    have ih := hv_bits hr h i
    by_cases hi : i < cs.length
    · rw [hv_take (List.getElem?_eq_getElem hi)]
      have hc := h _ (List.getElem_mem hi)
      have h1 := Int.natAbs_add_le (hv (cs.take i) r * r) cs[i]
      rw [Int.natAbs_mul] at h1
      have h2 : (hv (cs.take i) r).natAbs * r.natAbs ≤ (2 ^ (R * i) - 1) * 2 ^ R := Nat.mul_le_mul (by omega) (by omega)
      have h3 : (2 ^ (R * i) - 1) * 2 ^ R = 2 ^ (R * i) * 2 ^ R - 2 ^ R := by rw [Nat.sub_mul, Nat.one_mul]
      have h4 : 2 ^ R ≤ 2 ^ (R * i) * 2 ^ R := Nat.le_mul_of_pos_left _ (Nat.pow_pos (by decide))
      rw [Nat.mul_succ, Nat.pow_add]
      omega
    · rw [List.take_of_length_le (by omega)] at ih ⊢
      exact Nat.lt_of_lt_of_le ih (Nat.pow_le_pow_right (by decide) (Nat.mul_le_mul_left _ (by omega)))
theorem mark_sum {y : Sty} {r n : Int} (ls : List Int) : hv (hf y ls) r % n = mark y (r % n) n ls := by
  unfold mark
  rw [rest_hv, hv_mod]
theorem ten31 {x : Int} (h : x.natAbs < 10 ^ 31) : x.natAbs < 2 ^ 103 := Nat.lt_trans h (by decide)
theorem hf_bits {y : Sty} {ls : List Int} {R : Nat} (hR : 105 ≤ R) (h : ∀ l ∈ ls, l.natAbs < 10 ^ 31) (hs : y.shift.natAbs < 10 ^ 31) : ∀ c ∈ hf y ls, c.natAbs < 2 ^ R := by
  have h1 : ∀ l ∈ ls.map (· + y.shift), l.natAbs < 2 ^ R := fun l hl => by
    obtain ⟨x, hx, rfl⟩ := List.mem_map.mp hl
    have a1 := h x hx
    have a2 := Int.natAbs_add_le x y.shift
    have a3 : (10 : Nat) ^ 31 + 10 ^ 31 < 2 ^ 105 := by decide
    have a4 : (2 : Nat) ^ 105 ≤ 2 ^ R := Nat.pow_le_pow_right (by decide) hR
    show (x + y.shift).natAbs < _
    omega
  intro c hc
  unfold hf at hc
  rcases List.mem_cons.mp hc with e | e
  · have a4 : (2 : Nat) ^ 105 ≤ 2 ^ R := Nat.pow_le_pow_right (by decide) hR
    have a5 : (1 : Nat) < 2 ^ 105 := by decide
    rw [e]
    split <;> omega
  · split at e
    · exact h1 c (List.mem_reverse.mp e)
    · exact h1 c e
def spSum : Sp := fun vs H Q _ => ∃ (l g : Addr) (r : Int) (ls : List Int) (y : Sty), vs = [.ref l, .int r, .ref g] ∧ H l = some (.lst (ls.map V.int)) ∧ H g = some (.lst [.bl y.low, .int y.shift, .bl y.lead]) ∧ ls.length ≤ 150 ∧ r.natAbs < 2 ^ 4000 ∧ (∀ x ∈ ls, x.natAbs < 10 ^ 31) ∧ y.shift.natAbs < 10 ^ 31 ∧ ∀ H', Same H H' → Q (.int (hv (hf y ls) r)) H'
def spRightOf (c : CA) : Sp := fun vs H Q _ => ∃ (x : Addr) (b : Int) (ps : List (Int × Int)) (y : Sty) (u v : List Int), vs = [.ref x, .int (mark y b (num ps) (u ++ v)), .int (mark y b (num ps) u), .int u.length, .int v.length] ∧ WayAt c H x b ps y ∧ y.low = false ∧ u.length < 2 ^ 40 ∧ v.length < 2 ^ 40 ∧ ∀ H', Same H H' → Q (.int (mark y b (num ps) v)) H'
def spLeftOf (c : CA) : Sp := fun vs H Q _ => ∃ (x : Addr) (b : Int) (ps : List (Int × Int)) (y : Sty) (u v : List Int), vs = [.ref x, .int (mark y b (num ps) (u ++ v)), .int (mark y b (num ps) v), .int u.length, .int v.length] ∧ WayAt c H x b ps y ∧ y.low = true ∧ u.length < 2 ^ 40 ∧ v.length < 2 ^ 40 ∧ ∀ H', Same H H' → Q (.int (mark y b (num ps) u)) H'
def spChanged (c : CA) : Sp := fun vs H Q _ => ∃ (x : Addr) (b o z : Int) (i : Nat) (ps : List (Int × Int)) (y : Sty) (ls : List Int), vs = [.ref x, .int (mark y b (num ps) ls), .int ls.length, .int i, .int o, .int z] ∧ WayAt c H x b ps y ∧ ls.length < 2 ^ 40 ∧ ls[i]? = some o ∧ o.natAbs < 2 ^ 1000 ∧ z.natAbs < 2 ^ 1000 ∧ Q (.int (mark y b (num ps) (ls.set i z))) H
def spRolledH (c : CA) : Sp := fun vs H Q _ => ∃ (x : Addr) (b o z : Int) (ps : List (Int × Int)) (y : Sty) (t : List Int), vs = [.ref x, .int (mark y b (num ps) (o :: t)), .int ((o :: t).length : Nat), .int o, .int z] ∧ WayAt c H x b ps y ∧ y.low = false ∧ t.length < 2 ^ 40 ∧ o.natAbs < 2 ^ 1000 ∧ z.natAbs < 2 ^ 1000 ∧ y.shift.natAbs < 2 ^ 1000 ∧ Q (.int (mark y b (num ps) (t ++ [z]))) H

end Bc
namespace Bc
open PySem PySem.Spec PyProof.Rows L2

/-! ### lists of a range, pop, comprehensions by a relation -/
section
variable {σ : L2.St} {H : Hp} {Q : VK} {ta tb : TE} {tr : L2.St → Hp → (Int → Int → Hp → Prop) → Prop} {R : Int → Int → Hp → Prop} {i j : Int} {P : Prop}
theorem w_lstRg (q : tr σ H fun a b H1 => RgOk a b ∧ ∀ q, H1 q = none → atV Q (.ref q) (upd H1 q (.lst (rgV a b)))) : tLstRg tr σ H Q := q
theorem w_rg1 (q : ta σ H fun x H1 => ∃ n, x = .int n ∧ R 0 n H1) : tRg1 ta σ H R := q
theorem w_rg2 (q : ta σ H fun x H1 => tb σ H1 fun y H2 => ∃ i j, x = .int i ∧ y = .int j ∧ R i j H2) : tRg2 ta tb σ H R := q
theorem w_rg2i {P : Int → Int → Prop} (q : P i j) : ∃ a b, V.int i = .int a ∧ V.int j = .int b ∧ P a b := ⟨i, j, rfl, rfl, q⟩
theorem w_rgok (h : -(2 ^ 62) ≤ i ∧ i < 2 ^ 62 ∧ -(2 ^ 62) ≤ j ∧ j < 2 ^ 62 ∧ (j - i).toNat ≤ 2 ^ 24) (q : P) : RgOk i j ∧ P := ⟨h, q⟩
theorem w_popAt {l : Addr} {xs : List V} {k : Nat} {y : V} (h : H l = some (.lst xs)) (h0 : 0 ≤ i) (hk : i.toNat = k) (e : xs[k]? = some y) (h1 : i < 2 ^ 60) (q : Q y (upd H l (.lst (xs.eraseIdx k)))) : rPopAt (.ref l) [.int i] H Q := by
  refine ⟨l, xs, i, k, y, rfl, rfl, h, by omega, by omega, ?_, e, q⟩
  have hk2 : k < xs.length := (List.getElem?_eq_some_iff.mp e).1
  have h3 := atI_get (xs := xs) (v := y) h0 (by rw [hk]; exact e)
  obtain ⟨n, rfl⟩ := Int.eq_ofNat_of_zero_le h0
  have : n = k := by omega
  subst this
  unfold seqIndex?
  simp
  omega
end
section
variable {J : It} {G : Hp → Prop} {te : TE} {vs : List Nat} {σ : L2.St} {H : Hp} {D a : Addr} {c : Int} {Qd : Hp → Prop} {j : Nat}
/-- what is made of each item, by a relation that new things leave alone; the turns may draw -/
theorem lc_relR (xs : List V) (n : Int) (R : V → V → Hp → Prop) (mono : ∀ x y G G', Same G G' → R x y G → R x y G') (w : Walk J xs.length G (YAt xs)) (pu : Purse H a c) (hD : H D = none) (hG : ∀ H', Same (rm a H) (rm a H') → G H') (sz : xs.length ≤ 100000)
    (wp : ∀ v, wipe ((wipe σ vs).set j v) vs = wipe σ vs)
    (step : ∀ (i : Nat) (x : V) (H' : Hp), xs[i]? = some x → Same (rm a H) (rm a H') → Purse H' a (c + n * i) → (∃ acc, rm a H' D = some (.lst acc)) → ∀ Q' : VK, (∀ (y : V) (H'' : Hp), Same (rm a H') (rm a H'') → Purse H'' a (c + n * ((i + 1 : Nat) : Int)) → R x y (rm D (rm a H'')) → Q' y H'') → te ((wipe σ vs).set j (some x)) H' Q')
    (q : ∀ (H' : Hp) (ys : List V), Same (rm a H) (rm a H') → Purse H' a (c + n * xs.length) → rm a H' D = some (.lst ys) → Paired (fun x y => R x y (rm a H')) xs ys → Qd H') :
    ∃ W : Nat → Nat → Hp → Prop, (∃ m, W 0 m (upd H D (.lst []))) ∧ ∀ i m H, W i m H →
      (J.stop i H ∧ Qd H) ∨ (J.go i H ∧ ∃ Nx : Hp → Prop, (∀ H', Nx H' → ∃ m', m' < m ∧ W (i + 1) m' H') ∧ ∀ x H', J.yld i H x H' → gName j x (wipe σ vs) H' fun σ2 H2 => wipe σ2 vs = wipe σ vs ∧ tYes σ2 H2 fun b H3 =>
        if b = true then te σ2 H3 fun y H4 => ∃ acc, H4 D = some (.lst acc) ∧ acc.length < sizeLine ∧ Nx (upd H4 D (.lst (acc ++ [y]))) else Nx H3) := by
  have nD : D ≠ a := pu.fresh hD
  refine lc_it w (fun i H' => ∃ ys : List V, Same (rm a H) (rm D (rm a H')) ∧ Purse H' a (c + n * i) ∧ rm a H' D = some (.lst ys) ∧ Paired (fun x y => R x y (rm D (rm a H'))) (xs.take i) ys) ⟨[], ?_, (pu.same (Same.new hD)).le (by simp), rm_of nD upd_same, .nil⟩ (fun i H' _ h => by obtain ⟨_, k, _⟩ := h; exact hG H' (k.trans rm_le)) ?_ ?_
  · rw [rm_upd nD, rm_updS]
    exact rm_in (rm_none hD) (Same.refl _)
  · rintro i x H1 H' hi ⟨ys, h1, h2, h3, h4⟩ ⟨rfl, hx⟩
    refine ⟨wp _, w_yes ?_⟩
    rw [if_pos rfl]
    have el := h4.length
    rw [List.length_take] at el
    refine step i x H' hx (h1.trans rm_le) h2 ⟨_, h3⟩ _ fun y H2 s2 p2 r => ?_
    have e : xs[i] = x := by rw [List.getElem?_eq_getElem hi] at hx; exact Option.some.inj hx
    refine ⟨ys, rm_le _ _ (s2 _ _ h3), ?_, ys ++ [y], ?_, ?_, ?_, ?_⟩
    · have : (100000 : Nat) < sizeLine := by decide
      omega
    · rw [rm_upd nD, rm_updS]
      exact h1.trans s2.rm
    · obtain ⟨x1, y1, z1, e1, r1⟩ := p2
      exact ⟨x1, y1, z1, by rw [upd_ne nD.symm]; exact e1, r1⟩
    · exact rm_of nD upd_same
    · rw [rm_upd nD, rm_updS, List.take_succ_eq_append_getElem hi, e]
      exact Paired.snoc (paired_imp (fun _ _ z => mono _ _ _ _ s2.rm z) h4) r
  · rintro H' ⟨ys, h1, h2, h3, h4⟩
    rw [List.take_length] at h4
    exact q H' ys (h1.trans rm_le) h2 h3 (paired_imp (fun _ _ z => mono _ _ _ _ rm_le z) h4)
end
theorem Paired.snoc' {α β : Type} {R : α → β → Prop} {xs : List α} {ys : List β} {x : α} {y : β} (h : Paired R xs ys) (r : R x y) : Paired R (xs ++ [x]) (ys ++ [y]) := Paired.snoc h r

theorem w_methW {ca : CA} {H : Hp} {x : Addr} {bb : Int} {ps : List (Int × Int)} {y : Sty} {m : Str} {P : Addr → Prop} (h : WayAt ca H x bb ps y) (l : m ≠ ("marking" : Str) ∧ m ≠ ("modulus" : Str) ∧ m ≠ ("number" : Str) ∧ m ≠ ("base" : Str)) (q : P x) : ∃ a dx fs, V.ref x = .ref a ∧ H a = some (.ins ca.wy dx fs) ∧ fs.lookup m = none ∧ P a := by
  obtain ⟨dx, mm, k, hx, _⟩ := h
  exact w_methi hx (wy_no l.1 l.2.1 l.2.2.1 l.2.2.2) q

section
variable {c : TT} {tb : TS} {D : Ends} {σ : L2.St} {H : Hp}
theorem while_m (Pv : Nat → L2.St → Hp → Prop) (m : Nat) (h0 : Pv m σ H) (hs : ∀ m σ H, Pv m σ H → c σ H fun b H1 => if b = true then (∃ N : L2.St → Hp → Prop, (∀ σ' H', N σ' H' → ∃ m', m' < m ∧ Pv m' σ' H') ∧
      tb { D with nx := N, ct := N, bk := D.nx } σ H1) else D.nx σ H1) : tWhile c tb D σ H := ⟨Pv, ⟨m, h0⟩, hs⟩
theorem while_nm {Pv : Nat → L2.St → Hp → Prop} {m : Nat} (q : tb { D with nx := fun σ' H' => ∃ m', m' < m ∧ Pv m' σ' H', ct := fun σ' H' => ∃ m', m' < m ∧ Pv m' σ' H', bk := D.nx } σ H) :
    ∃ N : L2.St → Hp → Prop, (∀ σ' H', N σ' H' → ∃ m', m' < m ∧ Pv m' σ' H') ∧ tb { D with nx := N, ct := N, bk := D.nx } σ H := ⟨_, fun _ _ h => h, q⟩
end

section
variable {J : It} {G : Hp → Prop} {te : TE} {vs : List Nat} {σ : L2.St} {H : Hp} {D a : Addr} {c : Int} {Qd : Hp → Prop} {j : Nat}
theorem lc_drawsR (xs : List V) (n : Int) (R : Int → Prop) (w : Walk J xs.length G (YAt xs)) (pu : Purse H a c) (hD : H D = none) (hG : ∀ H', Same (rm a H) (rm a H') → G H') (sz : xs.length ≤ 100000)
    (wp : ∀ v, wipe ((wipe σ vs).set j v) vs = wipe σ vs)
    (step : ∀ (i : Nat) (x : V) (H' : Hp), xs[i]? = some x → Same (rm a H) (rm a H') → Purse H' a (c + n * i) → ∀ Q' : VK, (∀ (y : Int) (H'' : Hp), R y → Same (rm a H') (rm a H'') → Purse H'' a (c + n * ((i + 1 : Nat) : Int)) → Q' (.int y) H'') → te ((wipe σ vs).set j (some x)) H' Q')
    (q : ∀ (H' : Hp) (ys : List Int), ys.length = xs.length → (∀ y ∈ ys, R y) → rm a H' D = some (.lst (ys.map V.int)) → Same (rm a H) (rm a H') → Purse H' a (c + n * xs.length) → Qd H') :
    ∃ W : Nat → Nat → Hp → Prop, (∃ m, W 0 m (upd H D (.lst []))) ∧ ∀ i m H, W i m H →
      (J.stop i H ∧ Qd H) ∨ (J.go i H ∧ ∃ Nx : Hp → Prop, (∀ H', Nx H' → ∃ m', m' < m ∧ W (i + 1) m' H') ∧ ∀ x H', J.yld i H x H' → gName j x (wipe σ vs) H' fun σ2 H2 => wipe σ2 vs = wipe σ vs ∧ tYes σ2 H2 fun b H3 =>
        if b = true then te σ2 H3 fun y H4 => ∃ acc, H4 D = some (.lst acc) ∧ acc.length < sizeLine ∧ Nx (upd H4 D (.lst (acc ++ [y]))) else Nx H3) :=
  lc_draws xs a c n R w pu hD (fun H' k => hG H' k.rm) sz wp (fun i x H' hx k p Q' q' => step i x H' hx k.rm p Q' fun y H'' r s p' => q' y H'' r (Keep.ofR s) p')
    fun H' ys h1 h2 h3 k p => q H' ys h1 h2 (rm_of (pu.fresh hD) h3) k.rm p
end

theorem w_unl {K : PySem.W.Frag} {H : Hp} {σ : L2.St} {tg : TGs} {p : Addr} {xs : List V} {k : Nat} {Qs : L2.St → Hp → Prop} (h : SqL K H p xs) (l : xs.length = k) (q : tg xs σ H Qs) : gUnl K k tg (.ref p) σ H Qs := ⟨p, xs, rfl, h, l, q⟩

end Bc
namespace Bc
open PySem PySem.Spec PyProof.Rows L2
/-! ### pieces: lists of lists -/
def LL (H : Hp) (r : Addr) (cuts : List (List Int)) : Prop := ∃ as : List Addr, H r = some (.lst (as.map V.ref)) ∧ Paired (fun c p => H p = some (.lst (c.map V.int))) cuts as
def PM (y : Sty) (b n : Int) (H : Hp) (r : Addr) (us : List (List Int)) : Prop := ∃ qs : List Addr, H r = some (.lst (qs.map V.ref)) ∧ Paired (fun c q => H q = some (.lst [.int (mark y b n c), .int c.length])) us qs
theorem LL.same {H H' : Hp} {r : Addr} {cuts : List (List Int)} (h : LL H r cuts) (s : Same H H') : LL H' r cuts := by
  obtain ⟨as, h1, h2⟩ := h
  exact ⟨as, s _ _ h1, paired_imp (fun _ _ z => s _ _ z) h2⟩
theorem PM.same {y : Sty} {b n : Int} {H H' : Hp} {r : Addr} {us : List (List Int)} (h : PM y b n H r us) (s : Same H H') : PM y b n H' r us := by
  obtain ⟨as, h1, h2⟩ := h
  exact ⟨as, s _ _ h1, paired_imp (fun _ _ z => s _ _ z) h2⟩
section
variable {a p : Addr} {c : Int} {H : Hp} {Q : VK} {v : V} {xs : List V}
theorem w_appendR (pu : Purse H a c) (h : rm a H p = some (.lst xs)) (l : xs.length < sizeLine) (q : ∀ H', Same (rm p (rm a H)) (rm p (rm a H')) → Purse H' a c → rm a H' p = some (.lst (xs ++ [v])) → Q .non H') : rAppend (.ref p) [v] H Q := by
  have np : p ≠ a := fun e => by rw [e, rm_self] at h; cases h
  refine w_append (rm_le _ _ h) l (q _ ?_ ?_ ?_)
  · rw [rm_upd np, rm_updS]
    exact Same.refl _
  · obtain ⟨x1, y1, z1, e1, r1⟩ := pu
    exact ⟨x1, y1, z1, by rw [upd_ne np.symm]; exact e1, r1⟩
  · exact rm_of np upd_same
end
theorem ints_inj {a b : List Int} (h : a.map V.int = b.map V.int) : a = b := by
  induction a generalizing b with
  | nil => cases b with | nil => rfl | cons => cases h
  | cons x r ih => cases b with
    | nil => cases h
    | cons z t =>
      injection h with h1 h2
      injection h1 with h1
      rw [h1, ih h2]
theorem paired_take {α β : Type} {R : α → β → Prop} : ∀ {xs : List α} {ys : List β} (k : Nat), Paired R xs ys → Paired R (xs.take k) (ys.take k)
  | _, _, 0, _ => .nil
  | _, _, _ + 1, .nil => .nil
  | _, _, k + 1, .cons r t => .cons r (paired_take k t)
theorem paired_drop {α β : Type} {R : α → β → Prop} : ∀ {xs : List α} {ys : List β} (k : Nat), Paired R xs ys → Paired R (xs.drop k) (ys.drop k)
  | _, _, 0, h => h
  | _, _, _ + 1, .nil => .nil
  | _, _, k + 1, .cons _ t => paired_drop k t
theorem paired_app {α β : Type} {R : α → β → Prop} : ∀ {xs xs' : List α} {ys ys' : List β}, Paired R xs ys → Paired R xs' ys' → Paired R (xs ++ xs') (ys ++ ys')
  | _, _, _, _, .nil, h => h
  | _, _, _, _, .cons r t, h => .cons r (paired_app t h)
theorem paired_get2 {α β : Type} {R : α → β → Prop} : ∀ {xs : List α} {ys : List β} {i : Nat} {x : α}, Paired R xs ys → xs[i]? = some x → ∃ y, ys[i]? = some y ∧ R x y
  | _, _, _, _, .nil, h => by simp at h
  | _, _, 0, _, .cons r _, h => by
    have e := Option.some.inj (by simpa using h)
    subst e
    exact ⟨_, rfl, r⟩
  | _, _, i + 1, _, .cons _ t, h => by
    obtain ⟨x, h1, h2⟩ := paired_get2 (i := i) t (by simpa using h)
    exact ⟨x, by simpa using h1, h2⟩
theorem flat3 {us : List (List Int)} {k : Nat} {x z : List Int} (h1 : us[k]? = some x) (h2 : us[k + 1]? = some z) : (us.take k ++ [x ++ z] ++ us.drop (k + 2)).flatten = us.flatten := by
  obtain ⟨l1, e1⟩ := List.getElem?_eq_some_iff.mp h1
  obtain ⟨l2, e2⟩ := List.getElem?_eq_some_iff.mp h2
  have : us = us.take k ++ (x :: z :: us.drop (k + 2)) := by
    rw [← e1, ← e2, List.getElem_cons_drop l2, List.getElem_cons_drop l1, List.take_append_drop]
  conv => rhs; rw [this]
  simp [List.flatten_append]
theorem cut_to' {α : Type} (f : α → V) (ls : List α) (j : Nat) : cutV (ls.map f) none (some (j : Int)) = (ls.take j).map f := by
  unfold cutV
  rw [HT.sIx_none, HT.sIx_nat, List.drop_zero, Nat.sub_zero, take_min, List.map_take]
theorem cut_from' {α : Type} (f : α → V) (ls : List α) (j : Nat) : cutV (ls.map f) (some (j : Int)) none = (ls.drop j).map f := by
  unfold cutV
  rw [HT.sIx_none, HT.sIx_nat, drop_min, List.map_drop, List.take_of_length_le]
  rw [List.length_drop, List.length_map]
  by_cases h : j ≤ ls.length
  · rw [Nat.min_eq_left h]; exact Nat.le_refl _
  · omega
theorem atI_map {α : Type} {f : α → V} {ls : List α} {i : Int} {x : α} (h0 : 0 ≤ i) (h : ls[i.toNat]? = some x) : atI (ls.map f) i = some (f x) := atI_get h0 (by rw [List.getElem?_map, h]; rfl)
/-- the marks of pieces made by a comprehension -/
theorem marks_of {y : Sty} {b n : Int} {H0 G : Hp} : ∀ {cuts : List (List Int)} {as : List Addr} {ys : List V}, Paired (fun c p => H0 p = some (.lst (c.map V.int))) cuts as →
    Paired (fun x z => ∃ p cut q, x = V.ref p ∧ H0 p = some (.lst (cut.map V.int)) ∧ z = V.ref q ∧ G q = some (.lst [.int (mark y b n cut), .int (cut.length : Nat)])) (as.map V.ref) ys →
    ∃ qs : List Addr, ys = qs.map V.ref ∧ Paired (fun c q => G q = some (.lst [.int (mark y b n c), .int c.length])) cuts qs
  | _, _, _, .nil, h => by cases h; exact ⟨[], rfl, .nil⟩
  | _, _, _, .cons r t, h => by
    cases h with
    | cons r2 t2 =>
      obtain ⟨p, cut, q, e1, h1, rfl, h2⟩ := r2
      injection e1 with e1
      subst e1
      rw [r] at h1
      injection h1 with h1
      injection h1 with h1
      have := ints_inj h1
      subst this
      obtain ⟨qs, rfl, hq⟩ := marks_of t t2
      exact ⟨q :: qs, rfl, .cons h2 hq⟩
def spCut : Sp := fun vs H Q _ => ∃ (a l : Addr) (c : Int) (ls : List Int), vs = [.ref a, .ref l] ∧ c < 2 ^ 47 ∧ Purse H a c ∧ rm a H l = some (.lst (ls.map V.int)) ∧ ls.length ≤ 1000 ∧
  ∀ r H' cuts, Same (rm a H) (rm a H') → Purse H' a (c + 9) → LL (rm a H') r cuts → cuts.flatten = ls → 0 < cuts.length → cuts.length ≤ 8 → Q (.ref r) H'
def spOne (ca : CA) : Sp := fun vs H Q _ => ∃ (a x r : Addr) (b c : Int) (ps : List (Int × Int)) (y : Sty) (cuts : List (List Int)), vs = [.ref a, .ref x, .ref r] ∧ c < 2 ^ 47 ∧ Purse H a c ∧ WayAt ca (rm a H) x b ps y ∧ LL (rm a H) r cuts ∧ 0 < cuts.length ∧ cuts.length ≤ 8 ∧ cuts.flatten.length ≤ 1000 ∧
  ∀ p H', Same (rm a H) (rm a H') → Purse H' a (c + 8) → rm a H' p = some (.lst [.int (mark y b (num ps) cuts.flatten), .int cuts.flatten.length]) → Q (.ref p) H'
def spBack (ca : CA) : Sp := fun vs H Q _ => ∃ (a x l g : Addr) (b c : Int) (ps : List (Int × Int)) (y : Sty) (ls : List Int), vs = [.ref a, .ref x, .ref l, .ref g] ∧ c < 2 ^ 47 ∧ Purse H a c ∧ WayAt ca (rm a H) x b ps y ∧ rm a H l = some (.lst (ls.map V.int)) ∧ rm a H g = some (.lst [.bl y.low, .int y.shift, .bl y.lead]) ∧ ls.length ≤ 1000 ∧
  ∀ H', Same (rm a H) (rm a H') → Purse H' a (c + 1) → Q (.bl true) H'
def spRepl (ca : CA) : Sp := fun vs H Q _ => ∃ (a x l m : Addr) (b c : Int) (ps : List (Int × Int)) (y : Sty) (ls ms : List Int), vs = [.ref a, .ref x, .ref l, .ref m] ∧ c < 2 ^ 47 ∧ Purse H a c ∧ WayAt ca (rm a H) x b ps y ∧ rm a H l = some (.lst (ls.map V.int)) ∧ rm a H m = some (.lst (ms.map V.int)) ∧ ls.length ≤ 1000 ∧ ms.length = ls.length ∧
  (∀ z ∈ ls, z.natAbs < 2 ^ 1000) ∧ (∀ z ∈ ms, z.natAbs < 2 ^ 1000) ∧ ∀ H', Same (rm a H) (rm a H') → Purse H' a (c + ls.length) → Q (.int (mark y b (num ps) ms)) H'
/-- letters exchanged one by one, those of ord still to come -/
def Mix (ls ms cur : List Int) (ord : List Nat) : Prop := cur.length = ls.length ∧ ord.Nodup ∧ ∀ i, i < ls.length → cur[i]? = if i ∈ ord then ls[i]? else ms[i]?
theorem Mix.step {ls ms cur : List Int} {ord : List Nat} {k i : Nat} {z : Int} (h : Mix ls ms cur ord) (hk : ord[k]? = some i) (hz : ms[i]? = some z) : Mix ls ms (cur.set i z) (ord.eraseIdx k) := by
  obtain ⟨h1, h2, h3⟩ := h
  refine ⟨by rw [List.length_set]; exact h1, h2.eraseIdx k, fun j hj => ?_⟩
  obtain ⟨hk1, hk2⟩ := List.getElem?_eq_some_iff.mp hk
  by_cases e : i = j
  · subst e
    have hn : i ∉ ord.eraseIdx k := by
      intro hm
      rw [List.mem_eraseIdx_iff_getElem] at hm
      obtain ⟨m, hm1, hm2, hm3⟩ := hm
      have := (List.getElem_inj h2).mp (hm3.trans hk2.symm)
      omega
    rw [if_neg hn, List.getElem?_set_self (by omega), hz]
  · rw [List.getElem?_set_ne e, h3 j hj]
    have : j ∈ ord.eraseIdx k ↔ j ∈ ord := by
      constructor
      · exact fun z => List.mem_of_mem_eraseIdx z
      · intro z
        rw [List.mem_eraseIdx_iff_getElem]
        obtain ⟨m, hm, em⟩ := List.getElem_of_mem z
        exact ⟨m, hm, fun q => e (by rw [← em, ← hk2]; congr 1; exact q.symm), em⟩
    by_cases q : j ∈ ord
    · rw [if_pos q, if_pos (this.mpr q)]
    · rw [if_neg q, if_neg (fun w => q (this.mp w))]
theorem Mix.done {ls ms cur : List Int} (h : Mix ls ms cur []) (e : ms.length = ls.length) : cur = ms := by
  refine List.ext_getElem? fun i => ?_
  by_cases hi : i < ls.length
  · rw [h.2.2 i hi]; simp
  · rw [List.getElem?_eq_none (by have := h.1; omega), List.getElem?_eq_none (by omega)]

theorem w_popAtR {a p : Addr} {c i : Int} {H : Hp} {Q : VK} {xs : List V} {k : Nat} {y : V} (pu : Purse H a c) (h : rm a H p = some (.lst xs)) (h0 : 0 ≤ i) (hk : i.toNat = k) (e : xs[k]? = some y) (h1 : i < 2 ^ 60) (q : ∀ H', Same (rm p (rm a H)) (rm p (rm a H')) → Purse H' a c → rm a H' p = some (.lst (xs.eraseIdx k)) → Q y H') : rPopAt (.ref p) [.int i] H Q := by
  have np : p ≠ a := fun e => by rw [e, rm_self] at h; cases h
  refine w_popAt (rm_le _ _ h) h0 hk e h1 (q _ ?_ ?_ ?_)
  · rw [rm_upd np, rm_updS]
    exact Same.refl _
  · obtain ⟨x1, y1, z1, e1, r1⟩ := pu
    exact ⟨x1, y1, z1, by rw [upd_ne np.symm]; exact e1, r1⟩
  · exact rm_of np upd_same

theorem map_eraseIdx {α β : Type} (f : α → β) : ∀ (l : List α) (k : Nat), (l.map f).eraseIdx k = (l.eraseIdx k).map f
  | [], k => by simp
  | a :: r, 0 => rfl
  | a :: r, k + 1 => by simp [List.eraseIdx, map_eraseIdx f r k]

end Bc
namespace Bc
open PySem PySem.Spec PyProof.Rows L2
/-! ### errors: made, raised, caught -/
/-- __init__ of an error with one field -/
def spErr (C : Addr) (f : Str) : Sp := fun vs H Q _ => ∃ (a : Addr) (v : V), vs = [.ref a, v] ∧ H a = some (exo a C none) ∧ ∀ dx, H dx = none → dx ≠ a → Q .non (upd (upd H dx (exd dx [(f, v)])) a (exo a C (some dx)))
structure Err (P : Program) (w : World) (K : PySem.W.Frag) (mg : Str → Option Value) (base : Heap) (k : Nat) (x : Str) (C : Addr) (f : Str) : Prop where
  ex : ∃ (fI : Addr) (fd : FuncData) (ps : List Str), OexC K C ∧ PySem.W.findIn K (.ref C) "__init__" = some (some (.ref fI)) ∧ PySem.W.typeIn K (.ref fI) = some (.type "function") ∧ FnOk P w K mg base L2.CX0 k fI fd ps (spErr C f) ∧ Binds K fd ps [] ∧ mg x = some (.ref C)
/-- what is known of an error that is caught -/
structure ErrC (K : PySem.W.Frag) (mg : Str → Option Value) (x : Str) (C : Addr) (f : Str) : Prop where
  gC : mg x = some (.ref C)
  xf : XfC K C
  no : PySem.W.findIn K (.ref C) f = some none
  te : PySem.W.exmOne K (.ref C) (.ref C) = some true
section
variable {X : Cx} {k j : Nat} {x f : Str} {C : Addr} {sp : Sp} {dvs : List V} {p pos pos2 : Pos} {e : Expr} {es : List Expr} {ta t : TA} {W : WX}
theorem ps_rse (c : Err X.prog X.w X.K X.mg X.base k x C f) (hc : X.calm = true) (hr : Room j X.A) (hk : k + 1 ≤ j) (tk : Takes X W) (hg : Gl X x) (ha : PA X (e :: es) ta)
    (hdb : (x == ("__debug__" : Str)) = false := by decide) (he : starEach (e :: es) X.env = (false, eval e X.env) :: starEach es X.env := by rfl) (hpl : (backTo pos (starEach es X.env)).any (·.1) = false := by rfl) :
    PS X (.Raise (some (.Call (.Name x p) (e :: es) [] pos)) none pos2) (fun _ σ H => tMkO C (spErr C f) [] ta σ H fun cls d H' => W cls d σ H') := by
  obtain ⟨fI, fd, ps, T, iC, tI, F, b, hm⟩ := c.ex
  exact ps_raise hc tk (pmk_oex T iC tI F (hr.mono hk) b .nil (fun _ _ _ _ _ _ _ h => h.elim) hg hm ha hdb he hpl)
theorem w_mkO {σ : L2.St} {H : Hp} {Q : XK} {dvs : List V} (q : ta σ H fun vs H1 => vs.length ≤ 1000 ∧ ∀ a, H1 a = none → sp (.ref a :: (vs ++ dvs)) (upd H1 a (exo a C none))
  (fun v H2 => v = .non ∧ ∃ (d : Addr) (fs : List (Str × V)), H2 a = some (exo a C (some d)) ∧ H2 d = some (exd d fs) ∧ H1 d = none ∧ Q (.ref C) (some d) (upd (del H2 a) d (.xd fs))) (fun _ _ _ => False)) : tMkO C sp dvs ta σ H Q := q
/-- the error flies: its dict is new, what stood stands -/
theorem w_fly {H : Hp} {E : XK} {E' : XK} {v : V} (q : ∀ d H2, H d = none → Same H H2 → H2 d = some (.xd [(f, v)]) → E (.ref C) (some d) H2) : [v].length ≤ 1000 ∧ ∀ a, H a = none → spErr C f (.ref a :: ([v] ++ [])) (upd H a (exo a C none))
    (fun u H2 => u = .non ∧ ∃ (d : Addr) (fs : List (Str × V)), H2 a = some (exo a C (some d)) ∧ H2 d = some (exd d fs) ∧ H d = none ∧ E (.ref C) (some d) (upd (del H2 a) d (.xd fs))) E' :=
  ⟨by show 1 ≤ 1000; decide, fun a na => ⟨a, v, rfl, upd_same, fun dx nd ne => ⟨rfl, dx, _, upd_same, by rw [upd_ne ne, upd_same], by rw [upd_ne ne] at nd; exact nd, q dx _ (by rw [upd_ne ne] at nd; exact nd) (fun b o h => by
    have nb : b ≠ a := ne_of_none h na
    have nb2 : b ≠ dx := ne_of_none h (by rw [upd_ne ne] at nd; exact nd)
    rw [upd_ne nb2, del_ne nb, upd_ne nb, upd_ne nb2, upd_ne nb]
    exact h) upd_same⟩⟩⟩
/-- a def that may raise -/
structure CalX (P : Program) (w : World) (K : PySem.W.Frag) (mg : Str → Option Value) (base : Heap) (k : Nat) (x : Str) (sp : Sp) (dvs : List V) : Prop where
  ex : ∃ (f : Addr) (fd : FuncData) (ps : List Str) (ds : List Value), FnOk P w K mg base (L2.CX P w) k f fd ps sp ∧ mg x = some (.ref f) ∧ PySem.W.keepIn K (.ref f) = true ∧ Binds K fd ps ds ∧ Vals dvs ds
theorem pe_cX (c : CalX X.prog X.w X.K X.mg X.base k x sp dvs) (hr : Room j X.A) (hk : k ≤ j) (hg : Gl X x) (tk : Takes X W) (ha : PA X (e :: es) t)
    (hdb : (x == ("__debug__" : Str)) = false := by decide) (he : starEach (e :: es) X.env = (false, eval e X.env) :: starEach es X.env := by rfl) (hpl : (backTo pos (starEach es X.env)).any (·.1) = false := by rfl) :
    PE X (.Call (.Name x p) (e :: es) [] pos) (tCallSD sp dvs (WE W) t) := by
  obtain ⟨f, fd, ps, ds, F, hm, kp, b, d⟩ := c.ex
  exact pe_callSD F (hr.mono hk) hg hm kp b d (fun σ => passAt tk σ) ha hdb he hpl
/-- a call of it that raises nothing -/
theorem pe_cL (c : CalX X.prog X.w X.K X.mg X.base k x sp dvs) (hr : Room j X.A) (hk : k ≤ j) (hg : Gl X x) (ha : PA X (e :: es) t)
    (hdb : (x == ("__debug__" : Str)) = false := by decide) (he : starEach (e :: es) X.env = (false, eval e X.env) :: starEach es X.env := by rfl) (hpl : (backTo pos (starEach es X.env)).any (·.1) = false := by rfl) :
    PE X (.Call (.Name x p) (e :: es) [] pos) (tCall sp dvs L2.E0 t) := by
  obtain ⟨f, fd, ps, ds, F, hm, kp, b, d⟩ := c.ex
  exact pe_call F (hr.mono hk) hg hm kp b d passL ha hdb he hpl
theorem w_callX {σ : L2.St} {H : Hp} {Q : VK} (q : t σ H fun vs H1 => sp (vs ++ dvs) H1 Q fun cls d H2 => W cls d σ H2) : tCallSD sp dvs (WE W) t σ H Q := q
structure CalXK (P : Program) (w : World) (K : PySem.W.Frag) (mg : Str → Option Value) (base : Heap) (k : Nat) (x : Str) (ks : List Str) (sp : Sp) (gV : List V → List V → List V) : Prop where
  ex : ∃ (f : Addr) (fd : FuncData) (ps : List Str) (g : List Value → List Value → List Value), FnOk P w K mg base (L2.CX P w) k f fd ps sp ∧ mg x = some (.ref f) ∧ PySem.W.keepIn K (.ref f) = true ∧ KBn K fd ps 0 ks g gV
theorem pe_cLK {ks : List Str} {gV : List V → List V → List V} {kws : List Keyword} {tk : TA} (c : CalXK X.prog X.w X.K X.mg X.base k x ks sp gV) (hr : Room j X.A) (hk : k ≤ j) (hg : Gl X x) (hkw : PK X kws tk)
    (hall : (backToKw pos (keywordEach kws X.env)).all (·.1.isSome) = true := by rfl) (hks : (backToKw pos (keywordEach kws X.env)).filterMap (·.1) = ks := by rfl) (hdb : (x == ("__debug__" : Str)) = false := by decide)
    (hpl : ((backTo pos (starEach [] X.env)).any (·.1) || (backToKw pos (keywordEach kws X.env)).any (·.1.isNone)) = false := by rfl) :
    PE X (.Call (.Name x p) [] kws pos) (tCallN 0 ks.length sp gV L2.E0 tNil tk) := by
  obtain ⟨f, fd, ps, g, F, hm, kp, b⟩ := c.ex
  refine ⟨fun pins s σ H Q I h => ?_⟩
  refine wpAny_Call_Name_kw (ld_glob I hg hm ?_ hdb)
  refine PySem.W.callWith_KW0 (h₀ := X.base) I.ok.mod.kin kp hall ?_ hpl
  refine thn (hkw.run pos pins s σ H _ I h) fun ws s2 ⟨zs, H2, I2, rz, l1, l2, q2⟩ => ⟨I2.kIn, ?_⟩
  rw [hks]
  exact run_fnN (us := []) (vs := []) F (hr.mono hk) b passL I2 .nil rz rfl l2 q2
end
section
variable {P : Program} {w : World} {K : PySem.W.Frag} {mg : Str → Option Value} {base : Heap}
theorem Dn.calX {x : Str} {st : Stmt} {N ps : List Str} {k : Nat} {sp : Sp} (F : Dn K mg x st ps) (S : FnScope N ps (defScope st)) (len : ∀ vs H Q E, sp vs H Q E → vs.length = ps.length)
    (hbody : ∀ (f : Addr) (cdv : Value) (A : Around) (outer : List Env) (s : Shared) (H : Hp) (vs : List V) (Q : VK) (E : XK), Room k (A.deeper (envOfC x (defScope st) s.heap.objs.size f cdv)) → sp vs H Q E →
      ∃ t, PSs (cxOf (L2.CX P w) P w K mg base N x (defScope st) f cdv A outer s H E) (defBody st) t ∧ t { nx := fun _ H' => Q .non H', rt := Q } (start N vs) H) : CalX P w K mg base (k + 1) x sp [] := by
  obtain ⟨f, fd, F1, m, b⟩ := F.ex
  exact ⟨f, fd, ps, [], F1.okX S len (fun cdv A outer s H vs Q E hr h => hbody f cdv A outer s H vs Q E hr h), m, F1.kp, b, .nil⟩
/-- the same for a def whose call by keywords is wanted, too -/
theorem fnX_ok {x qual : Str} {st : Stmt} {dvs : List V} {kws : List (Str × V)} {f : Addr} {fd : FuncData} {N ps : List Str} {k : Nat} {sp : Sp}
    (F : FunD K x qual (defArgs st) (defBody st) (defScope st) dvs kws f fd) (S : FnScope N ps (defScope st)) (len : ∀ vs H Q E, sp vs H Q E → vs.length = ps.length)
    (hbody : ∀ (cdv : Value) (A : Around) (outer : List Env) (s : Shared) (H : Hp) (vs : List V) (Q : VK) (E : XK), Room k (A.deeper (envOfC qual (defScope st) s.heap.objs.size f cdv)) → sp vs H Q E →
      ∃ t, PSs (cxOf (L2.CX P w) P w K mg base N qual (defScope st) f cdv A outer s H E) (defBody st) t ∧ t { nx := fun _ H' => Q .non H', rt := Q } (start N vs) H) : FnOk P w K mg base (L2.CX P w) (k + 1) f fd ps sp :=
  F.ok S len fun cdv A outer s H vs Q E hr h => hbody cdv A outer s H vs Q E hr h
end
/-- a clause 'except C as n' that takes its own error -/
theorem w_as {K : PySem.W.Frag} {C : Addr} {i : Nat} {ts : Addr → Value → Option Addr → TS} {Wout : WX} {D : Ends} {d : Option Addr} {σ : L2.St} {H : Hp} (te : PySem.W.exmOne K (.ref C) (.ref C) = some true)
    (q : ∀ a, H a = none → ts a (.ref C) d { nx := fun σ' H' => D.nx (σ'.set i none) H', rt := D.rt, bk := fun σ' H' => D.bk (σ'.set i none) H', ct := fun σ' H' => D.ct (σ'.set i none) H' } (σ.set i (some (.ref a))) H) : wAs K (.ref C) i ts Wout D (.ref C) d σ H :=
  ⟨true, te, fun _ a na => q a na, fun z => by cases z⟩
theorem w_xf {a C : Addr} {cls : Value} {d : Option Addr} {f : Str} {te : TE} {σ : L2.St} {H : Hp} {Q : VK} (q : te σ H fun x H1 => x = .ref a ∧ cls = .ref C ∧ ∃ (dd : Addr) (fs : List (Str × V)) (v : V), d = some dd ∧ H1 dd = some (.xd fs) ∧ fs.lookup f = some v ∧ Q v H1) : tXf a cls d C f te σ H Q := q
theorem w_xfi {a C dd : Addr} {f : Str} {H : Hp} {v : V} {P : V → Prop} (h : H dd = some (.xd [(f, v)])) (q : P v) : V.ref a = .ref a ∧ Value.ref C = .ref C ∧ ∃ (d2 : Addr) (fs : List (Str × V)) (u : V), some dd = some d2 ∧ H d2 = some (.xd fs) ∧ fs.lookup f = some u ∧ P u := ⟨rfl, rfl, dd, _, v, rfl, h, lk0, q⟩
theorem exm_own {K : PySem.W.Frag} {S : Addr} (b : PySem.W.subIn K (.ref S) (.type "BaseException") = some true) (i : PySem.W.isClsIn K S = true) (t : PySem.W.typeIn K (.ref S) = some (.type "type")) (s : PySem.W.subIn K (.ref S) (.ref S) = some true) : PySem.W.exmOne K (.ref S) (.ref S) = some true := by
  have i' : (PySem.W.clsIn K S).isSome = true := i
  unfold PySem.W.exmOne PySem.W.kitCls
  simp only [b, i', t, s, BEq.rfl, Bool.and_self, if_true]

end Bc
namespace Bc
open PySem PySem.Spec PyProof.Rows L2
theorem gcd_mod (x n : Int) : Int.gcd (x % n) n = Int.gcd x n := by
  have h := Int.gcd_mul_left_add_left n (x % n) (x / n)
  rw [Int.mul_ediv_add_emod] at h
  exact h.symm

end Bc
namespace Bc
open PySem PySem.Spec PyProof.Rows L2
/-! ### inverses, texts rolled -/
def spInverse : Sp := fun vs H Q _ => ∃ u n : Int, vs = [.int u, .int n] ∧ 0 < n ∧ n.natAbs < 2 ^ 8000 ∧ Int.gcd u n = 1 ∧ ∀ r H', Same H H' → 0 ≤ r → r < n → u * r % n = 1 % n → Q (.int r) H'
def spDivided (c : CA) : Sp := fun vs H Q _ => ∃ (x : Addr) (t u b : Int) (ps : List (Int × Int)) (y : Sty), vs = [.ref x, .int t, .int u] ∧ WayAt c H x b ps y ∧ (num ps).natAbs < 2 ^ 8000 ∧ t.natAbs < 2 ^ 200000 ∧ Int.gcd u (num ps) = 1 ∧ ∀ r H', Same H H' → u * r % num ps = 1 % num ps → Q (.int (t * r % num ps)) H'
def spIsUnit (c : CA) : Sp := fun vs H Q _ => ∃ (x : Addr) (u b : Int) (ps : List (Int × Int)) (y : Sty), vs = [.ref x, .int u] ∧ WayAt c H x b ps y ∧ Q (.bl (decide (Int.gcd u (num ps) = 1))) H
/-- what the Euclidean steps keep -/
def InvOk (u n one other first second : Int) : Prop := 0 ≤ one ∧ 0 ≤ other ∧ other < one + 1 + n ∧ Int.gcd one other = Int.gcd n u ∧ (∃ k, first * u = one + n * k) ∧ (∃ k, second * u = other + n * k) ∧ ((0 ≤ second ∧ first ≤ 0 ∧ -first * other + second * one = n) ∨ (second ≤ 0 ∧ 0 ≤ first ∧ first * other + -second * one = n))
theorem InvOk.start {u n : Int} (hn : 0 < n) : InvOk u n n (u % n) 0 1 := by
  have h0 := Int.emod_nonneg u (show n ≠ 0 by omega)
  have h1 := Int.emod_lt_of_pos u hn
  refine ⟨by omega, h0, by omega, ?_, ⟨-1, by omega⟩, ⟨u / n, ?_⟩, .inl ⟨by decide, by decide, by omega⟩⟩
  · rw [Int.gcd_comm n (u % n), Int.gcd_comm n u]
    exact gcd_mod u n
  · rw [Int.one_mul]
    have := Int.mul_ediv_add_emod u n
    omega
theorem InvOk.step {u n one other first second : Int} (h : InvOk u n one other first second) (hn : 0 < n) (ho : 0 < other) : InvOk u n other (one - one / other * other) second (first - one / other * second) := by
  obtain ⟨h1, h2, h3, h4, ⟨k1, e1⟩, ⟨k2, e2⟩, h5⟩ := h
  have hr : one - one / other * other = one % other := by
    have := Int.mul_ediv_add_emod one other
    rw [Int.mul_comm] at this
    omega
  have hr0 := Int.emod_nonneg one (show other ≠ 0 by omega)
  have hr1 := Int.emod_lt_of_pos one ho
  have hq : 0 ≤ one / other := Int.ediv_nonneg h1 (by omega)
  refine ⟨h2, by omega, by omega, ?_, ⟨k2, e2⟩, ⟨k1 - one / other * k2, ?_⟩, ?_⟩
  · rw [hr, ← h4, Int.gcd_comm other, gcd_mod]
  · rw [Int.sub_mul, e1, Int.mul_assoc, e2]
    grind
  · generalize one / other = q at *
    rcases h5 with ⟨a1, a2, a3⟩ | ⟨a1, a2, a3⟩
    · refine .inr ⟨?_, a1, ?_⟩
      · have := Int.mul_nonneg hq a1
        omega
      · rw [← a3]; grind
    · refine .inl ⟨?_, a1, ?_⟩
      · have := Int.mul_nonneg hq (show 0 ≤ -second by omega)
        rw [Int.mul_neg] at this
        omega
      · rw [← a3]; grind
theorem InvOk.le {u n one other first second : Int} (h : InvOk u n one other first second) (hn : 0 < n) (ho : 0 < other) : first.natAbs ≤ n.natAbs ∧ (0 < one → second.natAbs ≤ n.natAbs) ∧ one / other ≤ one ∧ 0 ≤ one / other := by
  obtain ⟨h1, h2, h3, h4, _, _, h5⟩ := h
  have hdiv : one / other ≤ one := Int.ediv_le_self _ h1
  have hdiv0 : 0 ≤ one / other := Int.ediv_nonneg h1 (by omega)
  have key : ∀ a b c d : Int, 0 ≤ a → 0 ≤ b → 0 ≤ c → 0 ≤ d → a * b + c * d = n → (0 < b → a ≤ n) ∧ (0 < d → c ≤ n) := fun a b c d ha hb hc hd e => by
    have p1 := Int.mul_nonneg ha hb
    have p2 := Int.mul_nonneg hc hd
    constructor
    · intro z
      have := Int.mul_le_mul_of_nonneg_left (show 1 ≤ b from z) ha
      omega
    · intro z
      have := Int.mul_le_mul_of_nonneg_left (show 1 ≤ d from z) hc
      omega
  rcases h5 with ⟨a1, a2, a3⟩ | ⟨a1, a2, a3⟩
  · obtain ⟨x1, x2⟩ := key (-first) other second one (by omega) h2 a1 h1 a3
    have := x1 ho
    exact ⟨by omega, fun z => by have := x2 z; omega, hdiv, hdiv0⟩
  · obtain ⟨x1, x2⟩ := key first other (-second) one a2 h2 (by omega) h1 a3
    have := x1 ho
    exact ⟨by omega, fun z => by have := x2 z; omega, hdiv, hdiv0⟩
theorem InvOk.done {u n one first second : Int} (h : InvOk u n one 0 first second) (hn : 0 < n) (hg : Int.gcd u n = 1) : u * (first % n) % n = 1 % n := by
  obtain ⟨h1, _, _, h4, ⟨k1, e1⟩, _⟩ := h
  have ho : one = 1 := by
    rw [Int.gcd_comm n u, hg] at h4
    have : Int.gcd one 0 = one.natAbs := Int.gcd_zero_right one
    omega
  obtain ⟨k, e⟩ := self_mod n first
  rw [e, cg]
  refine ⟨k1 + u * k, ?_⟩
  rw [Int.mul_add, Int.mul_comm u first, e1, ho]
  grind
def rollHi (y : Sty) (b n m o z : Int) (L : Nat) : Int := ((m - ld y * (b ^ L % n) - (o + y.shift) * (b ^ (L - 1) % n)) * b + (z + y.shift) + ld y * (b ^ L % n)) % n
def rollLo (y : Sty) (b n m o z r : Int) (L : Nat) : Int := ((m - ld y * (b ^ L % n) - (o + y.shift) * 1) * r % n + (z + y.shift) * (b ^ (L - 1) % n) + ld y * (b ^ L % n)) % n
def spRolled (c : CA) (Cu : Addr) : Sp := fun vs H Q E => ∃ (x : Addr) (b m o z : Int) (L : Nat) (ps : List (Int × Int)) (y : Sty), vs = [.ref x, .int m, .int L, .int o, .int z] ∧ WayAt c H x b ps y ∧ (num ps).natAbs < 2 ^ 8000 ∧ (0 ≤ m ∧ m < num ps) ∧ 1 ≤ L ∧ L < 2 ^ 40 ∧ (o.natAbs < 2 ^ 1000 ∧ z.natAbs < 2 ^ 1000 ∧ y.shift.natAbs < 2 ^ 1000) ∧
  (y.low = false → Q (.int (rollHi y b (num ps) m o z L)) H) ∧ (y.low = true → L = 1 → Q (.int ((z + y.shift + ld y * (b ^ L % num ps)) % num ps)) H) ∧
  (y.low = true → L ≠ 1 → Int.gcd b (num ps) = 1 → ∀ r H', Same H H' → b * r % num ps = 1 % num ps → Q (.int (rollLo y b (num ps) m o z r L)) H') ∧
  (y.low = true → L ≠ 1 → Int.gcd b (num ps) ≠ 1 → ∀ d H', H d = none → Same H H' → H' d = some (.xd [("length", .int L)]) → E (.ref Cu) (some d) H')
theorem rollHi_eq {y : Sty} (h : y.low = false) (b n o z : Int) (t : List Int) : rollHi y b n (mark y b n (o :: t)) o z (t.length + 1) = mark y b n (t ++ [z]) := by
  unfold rollHi
  rw [Nat.add_sub_cancel]
  exact roll_high h b n o z t
theorem rollLo1 (y : Sty) (b n z : Int) : (z + y.shift + ld y * (b ^ 1 % n)) % n = mark y b n [z] := by
  rw [mark_Sm, Sm_one, cg, show b ^ 1 = b by rw [Int.pow_succ, Int.pow_zero, Int.one_mul]]
  obtain ⟨k1, e1⟩ := self_mod n b
  rw [e1]
  exact ⟨ld y * k1, by grind⟩
theorem rollLo_eq {y : Sty} (h : y.low = true) {b n r : Int} (hr : b * r % n = 1 % n) (o z : Int) (t : List Int) : rollLo y b n (mark y b n (o :: t)) o z r (t.length + 1) = mark y b n (t ++ [z]) := by
  unfold rollLo
  rw [Nat.add_sub_cancel, mark_Sm, mark_Sm, Sm_low h, show o :: t = [o] ++ t from rfl, Sm_low h, Sm_one, Sm_one, cg, show ([o] : List Int).length = 1 from rfl, show b ^ 1 = b by rw [Int.pow_succ, Int.pow_zero, Int.one_mul]]
  obtain ⟨k1, e1⟩ := self_mod n (b ^ (t.length + 1))
  obtain ⟨k2, e2⟩ := self_mod n (b ^ t.length)
  obtain ⟨k3, e3⟩ := self_mod n (ld y * b + o + y.shift + b * (Sm y b t - ld y))
  obtain ⟨k5, e5⟩ := cg.mp hr
  rw [e1, e2, e3]
  generalize hX : (ld y * b + o + y.shift + b * (Sm y b t - ld y) + n * k3 - ld y * (b ^ (t.length + 1) + n * k1) - (o + y.shift) * 1) * r = X
  obtain ⟨k4, e4⟩ := self_mod n X
  rw [e4, ← hX, Int.pow_succ]
  generalize b ^ t.length = q
  generalize Sm y b t = su
  refine ⟨(k3 - ld y * k1) * r + (su - ld y * q) * k5 + k4 + (z + y.shift) * k2 + ld y * k1, ?_⟩
  have e6 : (su - ld y * q) * (b * r) = (su - ld y * q) * (1 + n * k5) := by rw [e5]
  grind
def OpenR (y : Sty) (b n : Int) (t : List Int) : Prop := y.low = true ∧ t ≠ [] ∧ Int.gcd b n ≠ 1
def spLRoll (c : CA) : Sp := fun vs H Q _ => ∃ (x : Addr) (b o z : Int) (t : List Int) (ps : List (Int × Int)) (y : Sty), vs = [.ref x, .int (mark y b (num ps) (o :: t)), .int ((t.length + 1 : Nat) : Int), .int o, .int z] ∧ WayAt c H x b ps y ∧ (num ps).natAbs < 2 ^ 8000 ∧ t.length < 2 ^ 30 ∧ (o.natAbs < 2 ^ 1000 ∧ z.natAbs < 2 ^ 1000 ∧ y.shift.natAbs < 2 ^ 1000) ∧
  (¬ OpenR y b (num ps) t → ∀ H', Same H H' → Q (.int (mark y b (num ps) (t ++ [z]))) H') ∧ (OpenR y b (num ps) t → ∀ p H', H p = none → Same H H' → H' p = some (.lst [.str "open", .int ((t.length + 1 : Nat) : Int)]) → Q (.ref p) H')
def spRR (c : CA) : Sp := fun vs H Q _ => ∃ (a x g le : Addr) (rt cc : Int) (ps : List (Int × Int)) (y : Sty) (ls : List Int), vs = [.ref a, .ref x, .ref g, .int rt, .ref le] ∧ cc < 2 ^ 47 ∧ Purse H a cc ∧ WayAt c (rm a H) x (rt % num ps) ps y ∧ rm a H g = some (.lst [.bl y.low, .int y.shift, .bl y.lead]) ∧ rm a H le = some (.lst (ls.map V.int)) ∧ 1 ≤ ls.length ∧ ls.length ≤ 60 ∧ (∀ z ∈ ls, z.natAbs < 10 ^ 31) ∧ y.shift.natAbs < 10 ^ 31 ∧ rt.natAbs < 2 ^ 4000 ∧ (num ps).natAbs < 2 ^ 8000 ∧
  ∀ H', Same (rm a H) (rm a H') → Purse H' a (cc + 200) → Q (.bl true) H'
def perm5 (vs zs : List V) : List V := match zs with
  | [o, n, l, m, w] => vs ++ [w, m, l, o, n]
  | _ => vs ++ zs
def spDiv : Sp := fun vs H Q _ => ∃ x z : Int, vs = [.int x, .int z] ∧ 0 ≤ x ∧ 0 ≤ z ∧ Q (.int (Int.gcd x z)) H
theorem shaped_so {s : Str} (hs : PyData.strOk s = true) (i : Int) : SeqAt.shaped (.list [.str s, .int i]) = true := by
  unfold SeqAt.shaped
  simp [PyData.canLay0, PyData.canLayAll0, PyData.depth, PyData.depthAll, hs]
theorem eqv_so {s : Str} (hs : PyData.strOk s = true) (i : Int) : PyData.eqv (.list [.str s, .int i]) (.list [.str s, .int i]) = true := SeqAt.eqv_refl _ (by simp [PyData.canLay0, PyData.canLayAll0, hs])
theorem ok_open : PyData.strOk "open" = true := by decide +kernel
def perm5V (us ws : List Value) : List Value := match ws with
  | [o, n, l, m, w] => us ++ [w, m, l, o, n]
  | _ => us ++ ws
theorem perm5_vals : ∀ {vs zs : List V} {us ws : List Value}, Vals vs us → Vals zs ws → Vals (perm5 vs zs) (perm5V us ws)
  | _, _, _, _, r, .nil => r.append .nil
  | _, _, _, _, r, .cons a .nil => r.append (.cons a .nil)
  | _, _, _, _, r, .cons a (.cons b .nil) => r.append (.cons a (.cons b .nil))
  | _, _, _, _, r, .cons a (.cons b (.cons c .nil)) => r.append (.cons a (.cons b (.cons c .nil)))
  | _, _, _, _, r, .cons a (.cons b (.cons c (.cons d .nil))) => r.append (.cons a (.cons b (.cons c (.cons d .nil))))
  | _, _, _, _, r, .cons a (.cons b (.cons c (.cons d (.cons e .nil)))) => r.append (.cons e (.cons d (.cons c (.cons a (.cons b .nil)))))
  | _, _, _, _, r, .cons a (.cons b (.cons c (.cons d (.cons e (.cons f t))))) => r.append (.cons a (.cons b (.cons c (.cons d (.cons e (.cons f t))))))

end Bc
namespace Bc
open PySem PySem.Spec PyProof.Rows L2
/-! ### parts of texts, told or open -/
def spRightX (c : CA) (Cu : Addr) : Sp := fun vs H Q E => ∃ (x : Addr) (b W U : Int) (i j : Nat) (ps : List (Int × Int)) (y : Sty), vs = [.ref x, .int W, .int U, .int i, .int j] ∧ WayAt c H x b ps y ∧ (num ps).natAbs < 2 ^ 8000 ∧ (0 ≤ W ∧ W < num ps) ∧ (0 ≤ U ∧ U < num ps) ∧ i < 2 ^ 40 ∧ j < 2 ^ 40 ∧
  (j = 0 → ∀ H', Same H H' → Q (.int (mark y b (num ps) [])) H') ∧ (j ≠ 0 → y.low = false → Q (.int ((W - b ^ j % num ps * (U - ld y)) % num ps)) H) ∧
  (j ≠ 0 → y.low = true → Int.gcd (b ^ i % num ps) (num ps) = 1 → ∀ r H', Same H H' → b ^ i % num ps * r % num ps = 1 % num ps → Q (.int ((W - U + ld y * (b ^ i % num ps)) * r % num ps)) H') ∧
  (j ≠ 0 → y.low = true → Int.gcd (b ^ i % num ps) (num ps) ≠ 1 → ∀ d H', H d = none → Same H H' → H' d = some (.xd [("length", .int i)]) → E (.ref Cu) (some d) H')
def spLeftX (c : CA) (Cu : Addr) : Sp := fun vs H Q E => ∃ (x : Addr) (b W V' : Int) (i j : Nat) (ps : List (Int × Int)) (y : Sty), vs = [.ref x, .int W, .int V', .int i, .int j] ∧ WayAt c H x b ps y ∧ (num ps).natAbs < 2 ^ 8000 ∧ (0 ≤ W ∧ W < num ps) ∧ (0 ≤ V' ∧ V' < num ps) ∧ i < 2 ^ 40 ∧ j < 2 ^ 40 ∧
  (i = 0 → ∀ H', Same H H' → Q (.int (mark y b (num ps) [])) H') ∧ (i ≠ 0 → y.low = true → Q (.int ((W - b ^ i % num ps * (V' - ld y)) % num ps)) H) ∧
  (i ≠ 0 → y.low = false → Int.gcd (b ^ j % num ps) (num ps) = 1 → ∀ r H', Same H H' → b ^ j % num ps * r % num ps = 1 % num ps → Q (.int ((W - V' + ld y * (b ^ j % num ps)) * r % num ps)) H') ∧
  (i ≠ 0 → y.low = false → Int.gcd (b ^ j % num ps) (num ps) ≠ 1 → ∀ d H', H d = none → Same H H' → H' d = some (.xd [("length", .int j)]) → E (.ref Cu) (some d) H')
theorem right_low {y : Sty} (h : y.low = true) {b n r : Int} (u v : List Int) (hr : b ^ u.length % n * r % n = 1 % n) : (mark y b n (u ++ v) - mark y b n u + ld y * (b ^ u.length % n)) * r % n = mark y b n v := by
  rw [mark_Sm, mark_Sm, mark_Sm, Sm_low h, cg]
  obtain ⟨k1, e1⟩ := self_mod n (b ^ u.length)
  obtain ⟨k2, e2⟩ := self_mod n (Sm y b u)
  obtain ⟨k3, e3⟩ := self_mod n (Sm y b u + b ^ u.length * (Sm y b v - ld y))
  obtain ⟨k5, e5⟩ := cg.mp hr
  rw [e1] at e5
  rw [e1, e2, e3]
  generalize b ^ u.length = q at e5 ⊢
  generalize Sm y b u = su
  generalize Sm y b v = sv
  refine ⟨(k3 - k2 + ld y * k1 - k1 * sv) * r + sv * k5, ?_⟩
  have e6 : sv * ((q + n * k1) * r) = sv * (1 + n * k5) := by rw [e5]
  grind
theorem left_high {y : Sty} (h : y.low = false) {b n r : Int} (u v : List Int) (hr : b ^ v.length % n * r % n = 1 % n) : (mark y b n (u ++ v) - mark y b n v + ld y * (b ^ v.length % n)) * r % n = mark y b n u := by
  rw [mark_Sm, mark_Sm, mark_Sm, Sm_high h, cg]
  obtain ⟨k1, e1⟩ := self_mod n (b ^ v.length)
  obtain ⟨k2, e2⟩ := self_mod n (Sm y b v)
  obtain ⟨k3, e3⟩ := self_mod n ((Sm y b u - ld y) * b ^ v.length + Sm y b v)
  obtain ⟨k5, e5⟩ := cg.mp hr
  rw [e1] at e5
  rw [e1, e2, e3]
  generalize b ^ v.length = q at e5 ⊢
  generalize Sm y b u = su
  generalize Sm y b v = sv
  refine ⟨(k3 - k2 + ld y * k1 - k1 * su) * r + su * k5, ?_⟩
  have e6 : su * ((q + n * k1) * r) = su * (1 + n * k5) := by rw [e5]
  grind
/-- which part is open -/
def OpenP (y : Sty) (b n : Int) (k : Nat) (i j : Nat) : Prop := if k = 0 then y.low = true ∧ j ≠ 0 ∧ Int.gcd (b ^ i % n) n ≠ 1 else y.low = false ∧ i ≠ 0 ∧ Int.gcd (b ^ j % n) n ≠ 1
def spTold (c : CA) : Sp := fun vs H Q _ => ∃ (k : Nat) (x lm lz : Addr) (b : Int) (u v : List Int) (ps : List (Int × Int)) (y : Sty), vs = [.int k, .ref x, .ref lm, .ref lz] ∧ k < 2 ∧ WayAt c H x b ps y ∧ (num ps).natAbs < 2 ^ 8000 ∧ u.length < 2 ^ 40 ∧ v.length < 2 ^ 40 ∧
  H lm = some (.lst [.int (mark y b (num ps) (u ++ v)), .int (mark y b (num ps) u), .int (mark y b (num ps) v)]) ∧ H lz = some (.lst [.int u.length, .int v.length]) ∧
  (¬ OpenP y b (num ps) k u.length v.length → ∀ H', Same H H' → Q (.int (if k = 0 then mark y b (num ps) v else mark y b (num ps) u)) H') ∧
  (OpenP y b (num ps) k u.length v.length → ∀ p H', H p = none → Same H H' → H' p = some (.lst [.str "open", .int ((if k = 0 then u.length else v.length : Nat) : Int)]) → Q (.ref p) H')
def spIsOpen : Sp := fun vs H Q _ => ∃ (r n : Int) (k : Nat), vs = [.int r, .int k, .int n] ∧ 0 < n ∧ n.natAbs < 2 ^ 8000 ∧ r.natAbs < 2 ^ 8000 ∧ k < 2 ^ 40 ∧ Q (.bl (!decide (Int.gcd (r ^ k % n) n = 1))) H
theorem pow_mod_succ (r n : Int) (i : Nat) : r ^ i % n * r % n = r ^ (i + 1) % n := by
  rw [Int.pow_succ, Int.mul_emod, Int.emod_emod_of_dvd _ (Int.dvd_refl n), ← Int.mul_emod]
theorem pow_mod_base (r n : Int) : ∀ i : Nat, (r % n) ^ i % n = r ^ i % n
  | 0 => by rw [Int.pow_zero, Int.pow_zero]
  | i + 1 => by
    rw [Int.pow_succ, Int.pow_succ, Int.mul_emod, pow_mod_base r n i, Int.emod_emod_of_dvd _ (Int.dvd_refl n), ← Int.mul_emod]
/-- what is told of a part: its mark, or that it is open -/
def DE (op : Prop) (m len : Int) (e : V) (G : Hp) : Prop := (¬ op ∧ e = .int m) ∨ (op ∧ ∃ p, e = .ref p ∧ G p = some (.lst [.str "open", .int len]))
theorem DE.same {op : Prop} {m len : Int} {e : V} {G G' : Hp} (h : DE op m len e G) (s : Same G G') : DE op m len e G' := by
  rcases h with h | ⟨h, p, e1, e2⟩
  · exact .inl h
  · exact .inr ⟨h, p, e1, s _ _ e2⟩
theorem DE.both {K : PySem.W.Frag} {op : Prop} {m len : Int} {e e' : V} {G G' H : Hp} (h : DE op m len e G) (h' : DE op m len e' G') (s : Same G H) (s' : Same G' H) : ∃ d, Dp K H e d ∧ Dp K H e' d ∧ PyData.canLay0 d = true ∧ PyData.depth d ≤ 1 := by
  rcases h with ⟨n, rfl⟩ | ⟨o, p, rfl, hp⟩
  · rcases h' with ⟨_, rfl⟩ | ⟨o, _⟩
    · exact ⟨.int m, .int _, .int _, rfl, Nat.zero_le _⟩
    · exact absurd o n
  · rcases h' with ⟨n, _⟩ | ⟨_, p', rfl, hp'⟩
    · exact absurd o n
    · exact ⟨.list [.str "open", .int len], .lst (sq (s _ _ hp)) (.cons (.str _) (.cons (.int _) .nil)), .lst (sq (s' _ _ hp')) (.cons (.str _) (.cons (.int _) .nil)), by simp [PyData.canLay0, PyData.canLayAll0, ok_open], by simp [PyData.depth, PyData.depthAll]⟩
theorem w_eqDE {K : PySem.W.Frag} {H : Hp} {a b : Addr} {x0 x1 z0 z1 : V} {d0 d1 : PyData} {Q : VK} (ha : H a = some (.lst [x0, x1])) (hb : H b = some (.lst [z0, z1])) (h0 : Dp K H x0 d0) (h1 : Dp K H x1 d1) (g0 : Dp K H z0 d0) (g1 : Dp K H z1 d1) (c0 : PyData.canLay0 d0 = true) (c1 : PyData.canLay0 d1 = true) (e0 : PyData.depth d0 ≤ 1) (e1 : PyData.depth d1 ≤ 1) (q : Q (.bl true) H) : rEqD K (.ref a) (.ref b) H Q := by
  have lay : PyData.canLay0 (.list [d0, d1]) = true := by simp [PyData.canLay0, PyData.canLayAll0, c0, c1]
  have sh : SeqAt.shaped (.list [d0, d1]) = true := by
    unfold SeqAt.shaped
    rw [lay]
    have b : PyData.depth (.list [d0, d1]) ≤ 3 := by
      simp only [PyData.depth, PyData.depthAll, Nat.max_def]
      split <;> split <;> omega
    rw [Bool.true_and]
    exact decide_eq_true (by omega)
  refine ⟨.list [d0, d1], .list [d0, d1], .lst (sq ha) (.cons h0 (.cons h1 .nil)), .lst (sq hb) (.cons g0 (.cons g1 .nil)), sh, sh, ?_⟩
  rw [SeqAt.eqv_refl _ lay]
  exact q
section
variable {a p : Addr} {c i : Int} {H : Hp} {v : V} {xs : List V} {j : Nat} {Qs : Hp → Prop}
theorem w_setLR (pu : Purse H a c) (h : rm a H p = some (.lst xs)) (e : ixN xs.length i = some j) (q : ∀ H', Same (rm p (rm a H)) (rm p (rm a H')) → Purse H' a c → rm a H' p = some (.lst (xs.set j v)) → Qs H') : rSetL (.ref p) (.int i) v H Qs := by
  have np : p ≠ a := fun e => by rw [e, rm_self] at h; cases h
  refine w_setL (rm_le _ _ h) e (q _ ?_ ?_ ?_)
  · rw [rm_upd np, rm_updS]
    exact Same.refl _
  · obtain ⟨x1, y1, z1, e1, r1⟩ := pu
    exact ⟨x1, y1, z1, by rw [upd_ne np.symm]; exact e1, r1⟩
  · exact rm_of np upd_same
end
theorem map_int_inj {l m : List Int} (h : l.map V.int = m.map V.int) : l = m := by
  induction l generalizing m with
  | nil => cases m with
    | nil => rfl
    | cons _ _ => cases h
  | cons a t ih => cases m with
    | nil => cases h
    | cons b s =>
      rw [List.map_cons, List.map_cons] at h
      injection h with h1 h2
      injection h1 with h1
      rw [h1, ih h2]
theorem three_marks {G : Hp} {le pu pv : Addr} {x u v : List Int} {f : List Int → Int} {ys : List V} (h1 : G le = some (.lst (x.map V.int))) (h2 : G pu = some (.lst (u.map V.int))) (h3 : G pv = some (.lst (v.map V.int)))
    (h : Paired (fun (a z : V) => ∃ (q : Addr) (m : List Int), a = V.ref q ∧ G q = some (.lst (m.map V.int)) ∧ z = V.int (f m)) [V.ref le, V.ref pu, V.ref pv] ys) : ys = [.int (f x), .int (f u), .int (f v)] := by
  cases h with | cons e0 h => ?_
  cases h with | cons e1 h => ?_
  cases h with | cons e2 h => ?_
  cases h
  obtain ⟨q, m, a1, a2, rfl⟩ := e0
  injection a1 with a1
  rw [← a1, h1] at a2
  injection a2 with a2
  injection a2 with a2
  obtain ⟨q', m', b1, b2, rfl⟩ := e1
  injection b1 with b1
  rw [← b1, h2] at b2
  injection b2 with b2
  injection b2 with b2
  obtain ⟨q'', m'', c1, c2, rfl⟩ := e2
  injection c1 with c1
  rw [← c1, h3] at c2
  injection c2 with c2
  injection c2 with c2
  rw [map_int_inj a2, map_int_inj b2, map_int_inj c2]
theorem two_told {R : Nat → V → Prop} {ys : List V} (h : Paired (fun (x z : V) => ∃ k : Nat, x = V.int (0 + (k : Int)) ∧ R k z) ((List.range 2).map fun i : Nat => V.int (0 + (i : Int))) ys) : ∃ z0 z1, ys = [z0, z1] ∧ R 0 z0 ∧ R 1 z1 := by
  rw [show (List.range 2).map (fun i : Nat => V.int (0 + (i : Int))) = [V.int (0 + ((0 : Nat) : Int)), V.int (0 + ((1 : Nat) : Int))] from rfl] at h
  cases h with | cons e0 h => ?_
  cases h with | cons e1 h => ?_
  cases h
  obtain ⟨k0, a0, b0⟩ := e0
  obtain ⟨k1, a1, b1⟩ := e1
  injection a0 with a0
  injection a1 with a1
  have h0 : k0 = 0 := by omega
  have h1 : k1 = 1 := by omega
  subst h0
  subst h1
  exact ⟨_, _, rfl, b0, b1⟩

end Bc
namespace Bc
open PySem PySem.Spec PyProof.Rows L2
/-! ### a try with several clauses, with a name and without -/
/-- a clause: its class, the slot of its name if it has one, its suite's reading -/
structure Cl where
  c : Value
  i : Option Nat
  ts : Addr → Value → Option Addr → TS
def clEnds (i : Option Nat) (D : Ends) : Ends := match i with
  | none => D
  | some i => { nx := fun σ' H' => D.nx (σ'.set i none) H', rt := D.rt, bk := fun σ' H' => D.bk (σ'.set i none) H', ct := fun σ' H' => D.ct (σ'.set i none) H' }
def clSlot (i : Option Nat) (a : Addr) (σ : L2.St) : L2.St := match i with
  | none => σ
  | some i => σ.set i (some (.ref a))
/-- what the clauses wish of an error of the body -/
def wCls (K : PySem.W.Frag) (Wout : WX) (D : Ends) : List Cl → WX
  | [] => Wout
  | k :: r => fun cls d σ H => ∃ b, PySem.W.exmOne K cls k.c = some b ∧ (b = true → ∀ a, H a = none → k.ts a cls d (clEnds k.i D) (clSlot k.i a σ) H) ∧ (b = false → wCls K Wout D r cls d σ H)
inductive ClsOk (X : Cx) : List ExceptHandler → List Cl → Prop
  | nil : ClsOk X [] []
  | as {x n : Str} {c : Value} {i : Nat} {ts : Addr → Value → Option Addr → TS} {b₀ : Stmt} {suite : List Stmt} {np pos' : Pos} {hds : List ExceptHandler} {l : List Cl} (hN : X.N.Nodup) (hi : X.N[i]? = some n) (hln : X.env.kindOf n = some .local) (hc : Names X x c)
      (hsu : ∀ (a : Addr) (oe : Obj) (cls : Value) (d : Option Addr) (pn : List (Addr × Obj)), Zc cls d oe → (∃ vs, oe.data = .fields vs) → PSs (X.suite a ((a, oe) :: pn)) (b₀ :: suite) (ts a cls d)) (r : ClsOk X hds l) :
      ClsOk X (.ExceptHandler (some (.Name x np)) (some n) (b₀ :: suite) pos' :: hds) (⟨c, some i, ts⟩ :: l)
  | no {x : Str} {c : Value} {ts : Addr → Value → Option Addr → TS} {b₀ : Stmt} {suite : List Stmt} {np pos' : Pos} {hds : List ExceptHandler} {l : List Cl} (hc : Names X x c)
      (hsu : ∀ (a : Addr) (oe : Obj) (cls : Value) (d : Option Addr) (pn : List (Addr × Obj)), Zc cls d oe → (∃ vs, oe.data = .fields vs) → PSs (X.suite a ((a, oe) :: pn)) (b₀ :: suite) (ts a cls d)) (r : ClsOk X hds l) :
      ClsOk X (.ExceptHandler (some (.Name x np)) none (b₀ :: suite) pos' :: hds) (⟨c, none, ts⟩ :: l)
section
variable {X : Cx} {body : List Stmt} {h₀ : ExceptHandler} {hds : List ExceptHandler} {l : List Cl} {pos : Pos} {tb : WX → TS} {Wout : WX}
theorem ps_try_cls (hs : X.stack = X.env :: X.outer) (hf : X.env.frame = some X.env.locals) (tk : Takes X Wout)
    (hb : ∀ (W : WX) (pn : List (Addr × Obj)) (xe : Value → Shared → Prop), Takes (X.tr pn xe) W → PassesOwn (model X.prog X.w) X.A X.env xe → PSs (X.tr pn xe) body (tb W))
    (hh : ClsOk X (h₀ :: hds) l) : PS X (.Try body (h₀ :: hds) [] [] pos) (fun D σ H => tb (wCls X.K Wout D l) D σ H) := by
  refine ⟨fun pins s σ H D I h => ?_⟩
  have ok := I.ok
  have hfr : X.A.frames = some (X.env :: X.outer) := by rw [ok.frames, hs]
  refine wpAny_Try_except ?_
  refine wpAny_mono ((hb (wCls X.K Wout D l) (X.pn ++ pins) (fun e s₁ => wpAny (model X.prog X.w) X.A (noteFrame e X.env) (fun _ s₂ => wpAny (model X.prog X.w) X.A (setFlight e none) (fun _ s₃ =>
    wpAny (model X.prog X.w) X.A (handleBy e X.env (h₀ :: hds)) (SP X pins D) X.xe s₃) X.xe s₂) X.xe s₁) (fun u s' xx => ?_) PassesOwn.looking).run [] s σ H D (I.toTry _) h) (fun f s1 hsp => ?_) (fun e s1 he => he)
  · obtain ⟨a, B, sI, pins', σ', H', cls, d, rfl, J', nb, up, sky, na, os, ag, w⟩ := xx
    have J : Inv X pins σ' H' sI := J'.ofTry ok
    have sky' : Sky B (X.env :: X.outer) a (Zc cls d) X.env.locals s'.heap := by rw [← hs]; exact sky
    show wpAny (model X.prog X.w) X.A (noteFrame (.ref a) X.env) _ _ _
    refine Sky.land Zc.steady hfr hf sky' fun h3 fl3 up3 => ?_
    have J3 : Inv X pins σ' H' { s' with heap := h3 } := J.landed nb fl3.1 (up.trans up3) os ag
    obtain ⟨oe3, vs3, he3, hz3, hd3⟩ := fl3.there
    have nfr : a ∉ frs (X.env :: X.outer) := fun hm => by
      obtain ⟨_, o', e', hnf⟩ := fl3.2.2.1.mem hm
      rw [he3] at e'
      cases e'
      exact hnf _ hd3
    have nL : a ≠ X.env.locals := fun z => nfr (List.mem_filterMap.mpr ⟨X.env, List.mem_cons_self, by rw [hf, z]⟩)
    have nF : a ∉ X.fs := fun hm => by
      obtain ⟨e, he, q⟩ := List.mem_filterMap.mp hm
      exact nfr (List.mem_filterMap.mpr ⟨e, List.mem_cons_of_mem _ he, q⟩)
    have S3 := J3.suite he3 hd3 na nL nF
    have LT : PySem.W.Looks (model X.prog X.w) h3 (typeOf (.ref a)) cls := fun A Q E s k q => wpAny_typeOf_ref (k _ _ he3) (by rw [hz3.1]; exact q)
    have test : ∀ {x : Str} {c : Value} {np : Pos} {Q : Value → Shared → Prop} {E : Value → Shared → Prop}, Names X x c → Q c { s' with heap := h3 } → wpAny (model X.prog X.w) (X.A.mark (some (.ref a))) (eval (.Name x np) X.env) Q E { s' with heap := h3 } := fun {x c np Q E} hc q => by
      obtain ⟨hg, hdbg, hm | ⟨hm, hv, hnn⟩⟩ := hc
      · exact ld_glob (X := X.suite a ((a, oe3) :: (X.pn ++ pins))) S3 hg hm q hdbg
      · exact ld_blt (X := X.suite a ((a, oe3) :: (X.pn ++ pins))) S3 hg hm hv q hnn hdbg
    have go : ∀ {hds' : List ExceptHandler} {l' : List Cl}, ClsOk X hds' l' → wCls X.K Wout D l' cls d σ' H' →
        wpAny (model X.prog X.w) X.A (handleBy (.ref a) X.env hds') (SP X pins D) X.xe { s' with heap := h3 } := by
      intro hds' l' hk
      induction hk with
      | nil =>
        intro w
        refine wpAny_handleBy_nil ?_
        obtain ⟨k1, k2, k3, oe, vs, T, oT, ts', he, hz, hd, h1, hr⟩ := id fl3
        unfold PySem.passOn
        refine wpAny_bind (wpAny_field he hd h1 ?_)
        rw [if_neg (show ¬ ((Value.ref T == Value.none) = true) from by simp)]
        have fin : wpAny (model X.prog X.w) X.A (setFlight (.ref a) X.env.frame) (fun _ s4 => wpAny (model X.prog X.w) X.A (throw (.ref a) : Sem Flow) (SP X pins D) X.xe s4) X.xe { s' with heap := h3 } := by
          rw [hf]
          refine HandSPX.setFlight_upZ fl3 fun h4 hh4 up4 => wpAny_throw (tk _ _ ?_)
          exact ⟨a, B, sI, pins, σ', H', cls, d, rfl, J, nb, (up.trans up3).trans up4, .inr (.inr (by rw [hs]; exact hh4)), na, os, ag, w⟩
        first
          | exact wpAny_bind (wpAny_pure (wpAny_bind fin))
          | exact wpAny_bind fin
      | @as x n c i ts b₀ suite np pos' hds2 l2 hN hi hln hc hsu r ih =>
        intro w
        obtain ⟨b, hb1, hyes, hno⟩ := w
        refine wpAny_handleBy_cons (codeAny_handlers_test ?_) (by intro q; cases q)
        refine test hc ((PySem.W.exm_one (M := model X.prog X.w) (J3.kIn) LT hb1).here ?_)
        cases b with
        | true =>
          refine codeAny_handlers_suite_as ?_
          refine HandSPX.lands_againZ fl3 fun h4 fl4 up4 => ?_
          have J4 : Inv X pins σ' H' { s' with heap := h4 } := J.landed nb fl4.1 ((up.trans up3).trans up4) os ag
          obtain ⟨oe4, vs4, he4, hz4, hd4⟩ := fl4.there
          have S4 := J4.suite he4 hd4 na nL nF
          refine store_ok (X := X.suite a ((a, oe4) :: (X.pn ++ pins))) (v := .ref a) S4 hN hi (.inl hln) rfl (fun s5 S5 => ?_) (.inr hln)
          refine wpAny_mono ((hsu a oe4 cls d (X.pn ++ pins) hz4 ⟨_, hd4⟩).run [] s5 _ H' _ S5 (hyes rfl a na)) (fun f s6 hsp => ?_) (fun _ _ z => False.elim z)
          have end_ : ∀ {σ6 : L2.St} {H6 : Hp} {Q : Shared → Prop}, Inv (X.suite a ((a, oe4) :: (X.pn ++ pins))) [] σ6 H6 s6 → (∀ s7, Inv X pins (σ6.set i none) H6 s7 → Q s7) →
              wpAny (model X.prog X.w) X.A (do bindName X.env n .none; unbindBehindTheSuite X.env n pos') (fun _ s7 => Q s7) X.xe s6 := fun {σ6 H6 Q} S6 hq => gone_ok (S6.unsuite ok) hN hi hln hq
          cases f with
          | next =>
            obtain ⟨σ6, H6, S6, q6⟩ := hsp
            exact end_ S6 fun s7 J7 => ⟨_, _, J7, q6⟩
          | brk =>
            obtain ⟨σ6, H6, S6, q6⟩ := hsp
            exact end_ S6 fun s7 J7 => ⟨_, _, J7, q6⟩
          | cont =>
            obtain ⟨σ6, H6, S6, q6⟩ := hsp
            exact end_ S6 fun s7 J7 => ⟨_, _, J7, q6⟩
          | ret u =>
            obtain ⟨v6, σ6, H6, S6, r6, q6⟩ := hsp
            exact end_ S6 fun s7 J7 => ⟨_, _, _, J7, r6, q6⟩
        | false =>
          show wpAny _ X.A (handleBy (.ref a) X.env hds2) _ _ _
          exact ih (hno rfl)
      | @no x c ts b₀ suite np pos' hds2 l2 hc hsu r ih =>
        intro w
        obtain ⟨b, hb1, hyes, hno⟩ := w
        refine wpAny_handleBy_cons (codeAny_handlers_test ?_) (by intro q; cases q)
        refine test hc ((PySem.W.exm_one (M := model X.prog X.w) (J3.kIn) LT hb1).here ?_)
        cases b with
        | true =>
          refine codeAny_handlers_suite ?_
          refine HandSPX.lands_againZ fl3 fun h4 fl4 up4 => ?_
          have J4 : Inv X pins σ' H' { s' with heap := h4 } := J.landed nb fl4.1 ((up.trans up3).trans up4) os ag
          obtain ⟨oe4, vs4, he4, hz4, hd4⟩ := fl4.there
          have S4 := J4.suite he4 hd4 na nL nF
          refine wpAny_mono ((hsu a oe4 cls d (X.pn ++ pins) hz4 ⟨_, hd4⟩).run [] _ _ H' _ S4 (hyes rfl a na)) (fun f s6 hsp => ?_) (fun _ _ z => False.elim z)
          cases f with
          | next =>
            obtain ⟨σ6, H6, S6, q6⟩ := hsp
            exact ⟨_, _, S6.unsuite ok, q6⟩
          | brk =>
            obtain ⟨σ6, H6, S6, q6⟩ := hsp
            exact ⟨_, _, S6.unsuite ok, q6⟩
          | cont =>
            obtain ⟨σ6, H6, S6, q6⟩ := hsp
            exact ⟨_, _, S6.unsuite ok, q6⟩
          | ret u =>
            obtain ⟨v6, σ6, H6, S6, r6, q6⟩ := hsp
            exact ⟨_, _, _, S6.unsuite ok, r6, q6⟩
        | false =>
          show wpAny _ X.A (handleBy (.ref a) X.env hds2) _ _ _
          exact ih (hno rfl)
    exact go hh w
  · cases f with
    | next =>
      obtain ⟨σ', H', J', q⟩ := hsp
      exact wpAny_execs_nil ⟨σ', H', J'.ofTry ok, q⟩
    | brk =>
      obtain ⟨σ', H', J', q⟩ := hsp
      exact ⟨σ', H', J'.ofTry ok, q⟩
    | cont =>
      obtain ⟨σ', H', J', q⟩ := hsp
      exact ⟨σ', H', J'.ofTry ok, q⟩
    | ret u =>
      obtain ⟨v, σ', H', J', r, q⟩ := hsp
      exact ⟨v, σ', H', J'.ofTry ok, r, q⟩
end
section
variable {K : PySem.W.Frag} {W : WX} {D : Ends} {c cls : Value} {i : Nat} {ts : Addr → Value → Option Addr → TS} {r : List Cl} {d : Option Addr} {σ : L2.St} {H : Hp}
theorem w_clsA (te : PySem.W.exmOne K cls c = some true) (q : ∀ a, H a = none → ts a cls d { nx := fun σ' H' => D.nx (σ'.set i none) H', rt := D.rt, bk := fun σ' H' => D.bk (σ'.set i none) H', ct := fun σ' H' => D.ct (σ'.set i none) H' } (σ.set i (some (.ref a))) H) :
    wCls K W D (⟨c, some i, ts⟩ :: r) cls d σ H := ⟨true, te, fun _ => q, fun z => by cases z⟩
theorem w_clsN (te : PySem.W.exmOne K cls c = some true) (q : ∀ a, H a = none → ts a cls d D σ H) : wCls K W D (⟨c, none, ts⟩ :: r) cls d σ H := ⟨true, te, fun _ => q, fun z => by cases z⟩
theorem w_cls0 {k : Cl} (te : PySem.W.exmOne K cls k.c = some false) (q : wCls K W D r cls d σ H) : wCls K W D (k :: r) cls d σ H := ⟨false, te, (fun z => by cases z), fun _ => q⟩
end

end Bc
namespace Bc
open PySem PySem.Spec PyProof.Rows L2
/-! ### == of lists with the same things in them -/
def plainV : V → Bool
  | .byt _ => false
  | .flt _ => false
  | _ => true
def Alk (K : PySem.W.Frag) (H : Hp) : Nat → V → V → Prop
  | 0, x, y => x = y ∧ plainV x = true
  | n + 1, x, y => (x = y ∧ plainV x = true) ∨ ∃ p q xs ys, x = .ref p ∧ y = .ref q ∧ SqL K H p xs ∧ SqL K H q ys ∧ Paired (Alk K H n) xs ys
theorem eq_self {x : V} {v u : Value} {A : Around} {s : Shared} (h : plainV x = true) (r : RelV x v) (r' : RelV x u) : PySem.SeqAt.EqAt A s v u true := by
  cases x with
  | non => cases r; cases r'; exact PySem.SeqAt.EqAt.same _
  | bl b => cases r; cases r'; exact PySem.SeqAt.EqAt.same _
  | int i =>
    obtain ⟨t, rfl⟩ := r
    obtain ⟨t', rfl⟩ := r'
    have := PySem.SeqAt.EqAt.int_int (A := A) (s := s) i t i t'
    rwa [beq_self_eq_true] at this
  | str z =>
    obtain ⟨t, rfl⟩ := r
    obtain ⟨t', rfl⟩ := r'
    have := PySem.SeqAt.EqAt.str_str (A := A) (s := s) z t z t'
    rwa [beq_self_eq_true] at this
  | byt b => cases h
  | flt b => cases h
  | ref a => cases r; cases r'; exact PySem.SeqAt.EqAt.same _
  | ty n => cases r; cases r'; exact PySem.SeqAt.EqAt.same _
section
variable {X : Cx} {pins : List (Addr × Obj)} {σ : L2.St} {H : Hp} {s : Shared}
theorem paired_at {α β : Type} {F : α → β → Prop} : ∀ {l : List α} {m : List β}, Paired F l m → ∀ j (h1 : j < l.length) (h2 : j < m.length), F l[j] m[j]
  | _, _, .cons h _, 0, _, _ => h
  | _, _, .cons _ r, j + 1, h1, h2 => paired_at r j (Nat.lt_of_succ_lt_succ h1) (Nat.lt_of_succ_lt_succ h2)
theorem rc_lists {F : V → V → Prop} {A : Around} {p q : Addr} {xs ys : List V} (I : Inv X pins σ H s) (hx : SqL X.K H p xs) (hy : SqL X.K H q ys) (hp : Paired F xs ys) (hu : A.units < cLine)
    (hF : ∀ x y v u, F x y → RelV x v → RelV y u → PySem.SeqAt.EqAt A.in1 s v u true) : PySem.SeqAt.RcAt A s (.ref p) (.ref q) true := by
  obtain ⟨is, r1, ⟨o1, n1, e1, c1, _, d1⟩, _⟩ := I.list hx
  obtain ⟨js, r2, ⟨o2, n2, e2, c2, _, d2⟩, _⟩ := I.list hy
  have l0 := hp.length
  have l1 := r1.length
  have l2 := r2.length
  have h := PySem.SeqAt.RcAt.lists (A := A) (e := fun _ => true) ⟨o1, e1, c1, n1, d1⟩ ⟨o2, e2, c2, n2, d2⟩ (by simp only [List.size_toArray]; omega) hu (fun j h1 h2 => by
    simp only [List.size_toArray] at h1 h2
    simp only [List.getElem_toArray]
    exact hF _ _ _ _ (paired_at hp j (by omega) (by omega)) (paired_at r1 j (by omega) h1) (paired_at r2 j (by omega) h2))
  rwa [show ((List.range is.toArray.size).all fun _ => true) = true from List.all_eq_true.mpr fun _ _ => rfl] at h
theorem Alk.eq (I : Inv X pins σ H s) : ∀ (n : Nat) (A : Around) (x y : V) (v u : Value), Alk X.K H n x y → RelV x v → RelV y u → A.units + n < cLine → PySem.SeqAt.EqAt A s v u true
  | 0, _, _, _, _, _, ⟨e, h⟩, r, r', _ => by subst e; exact eq_self h r r'
  | n + 1, A, _, _, _, _, .inl ⟨e, h⟩, r, r', _ => by subst e; exact eq_self h r r'
  | n + 1, A, _, _, _, _, .inr ⟨p, q, xs, ys, ex, ey, hx, hy, hp⟩, r, r', hu => by
    subst ex
    subst ey
    cases r
    cases r'
    by_cases hpq : p = q
    · subst hpq
      exact PySem.SeqAt.EqAt.same _
    · exact PySem.SeqAt.EqAt.of_refs hpq (rc_lists I hx hy hp (by omega) fun x y v u h r r' => Alk.eq I n A.in1 x y v u h r r' (by show A.units + 1 + n < cLine; omega))
def rEqA (K : PySem.W.Frag) : R2 := fun x y H Q => ∃ n p q xs ys, x = .ref p ∧ y = .ref q ∧ n ≤ 50 ∧ SqL K H p xs ∧ SqL K H q ys ∧ Paired (Alk K H n) xs ys ∧ Q (.bl true) H
theorem op_eqA (hu : X.A.units + 64 < cLine) : OpR X (compareOp .Eq) (rEqA X.K) := by
  intro pins s σ H x y v u Q I rx ry h
  obtain ⟨n, p, q, xs, ys, rfl, rfl, hn, hx, hy, hp, k⟩ := h
  cases rx
  cases ry
  exact rc_lists I hx hy hp (by omega) (fun x y v u h r r' => Alk.eq I n X.A.in1 x y v u h r r' (by show X.A.units + 1 + n < cLine; omega)) X.prog X.w _ _ ⟨.bl true, H, I, rfl, k⟩
end

end Bc
namespace Bc
open PySem PySem.Spec PyProof.Rows L2
/-! ### plain shifts, refused things -/
def spReqOneX (K : PySem.W.Frag) (c : CA) (Ci : Addr) : Sp := fun vs H Q E => ∃ (v : V) (t : Value) (b : Bool), vs = [v] ∧ TyX K H v t ∧ PySem.W.kitOne K t (.ref c.wy) = some b ∧ (b = true → Q .non H) ∧
  (b = false → ∀ d H', H d = none → Same H H' → H' d = some (.xd [("thing", v)]) → E (.ref Ci) (some d) H')
def spPlainX (K : PySem.W.Frag) (c : CA) (Ci : Addr) : Sp := fun vs H Q E => ∃ (v : V) (t : Value) (b : Bool), vs = [v] ∧ TyX K H v t ∧ PySem.W.kitOne K t (.ref c.wy) = some b ∧
  (b = true → ∃ (x : Addr) (r : Int) (ps : List (Int × Int)) (y : Sty), v = .ref x ∧ WayAt c H x r ps y ∧ Q (.int (plainS y r (num ps))) H) ∧
  (b = false → ∀ d H', H d = none → Same H H' → H' d = some (.xd [("thing", v)]) → E (.ref Ci) (some d) H')
/-- what is no way -/
structure NoW (K : PySem.W.Frag) (c : CA) : Prop where
  non : PySem.W.kitOne K (.type "NoneType") (.ref c.wy) = some false
  int : PySem.W.kitOne K (.type "int") (.ref c.wy) = some false
  bl : PySem.W.kitOne K (.type "bool") (.ref c.wy) = some false
  str : PySem.W.kitOne K (.type "str") (.ref c.wy) = some false
  lst : PySem.W.kitOne K (.type "list") (.ref c.wy) = some false
  dct : PySem.W.kitOne K (.type "dict") (.ref c.wy) = some false
  md : PySem.W.kitOne K (.ref c.md) (.ref c.wy) = some false
theorem w_dnew {σ : L2.St} {H : Hp} {Q : VK} (q : ∀ p, H p = none → atV Q (.ref p) (upd H p (.dK []))) : tDNewK σ H Q := q
theorem w_isB {a b : Bool} {H : Hp} {Q : VK} (q : Q (.bl (decide (a = b))) H) : rIsB (.bl a) (.bl b) H Q := ⟨a, b, rfl, rfl, q⟩
/-! ### drawn ways, things that are no ways -/
def spSome : Sp := fun vs H Q _ => ∃ (a : Addr) (c : Int), vs = [.ref a] ∧ c < 2 ^ 48 ∧ Purse H a c ∧
  ∀ (l : Addr) (H' : Hp) (ps : List (Int × Int)), Same (rm a H) (rm a H') → Purse H' a (c + 1) → PrL (rm a H') l ps → Asc 0 ps → Small ps → (num ps).natAbs < 2 ^ 200 → Q (.ref l) H'
def spDrawn (ca : CA) : Sp := fun vs H Q _ => ∃ (a : Addr) (c : Int), vs = [.ref a] ∧ c < 2 ^ 47 ∧ Purse H a c ∧
  ∀ (t x g : Addr) (H' : Hp) (b : Int) (ps : List (Int × Int)) (y : Sty), Same (rm a H) (rm a H') → Purse H' a (c + 100) → rm a H' t = some (.tup [.ref x, .ref g]) → WayAt ca (rm a H') x b ps y → rm a H' g = some (.lst [.bl y.low, .int y.shift, .bl y.lead]) → (num ps).natAbs < 2 ^ 200 → y.shift.natAbs < 10 ^ 31 → Q (.ref t) H'
def spNoWay (K : PySem.W.Frag) (c : CA) : Sp := fun vs H Q _ => ∃ (v : V) (t : Value), vs = [v] ∧ TyX K H v t ∧ PySem.W.kitOne K t (.ref c.wy) = some false ∧ ∀ l H', H l = none → Same H H' → H' l = some (.lst [v]) → Q (.ref l) H'
theorem use_plainx {K : PySem.W.Frag} {mg : Str → Option Value} {c : CA} {Ci : Addr} {H : Hp} {Q : VK} {E : XK} {x : Addr} {b : Int} {ps : List (Int × Int)} {y : Sty} (X : Kx K mg c) (h : WayAt c H x b ps y) (q : Q (.int (plainS y b (num ps))) H) : spPlainX K c Ci [.ref x] H Q E := by
  obtain ⟨dx, m, k, hx, r⟩ := id h
  exact ⟨.ref x, _, true, rfl, X.wy.ty hx, kit_own, fun _ => ⟨x, b, ps, y, rfl, h, q⟩, fun z => by cases z⟩
theorem kit_no {K : PySem.W.Frag} {t : Value} {C : Addr} (ne : (t == .ref C) = false) (i : PySem.W.isClsIn K C = true) (ty : PySem.W.typeIn K (.ref C) = some (.type "type")) (s : PySem.W.subIn K t (.ref C) = some false) : PySem.W.kitOne K t (.ref C) = some false := by
  have i' : (PySem.W.clsIn K C).isSome = true := i
  unfold PySem.W.kitOne PySem.W.kitCls
  simp only [ne, i', ty, s, BEq.rfl, Bool.and_self, if_true, Bool.false_eq_true, if_false]
theorem ref_no {K : PySem.W.Frag} {B C : Addr} (s : PySem.W.subIn K (.ref B) (.ref C) = some false) (s2 : PySem.W.subIn K (.ref C) (.ref C) = some true) : (Value.ref B == Value.ref C) = false := by
  cases h : (Value.ref B == Value.ref C) with
  | false => rfl
  | true =>
    have e : Value.ref B = Value.ref C := by simpa using h
    rw [e, s2] at s
    cases s
theorem exm_no {K : PySem.W.Frag} {B C : Addr} (b : PySem.W.subIn K (.ref C) (.type "BaseException") = some true) (i : PySem.W.isClsIn K C = true) (t : PySem.W.typeIn K (.ref C) = some (.type "type")) (s : PySem.W.subIn K (.ref B) (.ref C) = some false) : PySem.W.exmOne K (.ref B) (.ref C) = some false := by
  have i' : (PySem.W.clsIn K C).isSome = true := i
  unfold PySem.W.exmOne PySem.W.kitCls
  simp only [b, i', t, s, BEq.rfl, Bool.and_self, if_true]

end Bc
namespace Bc
open PySem PySem.Spec PyProof.Rows L2
/-! ### defs that write things as strings: promised where no repr is under way -/
structure FnG (P : Program) (w : World) (K : PySem.W.Frag) (mg : Str → Option Value) (base : Heap) (k : Nat) (f : Addr) (fd : FuncData) (ps : List Str) (sp : Sp) : Prop where
  ln : ∀ vs H Q E, sp vs H Q E → vs.length = ps.length
  go : ∀ A : Around, A.guards = some [] → Room k A → ∀ (o : List Env) (s : Shared) (H : Hp) (as : Args) (us : List Value) (vs : List V) (Q : VK) (E : XK), Env0 P w K mg base A o s H → BindsTo s fd as (ps.zip us) → Vals vs us → sp vs H Q E →
    codeAny (model P w) A (.call (.ref f) as) (CR L2.CX0 o P w H s Q E) s
section
variable {P : Program} {w : World} {K : PySem.W.Frag} {mg mb : Str → Option Value} {base : Heap} {k : Nat} {f : Addr} {fd : FuncData} {x qual : Str} {st : Stmt} {N ps : List Str} {sp : Sp}
theorem okG (F : L2.Fun K x qual st f fd) (S : FnScope N ps (defScope st)) (ln : ∀ vs H Q E, sp vs H Q E → vs.length = ps.length)
    (hb : ∀ (cv : Value) (A : Around) (o : List Env) (s : Shared) (H : Hp) (vs : List V) (Q : VK) (E : XK), Room k (A.deeper (envOfC qual (defScope st) s.heap.objs.size f cv)) → (A.deeper (envOfC qual (defScope st) s.heap.objs.size f cv)).guards = some [] → sp vs H Q E →
      ∃ t, PSs (cxOf CX0 P w K mg base N qual (defScope st) f cv A o s H E).nox (defBody st) t ∧ t { nx := fun _ G => Q .non G, rt := Q } (start N vs) H) : FnG P w K mg base (k + 1) f fd ps sp := by
  obtain ⟨_, _, _, _, _, _, cv, _, _, rfl, look, code⟩ := F.ex
  refine ⟨ln, fun A hA room o s H as us vs Q E e0 bd rv q => ?_⟩
  have there : ∀ b ob, base.get? b = some ob → s.heap.get? b = some ob := fun b ob e => (e0.bs b ob e).1
  have kin : K.In s.heap := e0.mod.kin.keeps there
  obtain ⟨t, ht, hq⟩ := hb cv A o s H vs Q E (room.deeper _) hA q
  refine codeAny_call_function room.depth (kin _ _ look) rfl S.co S.gen rfl (PySem.W.codeRec_of kin code) (bd _ _ _ _ (wpAny_newFunctionEnv_cells S.kind ?_ fun en he s1 ic => ?_))
  · rintro ⟨n, v⟩ hy
    exact (S.par n (List.of_mem_zip hy).1).imp id fun z => ⟨z, PySem.W.cellsFrom_some _ _ _ (.inl z)⟩
  · subst he
    refine ⟨(e0.mod.nolimit.keeps there).keeps ic.toInCall.keep, codeAny_func (wpAny_mono (ht.nox.run [] s1 (start N vs) H _ (inv_start S room.hd e0 (ln _ _ _ _ q) rv ic) hq) ?_ fun _ _ z => z)⟩
    rintro (_ | _ | _ | u) s' hs
    · obtain ⟨σ', H', J, q'⟩ := hs
      exact ⟨V.non, H', J.os, J.bare, J.base, J.hok, rfl, q'⟩
    · exact hs.elim fun _ ⟨_, _, z⟩ => z.elim
    · exact hs.elim fun _ ⟨_, _, z⟩ => z.elim
    · obtain ⟨v, σ', H', J, rv', q'⟩ := hs
      exact ⟨v, H', J.os, J.bare, J.base, J.hok, rv', q'⟩
/-- a def that is called by its name -/
structure CalG (P : Program) (w : World) (K : PySem.W.Frag) (mg : Str → Option Value) (base : Heap) (k : Nat) (x : Str) (sp : Sp) : Prop where
  ex : ∃ (f : Addr) (fd : FuncData) (ps : List Str), FnG P w K mg base k f fd ps sp ∧ mg x = some (.ref f) ∧ PySem.W.keepIn K (.ref f) = true ∧ Binds K fd ps []
theorem Dn.calG (F : Dn K mg x st ps) (S : FnScope N ps (defScope st)) (ln : ∀ vs H Q E, sp vs H Q E → vs.length = ps.length)
    (hb : ∀ (f : Addr) (cv : Value) (A : Around) (o : List Env) (s : Shared) (H : Hp) (vs : List V) (Q : VK) (E : XK), Room k (A.deeper (envOfC x (defScope st) s.heap.objs.size f cv)) → (A.deeper (envOfC x (defScope st) s.heap.objs.size f cv)).guards = some [] → sp vs H Q E →
      ∃ t, PSs (cxOf CX0 P w K mg base N x (defScope st) f cv A o s H E).nox (defBody st) t ∧ t { nx := fun _ G => Q .non G, rt := Q } (start N vs) H) : CalG P w K mg base (k + 1) x sp := by
  obtain ⟨f, fd, F1, m, b⟩ := F.ex
  exact ⟨f, fd, ps, okG F1 S ln (fun cv A o s H vs Q E hr hA h => hb f cv A o s H vs Q E hr hA h), m, F1.kp, b⟩
end
section
variable {X : Cx} {k j : Nat} {x : Str} {sp : Sp} {e : Expr} {es : List Expr} {t : TA} {p pos : Pos}
theorem pe_cG (c : CalG X.prog X.w X.K X.mg X.base k x sp) (hr : Room j X.A) (hk : k ≤ j) (hA : X.A.guards = some []) (hg : Gl X x) (ha : PA X (e :: es) t) (hdb : (x == ("__debug__" : Str)) = false := by decide)
    (he : starEach (e :: es) X.env = (false, eval e X.env) :: starEach es X.env := by rfl) (hpl : (backTo pos (starEach es X.env)).any (·.1) = false := by rfl) : PE X (.Call (.Name x p) (e :: es) [] pos) (tCall sp [] L2.E0 t) := by
  obtain ⟨f, fd, ps, F, hm, kp, hb⟩ := c.ex
  refine ⟨fun pins s σ H Q I h => wpAny_Call_Name_kw (ld_glob I hg hm (PySem.W.callWith_K (h₀ := X.base) I.ok.mod.kin kp (thn (ha.run pos pins s σ H _ I h) ?_) he hpl) hdb)⟩
  rintro us s1 ⟨vs, H1, I1, r, q⟩
  have r2 : Vals (vs ++ []) (us ++ []) := r.append .nil
  refine ⟨I1.kIn, wpAny_call (codeAny_mono (F.go X.A hA (hr.mono hk) X.stack s1 H1 ⟨us, []⟩ (us ++ []) (vs ++ []) Q L2.E0 I1.env0 (hb s1 us I1.kIn (r2.length.symm.trans (F.ln _ _ _ _ q))) r2 q) ?_)⟩
  rintro (er | fl) s' hq
  · exact hq.elim
  · cases fl with
    | ret u => exact I1.after hq
    | next => exact hq.elim
    | brk => exact hq.elim
    | cont => exact hq.elim
/-- str of a bool -/
def rStrB : List V → Hp → VK → Prop := fun xs H Q => ∃ b, xs = [.bl b] ∧ Q (.str (if b = true then "True" else "False")) H
theorem cStrB : CallR X (.type "str") rStrB := by
  intro pins s σ H xs us Q I r h
  obtain ⟨b, rfl, q⟩ := h
  obtain ⟨u, rfl, r1⟩ := vals1 r
  cases r1
  exact PySem.P.str_of_bool ⟨.str _, H, I.tok _, ⟨_, by cases b <;> rfl⟩, q⟩
/-- str of a list or tuple of plain data -/
def rStrD (K : PySem.W.Frag) : List V → Hp → VK → Prop := fun xs H Q => ∃ (a : Addr) (d : PyData), xs = [.ref a] ∧ Dp K H (.ref a) d ∧ d.showable = true ∧ d.depth ≤ 50 ∧ d.hasDict = false ∧ d.shown.length ≤ sizeLine ∧ Q (.str d.shown) H
theorem cStrD (hA : X.A.guards = some []) (hu : X.A.units + 64 < cLine) : CallR X (.type "str") (rStrD X.K) := by
  intro pins s σ H xs us Q I r h
  obtain ⟨a, d, rfl, hd, hs, hp, hn, hz, q⟩ := h
  obtain ⟨u, rfl, r1⟩ := vals1 r
  cases r1
  obtain ⟨as, rd⟩ := Dp.reads I d _ _ hd rfl
  exact PySem.str_of_reads rd hs (PyData.noDict_hsm hn) hA (by omega) (fun _ _ z => z) (fun h' u tk kp => ⟨.str _, H, I.kept kp, ⟨_, rfl⟩, q⟩) hz
end
/-! the law itself -/
section
variable {P : Program} {w : World} {K : PySem.W.Frag} {mg mb : Str → Option Value} {k : Nat} {fa a : Addr} {fd : FuncData} {x : Str} {sp : Sp} {s₁ : Shared} {vs : List Value} {ns : List Int}
theorem lawG (KX : K.In s₁.heap) (hns : s₁.heap.Ns mainGlobals mg) (hb : s₁.heap.Ns builtinsNs mb) (hbb : ∀ y : Str, y ≠ "__name__" → mb y = bootBuiltins y) (hlim : s₁.heap.NoLimit) (hg : s₁.gens = #[])
    (ha : s₁.heap.get? a = some { cls := .type "list", data := .seq vs.toArray }) (hi : IntsAre vs ns) (hl : ns.length ≤ sizeLine) (hr : Room k callerA) (F : ∀ bs : Heap, K.In bs → bs.Ns mainGlobals mg → FnG P w K mg bs k fa fd [x] sp)
    (hbind : ∀ (s : Shared) (u : Value), BindsTo s fd ⟨[u], []⟩ [(x, u)]) (hsp : ∀ H : Hp, Only H → SqL K H a (ns.map V.int) → sp [.ref a] H (fun v _ => v = .bl true) fun _ _ _ => False) :
    codeAny (model P w) callerA (.call (.ref fa) ⟨[.ref a], []⟩) (fun r s' => r = .ok (.ret (.bool true)) ∧ OldK s₁.heap s'.heap ∧ s'.os = s₁.os ∧ AllBare s'.gens) s₁ := by
  -- H tracks the script alone, or nothing
  suffices hH : ∃ H : Hp, Only H ∧ SqL K H a (ns.map V.int) ∧ HOk P w H s₁.heap ∧ (∀ b, H b ≠ none → b = a) ∧ (H a ≠ none → K.lookup a = none) by
    obtain ⟨H, h1, h2, h3, h4, h5⟩ := hH
    have free : ∀ {b : Addr}, b ≠ a → H b = none := fun {b} n => Classical.byContradiction fun z => n (h4 b z)
    have keep : ∀ {b : Addr} {m : Str → Option Value}, s₁.heap.Ns b m → (hidT s₁.heap H).Ns b m := by
      rintro b m ⟨o, es, ep, e, d, r⟩
      refine ⟨o, es, ep, hidT_get e (free fun z => ?_), d, r⟩
      subst z
      rw [ha] at e
      cases e
      cases d
    have kin : K.In (hidT s₁.heap H) := fun b o e => hidT_get (KX b o e) (Classical.byContradiction fun z => by
      have z2 := h4 b z
      subst z2
      rw [h5 z] at e
      cases e)
    obtain ⟨mc, l1, l2⟩ := hlim
    refine codeAny_mono ((F _ kin (keep hns)).go callerA rfl hr [] s₁ H ⟨[.ref a], []⟩ [.ref a] [.ref a] _ _ ⟨rfl, ⟨kin, keep hns, ⟨mb, keep hb, hbb⟩, ⟨mc, keep l1, l2⟩⟩, fun _ _ e => of_hidT e, Nat.le_of_eq (hidT_size _ _), trivial, (fun _ z => by cases z), h3, .of_eq hg⟩
      (hbind s₁ (.ref a)) (.cons rfl .nil) (hsp H h1 h2)) ?_
    rintro (er | fl) s' h
    · exact h.elim
    · cases fl with
      | ret u =>
        obtain ⟨v, H', os, bare, un, ok', rv, q⟩ := h
        have q : v = .bl true := q
        subst q
        cases rv
        refine ⟨rfl, OldK.of_keep fun b o e => ?_, os, bare⟩
        rcases h1 b with z | ⟨ob, ys, z⟩
        · exact un.keep b o e z (by simp [frs]) (by simp)
        · have t1 := (h3 b _ z).1
          have t2 := (ok' b _ (un.frzs b ob _ z)).1
          rw [e] at t1
          cases t1
          exact t2
      | next => exact h.elim
      | brk => exact h.elim
      | cont => exact h.elim
  have rv := vals_ints hi
  have same : vs.toArray.size ≤ sizeLine := by
    rw [List.size_toArray, hi.length]
    exact hl
  by_cases hk : K.lookup a = none
  · refine ⟨fun b => if b = a then some (.frz { cls := .type "list", data := .seq vs.toArray } (.lst (ns.map V.int))) else none, fun b => ?_, .inl (.inr ⟨_, if_pos rfl⟩), fun b u z => ?_, fun b z => Classical.byContradiction fun n => z (if_neg n), fun _ => hk⟩
    · by_cases n : b = a
      · exact .inr ⟨_, _, if_pos n⟩
      · exact .inl (if_neg n)
    · by_cases n : b = a
      · subst n
        replace z := (if_pos rfl).symm.trans z
        cases z
        exact ⟨ha, by rw [List.length_map]; exact hl, vs, _, rv, ha⟩
      · replace z := (if_neg n).symm.trans z
        cases z
  · obtain ⟨o, ho⟩ := Option.ne_none_iff_exists'.mp hk
    have e := KX a o ho
    rw [ha] at e
    cases e
    exact ⟨fun _ => none, fun _ => .inl rfl, .inr ⟨_, vs.toArray, _, ho, rfl, rfl, rfl, same, by simpa using rv⟩, (fun b u z => by cases z), fun b z => absurd rfl z, fun z => absurd rfl z⟩
end
theorem walkG {l : PySem.W.OpenLaw} {n k : Nat} {q : Program} {loose : List Str} {XP : (Str → Option Value) → Heap → Prop} {YP : World → Heap → Prop} {d : DefRec} {K : Params → PySem.W.Frag} {sp : World → Sp} {x : Str} (hn : l.most = some n) (hz : n ≤ sizeLine) (hdf : d.params.defaults = []) (hr : Room k callerA)
    (hY : ∀ (w : World) (h : Heap), YP w h → (K w.params).In h) (F : ∀ (w : World) (mg : Str → Option Value) (fa : Addr) (h : Heap), (K w.params).In h → h.Ns mainGlobals mg → mg d.name = some (.ref fa) →
      ∃ fd : FuncData, (∀ (s : Shared) (u : Value), BindsTo s fd ⟨[u], []⟩ [(x, u)]) ∧ ∀ bs : Heap, (K w.params).In bs → bs.Ns mainGlobals mg → FnG l.prog w (K w.params) mg bs k fa fd [x] (sp w))
    (hsp : ∀ (w : World) (H : Hp) (a : Addr) (ns : List Int), ns.length ≤ n → Only H → SqL (K w.params) H a (ns.map V.int) → sp w [.ref a] H (fun v _ => v = .bl true) fun _ _ _ => False) : PySem.W.WalkO q loose XP YP l.row.toRowW d [] (fun f vs => PySem.call f vs) := by
  refine Att.attach_call hn hdf fun w s₀ s₁ mg mb fa o pm cd doc a vs ns G Y _ _ _ hmg hobj hints hlen hg => ?_
  obtain ⟨fd, hb, hF⟩ := F w mg fa _ (hY w _ Y) G.T.g hmg
  exact lawG (hY w _ Y) G.T.g G.T.b G.T.builtins G.T.nolimit hg hobj hints (Nat.le_trans hlen hz) hr hF hb fun H h1 h2 => hsp w H a ns hlen h1 h2

end Bc
namespace Bc
open PySem PySem.Spec PyProof.Rows L2
/-! ### errors without a field, made with no argument -/
structure Err0 (K : PySem.W.Frag) (mg : Str → Option Value) (x : Str) (C : Addr) : Prop where
  gC : mg x = some (.ref C)
  ex : PySem.W.excIn K C [.type "ValueError", .type "Exception", .type "BaseException", .type "object"] "ValueError.__new__" = true
  kp : PySem.W.keepIn K (.ref C) = true
  sb : PySem.W.subIn K (.ref C) (.type "BaseException") = some true
  ty : PySem.W.typeIn K (.ref C) = some (.type "type")
  te : PySem.W.exmOne K (.ref C) (.ref C) = some true
section
variable {X : Cx} {x : Str} {C : Addr} {W : WX} {p pos pos2 : Pos}
theorem pmk_none (c : Err0 X.K X.mg x C) (hg : Gl X x) (hdb : (x == ("__debug__" : Str)) = false := by decide) : PMk X (.Call (.Name x p) [] [] pos) (fun _ H Q => Q (.ref C) none H) := by
  intro pins s σ H Q I h
  refine wpAny_Call_Name_kw (ld_glob I hg c.gC (PySem.W.callWith_K0 I.kIn c.kp ?_) hdb)
  obtain ⟨_, _, _, _, _, _, _, _, _, _, _, _, _, _, _, _, _, hC, hN, hni, T⟩ := exc_obj I.kIn c.ex
  exact wpAny_call_exc_subT PySem.F.excBase_ValueError T hC hN hni (fun h' e hm => mk_of I hm (raises_own c.sb c.ty) h (I.hok.gone hm.new)) (Nat.zero_le _)
theorem ps_rse0 (c : Err0 X.K X.mg x C) (hc : X.calm = true) (tk : Takes X W) (hg : Gl X x) (hdb : (x == ("__debug__" : Str)) = false := by decide) :
    PS X (.Raise (some (.Call (.Name x p) [] [] pos)) none pos2) (fun _ σ H => W (.ref C) none σ H) := ps_raise hc tk (pmk_none c hg hdb)
end

end Bc
namespace Bc
open PySem PySem.Spec PyProof.Rows L2
/-! ### != of lists with the same things in them, str of a bool -/
section
variable {X : Cx} {pins : List (Addr × Obj)} {σ : L2.St} {H : Hp} {s : Shared}
theorem rcn_lists {F : V → V → Prop} {A : Around} {p q : Addr} {xs ys : List V} (I : Inv X pins σ H s) (hx : SqL X.K H p xs) (hy : SqL X.K H q ys) (hp : Paired F xs ys) (hu : A.units < cLine)
    (hF : ∀ x y v u, F x y → RelV x v → RelV y u → PySem.SeqAt.EqAt A.in1 s v u true) : PySem.SeqAt.RcNeAt A s (.ref p) (.ref q) false := by
  obtain ⟨is, r1, ⟨o1, n1, e1, c1, _, d1⟩, _⟩ := I.list hx
  obtain ⟨js, r2, ⟨o2, n2, e2, c2, _, d2⟩, _⟩ := I.list hy
  have l0 := hp.length
  have l1 := r1.length
  have l2 := r2.length
  have h := PySem.SeqAt.RcNeAt.lists (A := A) (e := fun _ => true) ⟨o1, e1, c1, n1, d1⟩ ⟨o2, e2, c2, n2, d2⟩ (by simp only [List.size_toArray]; omega) hu (fun j h1 h2 => by
    simp only [List.size_toArray] at h1 h2
    simp only [List.getElem_toArray]
    exact hF _ _ _ _ (paired_at hp j (by omega) (by omega)) (paired_at r1 j (by omega) h1) (paired_at r2 j (by omega) h2))
  rwa [show ((List.range is.toArray.size).all fun _ => true) = true from List.all_eq_true.mpr fun _ _ => rfl] at h
def rNeA (K : PySem.W.Frag) : R2 := fun x y H Q => ∃ n p q xs ys, x = .ref p ∧ y = .ref q ∧ n ≤ 50 ∧ SqL K H p xs ∧ SqL K H q ys ∧ Paired (Alk K H n) xs ys ∧ Q (.bl false) H
theorem op_neA (hu : X.A.units + 64 < cLine) : OpR X (compareOp .NotEq) (rNeA X.K) := by
  intro pins s σ H x y v u Q I rx ry h
  obtain ⟨n, p, q, xs, ys, rfl, rfl, hn, hx, hy, hp, k⟩ := h
  cases rx
  cases ry
  exact rcn_lists I hx hy hp (by omega) (fun x y v u h r r' => Alk.eq I n X.A.in1 x y v u h r r' (by show X.A.units + 1 + n < cLine; omega)) X.prog X.w _ _ ⟨.bl false, H, I, rfl, k⟩
end
theorem w_strB {b : Bool} {H : Hp} {Q : VK} (q : Q (.str (if b = true then "True" else "False")) H) : rStrB [.bl b] H Q := ⟨b, rfl, q⟩
theorem ite_join {c : Bool} {A B : VK → Prop} {Q : VK} (R : V → Hp → Prop) (hQ : ∀ v H, R v H → Q v H) (hA : ∀ Q' : VK, (∀ v H, R v H → Q' v H) → A Q') (hB : ∀ Q' : VK, (∀ v H, R v H → Q' v H) → B Q') : if c = true then A Q else B Q := by
  cases c with
  | true => exact iteT (hA Q hQ)
  | false => exact iteF (hB Q hQ)
theorem ite_joinN {c : Bool} {T U : Ends → L2.St → Hp → Prop} {D : Ends} {σ : L2.St} {H : Hp} (R : L2.St → Hp → Prop) (rest : ∀ σ' H', R σ' H' → D.nx σ' H') (hT : ∀ N : L2.St → Hp → Prop, (∀ σ' H', R σ' H' → N σ' H') → T { D with nx := N } σ H)
    (hU : ∀ N : L2.St → Hp → Prop, (∀ σ' H', R σ' H' → N σ' H') → U { D with nx := N } σ H) : if c = true then T D σ H else U D σ H := by
  cases c with
  | true => exact iteT (hT D.nx rest)
  | false => exact iteF (hU D.nx rest)
theorem ite_joinC {c : Bool} {A B : VK → Prop} {Q : VK} (R : V → Hp → Prop) (hQ : ∀ v H, R v H → Q v H) (hA : c = true → ∀ Q' : VK, (∀ v H, R v H → Q' v H) → A Q') (hB : c = false → ∀ Q' : VK, (∀ v H, R v H → Q' v H) → B Q') : if c = true then A Q else B Q := by
  cases c with
  | true => exact iteT (hA rfl Q hQ)
  | false => exact iteF (hB rfl Q hQ)
theorem and_join {c : Bool} {A : VK → Prop} {Q : VK} {H : Hp} (R : V → Hp → Prop) (hQ : ∀ v H, R v H → Q v H) (hA : c = true → ∀ Q' : VK, (∀ v H, R v H → Q' v H) → A Q') (hB : c = false → R (.bl false) H) : if c = true then A Q else Q (.bl false) H := by
  cases c with
  | true => exact iteT (hA rfl Q hQ)
  | false => exact iteF (hQ _ _ (hB rfl))
theorem ite_joinNC {c : Bool} {T U : Ends → L2.St → Hp → Prop} {D : Ends} {σ : L2.St} {H : Hp} (R : L2.St → Hp → Prop) (rest : ∀ σ' H', R σ' H' → D.nx σ' H') (hT : c = true → ∀ N : L2.St → Hp → Prop, (∀ σ' H', R σ' H' → N σ' H') → T { D with nx := N } σ H)
    (hU : c = false → ∀ N : L2.St → Hp → Prop, (∀ σ' H', R σ' H' → N σ' H') → U { D with nx := N } σ H) : if c = true then T D σ H else U D σ H := by
  cases c with
  | true => exact iteT (hT rfl D.nx rest)
  | false => exact iteF (hU rfl D.nx rest)
theorem test_join {c : Bool} {A : (Bool → Hp → Prop) → Prop} {QT : Bool → Hp → Prop} {H : Hp} (R : Hp → Prop) (rest : ∀ H', R H' → QT false H') (hA : c = true → ∀ Q' : Bool → Hp → Prop, (∀ H', R H' → Q' false H') → A Q') (hB : c = false → R H) : if c = true then A QT else QT false H := by
  cases c with
  | true => exact iteT (hA rfl QT rest)
  | false => exact iteF (rest _ (hB rfl))
theorem w_rep {l : Addr} {k : Int} {xs : List V} {H : Hp} {Q : VK} (h : H l = some (.lst xs)) (h1 : -(2 ^ 63) ≤ k ∧ k < 2 ^ 63 ∧ xs.length * k.toNat ≤ sizeLine) (q : ∀ p, H p = none → atV Q (.ref p) (upd H p (.lst (List.replicate k.toNat xs).flatten))) : rRep (.ref l) (.int k) H Q := ⟨l, k, xs, rfl, rfl, h, h1.1, h1.2.1, h1.2.2, q⟩
theorem paired_left {α β : Type} {R : α → β → Prop} : ∀ {xs ys : List α} {ts : List β}, Paired R (xs ++ ys) ts → Paired R xs (ts.take xs.length)
  | [], _, _, _ => .nil
  | _ :: _, _, _, .cons h t => .cons h (paired_left t)
section
variable {c : TT} {tb : TS} {D : Ends} {σ : L2.St} {H : Hp}
/-- a while whose ends meet -/
theorem while_goR (Pv : L2.St → Hp → Prop) (μ : L2.St → Hp → Nat) (R : L2.St → Hp → Prop) (h0 : Pv σ H) (hs : ∀ σ H, Pv σ H → ∀ N0 : L2.St → Hp → Prop, (∀ σ' H', R σ' H' → N0 σ' H') → c σ H fun b H1 => if b = true then (∃ N : L2.St → Hp → Prop, (∀ σ' H', N σ' H' → ∃ m', m' < μ σ H ∧ (m' = μ σ' H' ∧ Pv σ' H')) ∧
      tb { D with nx := N, ct := N, bk := D.nx } σ H1) else N0 σ H1) (rest : ∀ σ' H', R σ' H' → D.nx σ' H') : tWhile c tb D σ H := while_go Pv μ h0 fun σ H h => hs σ H h D.nx rest
end

end Bc
namespace Bc
open PySem PySem.Spec PyProof.Rows L2
/-! ### k55: changes that a mark misses -/
def optV : Option Nat → V
  | none => .non
  | some e => .int (e : Int)
/-- f, f b, f b b .. modulo n -/
def FS (b n f : Int) : Nat → Int
  | 0 => f
  | e + 1 => FS b n f e * b % n
def Pmiss (b n f A : Int) (e : Nat) : Prop := n / (Int.gcd (FS b n f e) n : Int) < A
def Pdue (b n f A : Int) (e : Nat) : Prop := ∃ s : Int, 1 ≤ s ∧ s < A ∧ s * FS b n f e % n = 0
def spIsMissed (c : CA) : Sp := fun vs H Q _ => ∃ (x : Addr) (f A b : Int) (ps : List (Int × Int)) (y : Sty), vs = [.ref x, .int f, .int A] ∧ WayAt c H x b ps y ∧ (num ps).natAbs < 2 ^ 8000 ∧ Q (.bl (decide (num ps / (Int.gcd f (num ps) : Int) < A))) H
def spLeastExp (c : CA) : Sp := fun vs H Q _ => ∃ (x : Addr) (f A b : Int) (ps : List (Int × Int)) (y : Sty), vs = [.ref x, .int f, .int A] ∧ WayAt c H x b ps y ∧ (num ps).natAbs < 2 ^ 8000 ∧ 0 ≤ f ∧ f < num ps ∧ ∀ r, Fst (Pmiss b (num ps) f A) (Builtin.Int.intBits (num ps) + 1) r → Q (optV r) H
def spMissed (c : CA) : Sp := fun vs H Q _ => ∃ (x : Addr) (A b : Int) (ps : List (Int × Int)) (y : Sty), vs = [.ref x, .int A] ∧ WayAt c H x b ps y ∧ (num ps).natAbs < 2 ^ 8000 ∧ 1 ≤ A ∧ ∀ r, Fst (Pmiss b (num ps) (1 % num ps) A) (Builtin.Int.intBits (num ps) + 1) r → Q (optV r) H
def spDue : Sp := fun vs H Q _ => ∃ b n A : Int, vs = [.int b, .int n, .int A] ∧ 0 ≤ b ∧ b < n ∧ n.natAbs < 2 ^ 8000 ∧ 0 ≤ A ∧ A ≤ 1000 ∧ ∀ r H', Same H H' → Fst (Pdue b n 1 A) 70 r → Q (optV r) H'
def steps (W n A : Int) : List Int := ((List.range (A - 1).toNat).filter fun i : Nat => decide ((1 + (i : Int)) * W % n = 0)).map fun i : Nat => 1 + (i : Int)
theorem mem_steps {W n A s : Int} : s ∈ steps W n A ↔ 1 ≤ s ∧ s < A ∧ s * W % n = 0 := by
  unfold steps
  rw [List.mem_map]
  constructor
  · rintro ⟨i, hi, rfl⟩
    rw [List.mem_filter, List.mem_range] at hi
    have := of_decide_eq_true hi.2
    exact ⟨by omega, by omega, this⟩
  · rintro ⟨h1, h2, h3⟩
    refine ⟨(s - 1).toNat, ?_, by omega⟩
    rw [List.mem_filter, List.mem_range]
    refine ⟨by omega, decide_eq_true ?_⟩
    rw [show (1 + ((s - 1).toNat : Int)) = s by omega]
    exact h3
def isStep (W n : Int) : V → Bool
  | .int s => decide (s * W % n = 0)
  | _ => false
theorem filt_steps (W n A : Int) : ((((List.range (A - 1).toNat).map fun i : Nat => V.int (1 + (i : Int))).filter (isStep W n)).map id) = (steps W n A).map V.int := by
  unfold steps
  rw [List.map_id, List.filter_map, List.map_map]
  rfl
theorem FS_range {b n f : Int} (hn : 0 < n) (h0 : 0 ≤ f) (h1 : f < n) : ∀ e, 0 ≤ FS b n f e ∧ FS b n f e < n
  | 0 => ⟨h0, h1⟩
  | e + 1 => ⟨Int.emod_nonneg _ (by omega), Int.emod_lt_of_pos _ hn⟩
theorem FS_eq (b n f : Int) : ∀ e, FS b n f e % n = f * b ^ e % n
  | 0 => by show f % n = _; simp
  | e + 1 => by
    show FS b n f e * b % n % n = _
    rw [Int.emod_emod_of_dvd _ (Int.dvd_refl n), Int.mul_emod, FS_eq b n f e, ← Int.mul_emod, Int.pow_succ, Int.mul_assoc]
/-- both are about powers of the base -/
theorem Pmiss_iff {b A : Int} {n e : Nat} (hn : 0 < n) (hb : 0 ≤ b) (f : Int) (hf : f % n = 1 % n) : Pmiss b n f A e ↔ ((n / Nat.gcd (b.natAbs ^ e) n : Nat) : Int) < A := by
  unfold Pmiss
  have e1 : Int.gcd (FS b n f e) n = Nat.gcd (b.natAbs ^ e) n := by
    rw [← gcd_mod, FS_eq, Int.mul_emod, hf, ← Int.mul_emod, Int.one_mul, gcd_mod]
    show Nat.gcd (b ^ e).natAbs (n : Int).natAbs = _
    rw [Int.natAbs_pow]
    rfl
  rw [e1, ← Int.natCast_ediv]
theorem Pdue_iff {b A : Int} {n e : Nat} (hn : 0 < n) (hb : 0 ≤ b) (f : Int) (hf : f % n = 1 % n) : Pdue b n f A e ↔ ((n / Nat.gcd (b.natAbs ^ e) n : Nat) : Int) < A := by
  have key : ∀ s : Int, 1 ≤ s → (s * FS b n f e % n = 0 ↔ n ∣ s.toNat * b.natAbs ^ e) := fun s hs => by
    have e1 : s * FS b n f e % n = s * b ^ e % n := by
      rw [Int.mul_emod, FS_eq, Int.mul_emod f, hf, ← Int.mul_emod 1, Int.one_mul, ← Int.mul_emod]
    rw [e1]
    have e2 : s * b ^ e = ((s.toNat * b.natAbs ^ e : Nat) : Int) := by
      rw [Int.natCast_mul, Int.natCast_pow, Int.natAbs_of_nonneg hb, Int.toNat_of_nonneg (by omega)]
    rw [e2, ← Int.dvd_iff_emod_eq_zero, Int.natCast_dvd_natCast]
  have hA : ((n / Nat.gcd (b.natAbs ^ e) n : Nat) : Int) < A ↔ n / Nat.gcd (b.natAbs ^ e) n < A.toNat := by
    generalize n / Nat.gcd (b.natAbs ^ e) n = d
    omega
  rw [hA, ← miss_iff hn]
  constructor
  · rintro ⟨s, h1, h2, h3⟩
    exact ⟨s.toNat, by omega, by omega, (key s h1).mp h3⟩
  · rintro ⟨s, h1, h2, h3⟩
    refine ⟨(s : Int), by omega, by omega, (key s (by omega)).mpr ?_⟩
    rwa [Int.toNat_natCast]
theorem bits_le {n S : Nat} (h : 2 ^ S ≤ n) : S < Builtin.Int.intBits (n : Int) + 1 := by
  have hn : n ≠ 0 := fun z => by
    rw [z] at h
    have : 0 < 2 ^ S := Nat.pow_pos (by decide)
    omega
  have h1 := (Nat.le_log2 hn).mpr h
  unfold Builtin.Int.intBits
  rw [if_neg (by simpa using hn)]
  show S < n.log2 + 1 + 1
  omega
theorem missed_due {b A : Int} {ps : List (Int × Int)} {r r' : Option Nat} (ha : Asc 0 ps) (hk : ∀ q ∈ ps, q.2 ≤ 12) (hb : 0 ≤ b) (h : Fst (Pmiss b (num ps) (1 % num ps) A) (Builtin.Int.intBits (num ps) + 1) r) (h' : Fst (Pdue b (num ps) 1 A) 70 r') : r = r' := by
  obtain ⟨S, s1, s2, s3, s4⟩ := max_pow (S0 := 12) (Int.le_refl 0) ha fun q hq => by have := hk q hq; omega
  rw [num_cast (Int.le_refl 0) ha] at h h'
  refine h.same h' (S := S) (fun j => (Pmiss_iff s4 hb _ (Int.emod_emod_of_dvd _ (Int.dvd_refl _))).trans (Pdue_iff s4 hb 1 rfl).symm) (fun j hj hP => ?_) (bits_le s3) (by omega)
  rw [Pmiss_iff s4 hb _ (Int.emod_emod_of_dvd _ (Int.dvd_refl _))] at hP ⊢
  rwa [gcd_stab hj ha s2] at hP
theorem Fst.uniq {P : Nat → Prop} {N : Nat} {r r' : Option Nat} (h : Fst P N r) (h' : Fst P N r') : r = r' := by
  cases r with
  | none =>
    cases r' with
    | none => rfl
    | some e => exact absurd h'.2.1 (h e h'.1)
  | some e =>
    cases r' with
    | none => exact absurd h.2.1 (h' e h.1)
    | some e' =>
      have a1 : ¬ e < e' := fun z => h'.2.2 e z h.2.1
      have a2 : ¬ e' < e := fun z => h.2.2 e' z h'.2.1
      have : e = e' := by omega
      rw [this]

end Bc
namespace Bc
open PySem PySem.Spec PyProof.Rows L2
/-! ### k56: exchanges that a mark misses -/
theorem gcd_stab2 {b S e g n : Nat} (hn : 0 < n) (he : S ≤ e) (st : ∀ e, S ≤ e → Nat.gcd (b ^ e) n = Nat.gcd (b ^ S) n) : Nat.gcd (g * b ^ e) n = Nat.gcd (g * b ^ S) n := by
  obtain ⟨n2, hn2⟩ := Nat.gcd_dvd_right (b ^ S) n
  have h1 : Nat.gcd (b ^ S) n ∣ b ^ S := Nat.gcd_dvd_left _ _
  have h1p : 0 < Nat.gcd (b ^ S) n := Nat.gcd_pos_of_pos_right _ hn
  have st1 := st (S + 1) (by omega)
  generalize Nat.gcd (b ^ S) n = n1 at *
  have hc : Nat.Coprime n2 b := by
    have hd : n1 * Nat.gcd n2 b ∣ n1 := by
      conv => rhs; rw [← st1]
      refine Nat.dvd_gcd ?_ ?_
      · rw [Nat.pow_succ]
        exact Nat.mul_dvd_mul h1 (Nat.gcd_dvd_right _ _)
      · rw [hn2]
        exact Nat.mul_dvd_mul_left _ (Nat.gcd_dvd_left _ _)
    have h3 := Nat.le_of_dvd h1p hd
    have h4 : 0 < Nat.gcd n2 b := Nat.gcd_pos_of_pos_left _ (by
      rcases Nat.eq_zero_or_pos n2 with z | z
      · rw [z, Nat.mul_zero] at hn2; omega
      · exact z)
    have h5 : ¬ 2 ≤ Nat.gcd n2 b := fun z => by
      have := Nat.mul_le_mul_left n1 z
      omega
    show Nat.gcd n2 b = 1
    omega
  have hc12 : Nat.Coprime n1 n2 := Nat.Coprime.coprime_dvd_left h1 ((hc.symm).pow_left S)
  have key : ∀ e, S ≤ e → Nat.gcd (g * b ^ e) n = n1 * Nat.gcd g n2 := fun e he => by
    rw [hn2, hc12.gcd_mul]
    congr 1
    · exact Nat.gcd_eq_right (Nat.dvd_trans h1 (Nat.dvd_trans (Nat.pow_dvd_pow b he) (Nat.dvd_mul_left _ _)))
    · exact Nat.Coprime.gcd_mul_right_cancel g ((hc.symm).pow_left e)
  rw [key e he, key S (Nat.le_refl _)]
theorem pigeon : ∀ (n : Nat) (f : Nat → Nat), (∀ i, i ≤ n → f i < n) → ∃ i j, i < j ∧ j ≤ n ∧ f i = f j
  | 0, f, h => by have := h 0 (Nat.le_refl _); omega
  | n + 1, f, h => by
    by_cases hx : ∃ i, i ≤ n ∧ f i = f (n + 1)
    · obtain ⟨i, h1, h2⟩ := hx
      exact ⟨i, n + 1, by omega, Nat.le_refl _, h2⟩
    · have hx' : ∀ i, i ≤ n → f i ≠ f (n + 1) := fun i hi e => hx ⟨i, hi, e⟩
      obtain ⟨i, j, h1, h2, h3⟩ := pigeon n (fun i => if f i = n then f (n + 1) else f i) (fun i hi => by
        have a1 := h i (by omega)
        have a2 := h (n + 1) (Nat.le_refl _)
        have a3 := hx' i hi
        show (if f i = n then f (n + 1) else f i) < n
        split <;> omega)
      refine ⟨i, j, h1, by omega, ?_⟩
      have a1 := hx' i (by omega)
      have a2 := hx' j h2
      split at h3 <;> split at h3 <;> omega
/-- the base to the power of a distance, less 1 -/
def far (b n : Int) (t : Nat) : Int := FS b n b (t - 1)
def facX (b n : Int) (t : Nat) : Int := (far b n t - 1) % n
theorem far_mod {b n : Int} (t : Nat) (ht : 1 ≤ t) : far b n t % n = b ^ t % n := by
  unfold far
  rw [FS_eq]
  obtain ⟨k, rfl⟩ : ∃ k, t = k + 1 := ⟨t - 1, by omega⟩
  rw [Nat.add_sub_cancel, Int.pow_succ, Int.mul_comm]
theorem facX_pow {b n : Int} {t : Nat} (ht : 1 ≤ t) (e : Nat) : FS b n (facX b n t) e % n = (b ^ t - 1) * b ^ e % n := by
  rw [FS_eq]
  unfold facX
  rw [Int.mul_emod, Int.emod_emod_of_dvd _ (Int.dvd_refl n), Int.sub_emod, far_mod t ht, ← Int.sub_emod, ← Int.mul_emod]
theorem facX_range {b n : Int} (hn : 0 < n) (t : Nat) : 0 ≤ facX b n t ∧ facX b n t < n := ⟨Int.emod_nonneg _ (by omega), Int.emod_lt_of_pos _ hn⟩
/-- when the base's powers no longer matter -/
theorem miss_stab {b A : Int} {ps : List (Int × Int)} {S j : Nat} (ha : Asc 0 ps) (hS : ∀ q ∈ ps, q.2.toNat ≤ S) (hn : 0 < num ps) (hb : 0 ≤ b) (f : Int) (hj : S ≤ j) (h : Pmiss b (num ps) f A j) : Pmiss b (num ps) f A S := by
  unfold Pmiss at h ⊢
  have e1 : ∀ e, Int.gcd (FS b (num ps) f e) (num ps) = Nat.gcd (f.natAbs * b.natAbs ^ e) (num ps).natAbs := fun e => by
    rw [← gcd_mod, FS_eq, gcd_mod]
    show Nat.gcd (f * b ^ e).natAbs _ = _
    rw [Int.natAbs_mul, Int.natAbs_pow]
  rw [e1] at h ⊢
  rwa [gcd_stab2 (by omega) hj (fun e he => ?_)] at h
  have hc := num_cast (Int.le_refl 0) ha
  have : (num ps).natAbs = numN ps := by rw [hc]; rfl
  rw [this]
  exact gcd_stab he ha hS
theorem FS_zero {b n f : Int} (hn : 0 < n) (h0 : 0 ≤ f) (h1 : f < n) {e : Nat} (h : f * b ^ e % n = 0) : FS b n f e = 0 := by
  have r := FS_range (b := b) hn h0 h1 e
  have := FS_eq b n f e
  rw [h, Int.emod_eq_of_lt r.1 r.2] at this
  exact this
theorem miss_zero {b n f A : Int} {e : Nat} (hn : 0 < n) (hA : 2 ≤ A) (h : FS b n f e = 0) : Pmiss b n f A e := by
  unfold Pmiss
  rw [h]
  have : (Int.gcd 0 n : Int) = n := by rw [Int.gcd_zero_left]; omega
  rw [this, Int.ediv_self (by omega)]
  omega
/-- some distance up to the number is missed -/
theorem miss_some {b n A : Int} (hn : 0 < n) (hA : 2 ≤ A) : ∃ t e : Nat, 1 ≤ t ∧ (t : Int) ≤ n ∧ Pmiss b n (facX b n t) A e := by
  obtain ⟨i, j, h1, h2, h3⟩ := pigeon n.toNat (fun i => (b ^ i % n).toNat) (fun i _ => by
    have a1 := Int.emod_nonneg (b ^ i) (show n ≠ 0 by omega)
    have a2 := Int.emod_lt_of_pos (b ^ i) hn
    show (b ^ i % n).toNat < n.toNat
    omega)
  refine ⟨j - i, i, by omega, by omega, miss_zero hn hA (FS_zero hn (facX_range hn _).1 (facX_range hn _).2 ?_)⟩
  have e2 := facX_pow (b := b) (n := n) (show 1 ≤ j - i by omega) i
  rw [FS_eq] at e2
  rw [e2, Int.sub_mul, Int.one_mul, ← Int.pow_add, show j - i + i = j by omega]
  have a1 := Int.emod_nonneg (b ^ i) (show n ≠ 0 by omega)
  have a2 := Int.emod_nonneg (b ^ j) (show n ≠ 0 by omega)
  have : b ^ j % n = b ^ i % n := by
    omega
  rw [Int.sub_emod, this, Int.sub_self]
  rfl
/-- the first distance and exponent -/
def Ex (b n A : Int) (N : Nat) (t e : Nat) : Prop := 1 ≤ t ∧ Fst (Pmiss b n (facX b n t) A) N (some e) ∧ ∀ s, 1 ≤ s → s < t → Fst (Pmiss b n (facX b n s) A) N none
theorem Ex.uniq {b n A : Int} {N M t t' e e' : Nat} (h : Ex b n A N t e) (h' : Ex b n A M t' e') (hs : ∀ s r r', 1 ≤ s → Fst (Pmiss b n (facX b n s) A) N r → Fst (Pmiss b n (facX b n s) A) M r' → r = r') : t = t' ∧ e = e' := by
  have a1 : ¬ t < t' := fun z => by
    have := hs t _ _ h.1 h.2.1 (h'.2.2 t h.1 z)
    cases this
  have a2 : ¬ t' < t := fun z => by
    have := hs t' _ _ h'.1 (h.2.2 t' h'.1 z) h'.2.1
    cases this
  have et : t = t' := by omega
  subst et
  have := hs t _ _ h.1 h.2.1 h'.2.1
  injection this with this
  exact ⟨rfl, this⟩
theorem max_small {ps : List (Int × Int)} (ha : Asc 0 ps) (hs : Small ps) (hn : num ps ≤ 2000) : ∃ S, S ≤ 10 ∧ (∀ q ∈ ps, q.2.toNat ≤ S) ∧ 2 ^ S ≤ (num ps).natAbs := by
  obtain ⟨S, s1, s2, s3, s4⟩ := max_pow (S0 := 100) (Int.le_refl 0) ha fun q hq => by have := hs.1 q hq; omega
  have hc := num_cast (Int.le_refl 0) ha
  have e : (num ps).natAbs = numN ps := by rw [hc]; rfl
  refine ⟨S, ?_, s2, by rw [e]; exact s3⟩
  refine Nat.le_of_not_lt fun z => ?_
  have : 2 ^ 11 ≤ 2 ^ S := Nat.pow_le_pow_right (by decide) z
  have hp := num_pos hs
  have : numN ps ≤ 2000 := by omega
  omega
theorem miss_same {b A : Int} {ps : List (Int × Int)} (ha : Asc 0 ps) (hs : Small ps) (hn : num ps ≤ 2000) (hb : 0 ≤ b) (f : Int) {r r' : Option Nat} (h : Fst (Pmiss b (num ps) f A) (Builtin.Int.intBits (num ps) + 1) r) (h' : Fst (Pmiss b (num ps) f A) 12 r') : r = r' := by
  obtain ⟨S, s1, s2, s3⟩ := max_small ha hs hn
  have hp := num_pos hs
  refine h.same h' (S := S) (fun j => Iff.rfl) (fun j hj hP => miss_stab ha s2 hp hb f hj hP) ?_ (by omega)
  have := bits_le s3
  rwa [show (((num ps).natAbs : Nat) : Int) = num ps by omega] at this
theorem miss_low {b A f : Int} {ps : List (Int × Int)} (ha : Asc 0 ps) (hs : Small ps) (hn : num ps ≤ 2000) (hb : 0 ≤ b) {e : Nat} (h : Pmiss b (num ps) f A e) : ∃ e, e < 11 ∧ e < Builtin.Int.intBits (num ps) + 1 ∧ Pmiss b (num ps) f A e := by
  obtain ⟨S, s1, s2, s3⟩ := max_small ha hs hn
  have hp := num_pos hs
  have hb1 := bits_le s3
  rw [show (((num ps).natAbs : Nat) : Int) = num ps by omega] at hb1
  by_cases c : S ≤ e
  · exact ⟨S, by omega, hb1, miss_stab ha s2 hp hb f c h⟩
  · exact ⟨e, by omega, by omega, h⟩
theorem miss_due {b n f A : Int} {e : Nat} (hn : 0 < n) (h : Pmiss b n f A e) : ∃ s : Int, 1 ≤ s ∧ s < A ∧ s * FS b n f e % n = 0 := by
  unfold Pmiss at h
  have e1 : Int.gcd (FS b n f e) n = Nat.gcd (FS b n f e).natAbs n.natAbs := rfl
  have e2 : n / (Int.gcd (FS b n f e) n : Int) = ((n.natAbs / Nat.gcd (FS b n f e).natAbs n.natAbs : Nat) : Int) := by
    rw [e1, Int.natCast_ediv, Int.natAbs_of_nonneg (by omega)]
  rw [e2] at h
  obtain ⟨s, s1, s2, s3⟩ := (miss_iff (n := n.natAbs) (x := (FS b n f e).natAbs) (A := A.toNat) (by omega)).mpr (by omega)
  refine ⟨s, by omega, by omega, ?_⟩
  rw [← Int.dvd_iff_emod_eq_zero]
  have : n.natAbs ∣ ((s : Int) * FS b n f e).natAbs := by rw [Int.natAbs_mul]; exact s3
  exact Int.natAbs_dvd_natAbs.mp this
/-- the weight that the law reckons -/
theorem W_mod {b n : Int} {t e : Nat} (ht : 1 ≤ t) : FS b n 1 e * (FS b n 1 t - 1) % n = FS b n (facX b n t) e % n := by
  rw [facX_pow ht, Int.mul_emod, FS_eq, Int.sub_emod, FS_eq, ← Int.sub_emod, ← Int.mul_emod, Int.one_mul, Int.one_mul, Int.mul_comm]
theorem step_mod {b n s : Int} {t e : Nat} (ht : 1 ≤ t) : s * (FS b n 1 e * (FS b n 1 t - 1)) % n = 0 ↔ s * FS b n (facX b n t) e % n = 0 := by
  rw [Int.mul_emod, W_mod ht, ← Int.mul_emod]
theorem swap_mark {y : Sty} {b n s : Int} {t e : Nat} {ls : List Int} (hl : ls.length = t + e + 1) (ht : 1 ≤ t) (h : s * FS b n (facX b n t) e % n = 0) {i j : Nat} (hi : exN y ls.length i = e + t) (hj : exN y ls.length j = e) (hij : i ≠ j) (hi2 : ls[i]? = some 0) (hj2 : ls[j]? = some s) :
    mark y b n ((ls.set i s).set j 0) = mark y b n ls := by
  rw [mark_Sm, mark_Sm, Sm_set b 0 (ls := ls.set i s) (o := s) (by rw [List.getElem?_set_ne hij]; exact hj2), List.length_set, hj, Sm_set b s hi2, hi]
  rw [Int.mul_emod, facX_pow ht, ← Int.mul_emod] at h
  obtain ⟨k, hk⟩ := Int.dvd_of_emod_eq_zero h
  refine cg.mpr ⟨k, ?_⟩
  rw [← hk, Int.pow_add]
  generalize b ^ e = x
  generalize b ^ t = z
  grind
def spEx (c : CA) : Sp := fun vs H Q _ => ∃ (x : Addr) (A b : Int) (ps : List (Int × Int)) (y : Sty), vs = [.ref x, .int A] ∧ WayAt c H x b ps y ∧ num ps ≤ 2000 ∧ 1 ≤ A ∧ (A = 1 → Q .non H) ∧ (2 ≤ A → ∀ p H' (t e : Nat), Same H H' → H p = none → H' p = some (.tup [.int t, .int e]) → Ex b (num ps) A (Builtin.Int.intBits (num ps) + 1) t e → (t : Int) ≤ num ps → Q (.ref p) H')
def spDueX : Sp := fun vs H Q _ => ∃ (b A : Int) (ps : List (Int × Int)), vs = [.int b, .int (num ps), .int A] ∧ 0 ≤ b ∧ b < num ps ∧ num ps ≤ 2000 ∧ Asc 0 ps ∧ Small ps ∧ 2 ≤ A ∧ ∀ p H' (t e : Nat), Same H H' → H p = none → H' p = some (.tup [.int t, .int e]) → Ex b (num ps) A 12 t e → Q (.ref p) H'
/-! ### moduli drawn by the laws over a stock -/
def PL2 : List Int := [2, 3, 5, 7, 11, 13, 31, 97, 331, 997]
theorem PL2_pr (i : Fin 10) : Pr (PL2.getD i.val 0) ∧ 2 ≤ PL2.getD i.val 0 ∧ PL2.getD i.val 0 < 1024 ∧ PL2.getD i.val 0 < PL2.getD (i.val + 1) 10000 := by
  revert i; decide +kernel
def spMod2 : Sp := fun vs H Q _ => ∃ (a : Addr) (n c : Int), vs = [.ref a, .int n] ∧ 1 ≤ n ∧ n ≤ 2000 ∧ c < 2 ^ 48 ∧ Purse H a c ∧
  ∀ r l H' ps, Same (rm a H) (rm a H') → Purse H' a (c + 2010) → rm a H' r = some (.lst [.ref l, .int (num ps)]) → PrL (rm a H') l ps → Asc 0 ps → Small ps → num ps ≤ n → Q (.ref r) H'
theorem pow_small {p n x : Int} {k : Nat} (hp : 2 ≤ p) (hx : 1 ≤ x) (h : x * p ^ k ≤ n) (hn : n ≤ 2000) : k ≤ 10 := by
  refine Nat.le_of_not_lt fun z => ?_
  have h1 : (2 : Int) ^ 11 ≤ p ^ 11 := by
    have := Nat.pow_le_pow_left (show 2 ≤ p.toNat by omega) 11
    have e : p ^ 11 = ((p.toNat ^ 11 : Nat) : Int) := by rw [Int.natCast_pow, Int.toNat_of_nonneg (by omega)]
    rw [e]
    exact Int.ofNat_le.mpr this
  have h2 : p ^ 11 ≤ p ^ k := by
    have := Nat.pow_le_pow_right (show 0 < p.toNat by omega) z
    have e : ∀ m : Nat, p ^ m = ((p.toNat ^ m : Nat) : Int) := fun m => by rw [Int.natCast_pow, Int.toNat_of_nonneg (by omega)]
    rw [e, e]
    exact Int.ofNat_le.mpr this
  have h3 : 1 * p ^ k ≤ x * p ^ k := Int.mul_le_mul_of_nonneg_right hx (by omega)
  omega
section
variable {a p : Addr} {c i : Int} {H : Hp} {v : V} {xs : List V} {j : Nat} {Qs : Hp → Prop}
end
theorem FS1_range {b n : Int} (hn : 0 < n) : ∀ i, 0 ≤ FS b n 1 i ∧ FS b n 1 i ≤ n
  | 0 => by show 0 ≤ (1 : Int) ∧ (1 : Int) ≤ n; omega
  | i + 1 => ⟨Int.emod_nonneg _ (by omega), Int.le_of_lt (Int.emod_lt_of_pos _ hn)⟩
def spExch (ca : CA) : Sp := fun vs H Q _ => ∃ (a x d : Addr) (b st c : Int) (ps : List (Int × Int)) (y : Sty) (t e : Nat), vs = [.ref a, .ref x, .int st, .ref d] ∧ c < 2 ^ 47 ∧ Purse H a c ∧ WayAt ca (rm a H) x b ps y ∧ rm a H d = some (.tup [.int t, .int e]) ∧ num ps ≤ 2000 ∧ 2 ≤ st ∧ st ≤ 100 ∧ 1 ≤ t ∧ (t : Int) ≤ 3000 ∧ e < 12 ∧ Pmiss b (num ps) (facX b (num ps) t) st e ∧
  ∀ H', Same (rm a H) (rm a H') → Purse H' a (c + 100) → Q (.bl true) H'

theorem pick2 {x y lo hi r : Int} (r0 : 0 ≤ r) (r1 : r < 2) (hx : lo ≤ x ∧ x ≤ hi) (hy : lo ≤ y ∧ y ≤ hi) : ∃ z, ([x, y] : List Int).getD r.toNat 0 = z ∧ lo ≤ z ∧ z ≤ hi := by
  have hr : r = 0 ∨ r = 1 := by omega
  rcases hr with rfl | rfl
  · exact ⟨x, rfl, hx⟩
  · exact ⟨y, rfl, hy⟩
theorem pick3 {x y z lo hi r : Int} (r0 : 0 ≤ r) (r1 : r < 3) (hx : lo ≤ x ∧ x ≤ hi) (hy : lo ≤ y ∧ y ≤ hi) (hz : lo ≤ z ∧ z ≤ hi) : ∃ w, ([x, y, z] : List Int).getD r.toNat 0 = w ∧ lo ≤ w ∧ w ≤ hi := by
  have hr : r = 0 ∨ r = 1 ∨ r = 2 := by omega
  rcases hr with rfl | rfl | rfl
  · exact ⟨x, rfl, hx⟩
  · exact ⟨y, rfl, hy⟩
  · exact ⟨z, rfl, hz⟩
theorem miss_lt {b A f : Int} {ps : List (Int × Int)} {N e : Nat} (ha : Asc 0 ps) (hs : Small ps) (hn : num ps ≤ 2000) (hb : 0 ≤ b) (h : Fst (Pmiss b (num ps) f A) N (some e)) : e < 12 := by
  obtain ⟨e1, h1, _, h2⟩ := miss_low ha hs hn hb h.2.1
  refine Nat.lt_of_not_le fun z => ?_
  exact h.2.2 e1 (by omega) h2

theorem ixN_nat {n j : Nat} (hj : j < n) : ixN n (j : Int) = some j := by
  unfold ixN
  rw [if_pos (by omega), if_pos (by omega), Int.toNat_natCast]
instance (b n f A : Int) (e : Nat) : Decidable (Pmiss b n f A e) := inferInstanceAs (Decidable (_ < _))
def exB (b n A : Int) (N t e : Nat) : Bool := decide (1 ≤ t) && decide (e < N) && decide (Pmiss b n (facX b n t) A e) && (List.range e).all (fun j => !decide (Pmiss b n (facX b n t) A j)) && (List.range t).all (fun s => s == 0 || (List.range N).all fun j => !decide (Pmiss b n (facX b n s) A j))
theorem Ex.of {b n A : Int} {N t e : Nat} (h : exB b n A N t e = true) : Ex b n A N t e := by
  unfold exB at h
  simp only [Bool.and_eq_true, decide_eq_true_eq, List.all_eq_true, List.mem_range, Bool.or_eq_true, beq_iff_eq, Bool.not_eq_true', decide_eq_false_iff_not] at h
  obtain ⟨⟨⟨⟨h1, h2⟩, h3⟩, h4⟩, h5⟩ := h
  exact ⟨h1, ⟨h2, h3, h4⟩, fun s s1 s2 => by
    rcases h5 s s2 with z | z
    · omega
    · exact z⟩
theorem dp2 {K : PySem.W.Frag} {H : Hp} {p : Addr} {x y : Int} (h : H p = some (.tup [.int x, .int y])) : Dp K H (.ref p) (.tuple [.int x, .int y]) := .tup (sqt h) (.cons (.int x) (.cons (.int y) .nil))

end Bc
namespace Bc
open PySem PySem.Spec PyProof.Rows L2
/-! ### even marks: exponents, lengths -/
def vcap (x p : Int) : Nat → Nat
  | 0 => 0
  | m + 1 => if x % p = 0 then vcap (x / p) p m + 1 else 0
theorem vcap_le (p : Int) : ∀ (m : Nat) (x : Int), vcap x p m ≤ m
  | 0, _ => Nat.le_refl _
  | m + 1, x => by
    unfold vcap
    have := vcap_le p m (x / p)
    split <;> omega
theorem vcap_dvd {p : Int} (hp : 2 ≤ p) : ∀ (m : Nat) (x : Int) (i : Nat), i ≤ m → (p ^ i ∣ x ↔ i ≤ vcap x p m)
  | m, x, 0, _ => by simp
  | 0, x, i + 1, h => by omega
  | m + 1, x, i + 1, h => by
    unfold vcap
    by_cases hx : x % p = 0
    · rw [if_pos hx]
      obtain ⟨y, rfl⟩ := Int.dvd_of_emod_eq_zero hx
      rw [Int.mul_ediv_cancel_left _ (by omega), Int.pow_succ, Int.mul_comm (p ^ i) p]
      rw [Int.mul_dvd_mul_iff_left (by omega), vcap_dvd hp m y i (by omega)]
      omega
    · rw [if_neg hx]
      constructor
      · intro z
        exfalso
        refine hx (Int.emod_eq_zero_of_dvd (Int.dvd_trans ?_ z))
        rw [Int.pow_succ]
        exact Int.dvd_mul_left _ _
      · intro z; omega
theorem vcap_ext {p : Int} (hp : 2 ≤ p) {m : Nat} {x y : Int} (h : ∀ i, i ≤ m → (p ^ i ∣ x ↔ p ^ i ∣ y)) : vcap x p m = vcap y p m := by
  have h1 := vcap_le p m x
  have h2 := vcap_le p m y
  have a1 := (vcap_dvd hp m y _ h1).mp ((h _ h1).mp ((vcap_dvd hp m x _ h1).mpr (Nat.le_refl _)))
  have a2 := (vcap_dvd hp m x _ h2).mp ((h _ h2).mpr ((vcap_dvd hp m y _ h2).mpr (Nat.le_refl _)))
  omega
def metF (be al k : Nat) : Option Nat := if k ≤ al then some 1 else if 1 ≤ be ∧ be ≤ al then some (1 + (k - al + be - 1) / be) else none
def metR (r A : Int) (q : Int × Int) : Option Nat := metF (vcap r q.1 q.2.toNat) (vcap A q.1 q.2.toNat) q.2.toNat
theorem num_dvd : ∀ {ps : List (Int × Int)} {q : Int × Int}, q ∈ ps → q.1 ^ q.2.toNat ∣ num ps
  | [], _, h => by cases h
  | r :: ps, q, h => by
    rw [num_cons]
    rcases List.mem_cons.mp h with e | e
    · rw [e]; exact Int.dvd_mul_right _ _
    · exact Int.dvd_trans (num_dvd e) (Int.dvd_mul_left _ _)
theorem ppow_dvd (p : Int) {i j : Nat} (h : i ≤ j) : p ^ i ∣ p ^ j := ⟨p ^ (j - i), by rw [← Int.pow_add]; congr 1; omega⟩
theorem metR_mod {r A n : Int} {q : Int × Int} (hq : q.1 ^ q.2.toNat ∣ n) (hp : 2 ≤ q.1) : metR (r % n) A q = metR r A q := by
  unfold metR
  congr 1
  refine vcap_ext hp fun i hi => ?_
  have hd : q.1 ^ i ∣ n := Int.dvd_trans (ppow_dvd _ hi) hq
  have e := Int.mul_ediv_add_emod r n
  constructor
  · intro h
    rw [← e]
    exact Int.dvd_add (Int.dvd_trans hd (Int.dvd_mul_right _ _)) h
  · intro h
    have : r % n = r - n * (r / n) := by omega
    rw [this]
    exact Int.dvd_sub h (Int.dvd_trans hd (Int.dvd_mul_right _ _))
/-- what the law asks at an exponent -/
def Pm (P r A : Int) (e : Nat) : Prop := 1 < P / (Int.gcd (FS r P (1 % P) e) P : Int) ∧ A % (P / (Int.gcd (FS r P (1 % P) e) P : Int)) = 0
instance (P r A : Int) (e : Nat) : Decidable (Pm P r A e) := inferInstanceAs (Decidable (_ ∧ _))
theorem pow_gcd {p r : Int} (hp : Pr p) {k j : Nat} (hj : j ≤ k) (e : Nat) : Int.gcd (FS r (p ^ j) (1 % p ^ j) e) (p ^ j) = p.natAbs ^ min (e * vcap r p k) j := by
  have h2 : 2 ≤ p := by have := hp.1; omega
  have e1 : Int.gcd (FS r (p ^ j) (1 % p ^ j) e) (p ^ j) = Nat.gcd (r.natAbs ^ e) (p.natAbs ^ j) := by
    rw [← gcd_mod, FS_eq, Int.mul_emod, Int.emod_emod_of_dvd _ (Int.dvd_refl _), ← Int.mul_emod, Int.one_mul, gcd_mod]
    show Nat.gcd (r ^ e).natAbs (p ^ j).natAbs = _
    rw [Int.natAbs_pow, Int.natAbs_pow]
  rw [e1]
  have hv := vcap_le p k r
  have hd : p.natAbs ^ vcap r p k ∣ r.natAbs := by
    have := (vcap_dvd h2 k r _ hv).mpr (Nat.le_refl _)
    have h3 := Int.natAbs_dvd_natAbs.mpr this
    rwa [Int.natAbs_pow] at h3
  by_cases c : vcap r p k < k
  · obtain ⟨u, hu⟩ := hd
    have hnu : ¬ p.natAbs ∣ u := fun z => by
      have h4 : p.natAbs ^ (vcap r p k + 1) ∣ r.natAbs := by
        rw [hu, Nat.pow_succ]
        exact Nat.mul_dvd_mul_left _ z
      have h5 : p ^ (vcap r p k + 1) ∣ r := by
        refine Int.natAbs_dvd_natAbs.mp ?_
        rwa [Int.natAbs_pow]
      have := (vcap_dvd h2 k r _ (by omega)).mp h5
      omega
    have hc : Nat.Coprime u p.natAbs := (cop_or hp u).resolve_left hnu
    rw [hu, Nat.mul_pow, Nat.Coprime.gcd_mul_right_cancel _ (Nat.Coprime.pow e j hc), ← Nat.pow_mul, Nat.mul_comm (vcap r p k) e]
    by_cases c2 : e * vcap r p k ≤ j
    · rw [Nat.min_eq_left c2]
      exact Nat.gcd_eq_left (Nat.pow_dvd_pow _ c2)
    · rw [Nat.min_eq_right (by omega)]
      exact Nat.gcd_eq_right (Nat.pow_dvd_pow _ (by omega))
  · have ek : vcap r p k = k := by omega
    rw [ek] at hd ⊢
    rcases Nat.eq_zero_or_pos e with z | z
    · rw [z]
      simp
    · have hm : min (e * k) j = j := Nat.min_eq_right (Nat.le_trans hj (Nat.le_mul_of_pos_left k z))
      rw [hm]
      refine Nat.gcd_eq_right ?_
      refine Nat.dvd_trans (Nat.pow_dvd_pow _ hj) (Nat.dvd_trans hd ?_)
      have h7 := Nat.pow_dvd_pow r.natAbs (show 1 ≤ e from z)
      rwa [Nat.pow_one] at h7
theorem Pm_iff {p r A : Int} (hp : Pr p) {k j : Nat} (hj : j ≤ k) (e : Nat) : Pm (p ^ j) r A e ↔ e * vcap r p k < j ∧ j - e * vcap r p k ≤ vcap A p k := by
  have h2 : 2 ≤ p := by have := hp.1; omega
  unfold Pm
  rw [pow_gcd hp hj e]
  have e1 : p ^ j / ((p.natAbs ^ min (e * vcap r p k) j : Nat) : Int) = p ^ (j - e * vcap r p k) := by
    rw [Int.natCast_pow, Int.natAbs_of_nonneg (by omega)]
    have : p ^ j = p ^ (j - e * vcap r p k) * p ^ min (e * vcap r p k) j := by rw [← Int.pow_add]; congr 1; omega
    rw [this, Int.mul_ediv_cancel _ (by have : 0 < p ^ min (e * vcap r p k) j := Int.pow_pos (by omega); omega)]
  rw [e1, ← Int.dvd_iff_emod_eq_zero, vcap_dvd h2 k A _ (by omega)]
  have e2 : 1 < p ^ (j - e * vcap r p k) ↔ e * vcap r p k < j := by
    constructor
    · intro z
      refine Nat.lt_of_not_le fun w => ?_
      rw [show j - e * vcap r p k = 0 by omega, Int.pow_zero] at z
      omega
    · intro z
      obtain ⟨m, hm⟩ : ∃ m, j - e * vcap r p k = m + 1 := ⟨j - e * vcap r p k - 1, by omega⟩
      rw [hm, Int.pow_succ]
      have : 0 < p ^ m := Int.pow_pos (by omega)
      have := Int.mul_le_mul_of_nonneg_left h2 (show 0 ≤ p ^ m by omega)
      omega
  rw [e2]
/-- the first exponent, plus 1 -/
def MetL (P r A : Int) (res : Option Nat) : Prop := ∃ f, Fst (Pm P r A) 64 f ∧ res = f.map (· + 1)
theorem MetL.uniq {P r A : Int} {x y : Option Nat} (h : MetL P r A x) (h' : MetL P r A y) : x = y := by
  obtain ⟨f, h1, rfl⟩ := h
  obtain ⟨g, h2, rfl⟩ := h'
  rw [h1.uniq h2]
theorem met_some {p r A : Int} (hp : Pr p) {k L : Nat} (hk : k ≤ 60) (h : metF (vcap r p k) (vcap A p k) k = some L) {j : Nat} (h1 : 1 ≤ j) (hj : j ≤ k) : ∃ L', MetL (p ^ j) r A (some L') ∧ L' ≤ L ∧ (j = k → L' = L) := by
  unfold metF at h
  generalize hbe : vcap r p k = be at h
  generalize hal : vcap A p k = al at h
  have key : ∀ e, Pm (p ^ j) r A e ↔ e * be < j ∧ j - e * be ≤ al := fun e => by rw [← hbe, ← hal]; exact Pm_iff hp hj e
  by_cases c : j ≤ al
  · refine ⟨1, ⟨some 0, ⟨by decide, (key 0).mpr (by omega), fun i hi => by omega⟩, rfl⟩, ?_, ?_⟩
    · split at h
      · cases h; exact Nat.le_refl _
      · split at h
        · cases h; exact Nat.le_add_right _ _
        · cases h
    · intro e
      rw [if_pos (by omega)] at h
      cases h; rfl
  · rw [if_neg (by omega)] at h
    split at h
    · rename_i hb
      cases h
      obtain ⟨hb1, hb2⟩ := hb
      have hdiv : ∀ x : Nat, be * ((x + be - 1) / be) ≤ x + be - 1 ∧ x ≤ be * ((x + be - 1) / be) := fun x => by
        have a1 := Nat.div_add_mod (x + be - 1) be
        have a2 := Nat.mod_lt (x + be - 1) (show be > 0 by omega)
        omega
      have hle : (j - al + be - 1) / be ≤ (k - al + be - 1) / be := Nat.div_le_div_right (by omega)
      have hj2 := hdiv (j - al)
      rw [Nat.mul_comm] at hj2
      have hlt : (j - al + be - 1) / be < 64 := by
        refine Nat.lt_of_le_of_lt (Nat.div_le_div_right (c := be) (show j - al + be - 1 ≤ be * 60 + (be - 1) from ?_)) ?_
        · have : 60 ≤ be * 60 := Nat.le_mul_of_pos_left _ hb1
          omega
        · have : (be * 60 + (be - 1)) / be = 60 := by
            rw [Nat.mul_add_div (by omega), Nat.div_eq_of_lt (by omega)]
          omega
      refine ⟨1 + (j - al + be - 1) / be, ⟨some ((j - al + be - 1) / be), ⟨hlt, (key _).mpr ⟨by omega, by omega⟩, fun i hi hP => ?_⟩, by show some _ = some ((j - al + be - 1) / be + 1); rw [Nat.add_comm]⟩, by omega, fun e => by rw [e]⟩
      have := (key i).mp hP
      have h3 : (i + 1) * be ≤ (j - al + be - 1) / be * be := Nat.mul_le_mul_right _ hi
      rw [Nat.add_mul, Nat.one_mul] at h3
      omega
    · cases h
theorem met_none {p r A : Int} (hp : Pr p) {k : Nat} (h : metF (vcap r p k) (vcap A p k) k = none) : vcap A p k + 1 ≤ k ∧ MetL (p ^ (vcap A p k + 1)) r A none := by
  unfold metF at h
  by_cases c : k ≤ vcap A p k
  · rw [if_pos c] at h; cases h
  · rw [if_neg c] at h
    split at h
    · cases h
    · rename_i hb
      refine ⟨by omega, none, fun e _ hP => ?_, rfl⟩
      have := (Pm_iff hp (k := k) (j := vcap A p k + 1) (by omega) e).mp hP
      refine hb ?_
      have h3 : 1 ≤ e * vcap r p k := by omega
      have h4 : e ≠ 0 := fun z => by rw [z, Nat.zero_mul] at h3; omega
      have h5 : vcap r p k ≠ 0 := fun z => by rw [z, Nat.mul_zero] at h3; omega
      have h6 : vcap r p k ≤ e * vcap r p k := Nat.le_mul_of_pos_left _ (by omega)
      omega
theorem met_low {p r A : Int} (hp : Pr p) {k j : Nat} (h1 : 1 ≤ j) (hj : j ≤ k) (h : j ≤ vcap A p k) : MetL (p ^ j) r A (some 1) :=
  ⟨some 0, ⟨by decide, (Pm_iff hp hj 0).mpr (by omega), fun i hi => by omega⟩, rfl⟩
/-- the lengths of all, and the least power unmet -/
def evenF (ls : List (Option Nat)) : Option Nat := if none ∈ ls then none else some (ls.foldl (fun m l => max m (l.getD 0)) 0)
def optI : Option Int → V
  | none => .non
  | some i => .int i
def lessF (acc : Option Int) (l : Int) : Option Int := match acc with
  | none => some l
  | some a => if l < a then some l else some a
def unmetF (r A : Int) (ps : List (Int × Int)) : Option Int := ps.foldl (fun acc q => if metR r A q = none then lessF acc (q.1 ^ (vcap A q.1 q.2.toNat + 1)) else acc) none

end Bc
namespace Bc
open PySem PySem.Spec PyProof.Rows L2
/-! ### comprehensions over pairs; None in a list -/
section
variable {J : It} {G : Hp → Prop} {K : PySem.W.Frag} {tt : TT} {te : TE} {vs : List Nat} {σ : L2.St} {H : Hp} {D : Addr} {Qd : Hp → Prop} {i j : Nat}
theorem lc_pairs (us : List (V × V)) (ts : List Addr) (p : V × V → Bool) (f : V × V → V) (w : Walk J (ts.map V.ref).length G (YAt (ts.map V.ref))) (hp : Paired (fun q t => H t = some (.tup [q.1, q.2])) us ts) (hD : H D = none) (hG : ∀ H', Same H H' → G H') (sz : us.length ≤ 100000)
    (wp : ∀ u v, wipe (((wipe σ vs).set i u).set j v) vs = wipe σ vs)
    (tst : ∀ (n : Nat) (q : V × V) (H' : Hp), us[n]? = some q → Same H H' → ∀ Q' : Bool → Hp → Prop, (∀ H'', Same H' H'' → Q' (p q) H'') → tt (((wipe σ vs).set i (some q.1)).set j (some q.2)) H' Q')
    (step : ∀ (n : Nat) (q : V × V) (H' : Hp), us[n]? = some q → p q = true → Same H H' → ∀ Q' : VK, (∀ H'', Same H' H'' → Q' (f q) H'') → te (((wipe σ vs).set i (some q.1)).set j (some q.2)) H' Q')
    (q : ∀ H', Same H H' → H' D = some (.lst ((us.filter p).map f)) → Qd H') :
    ∃ W : Nat → Nat → Hp → Prop, (∃ m, W 0 m (upd H D (.lst []))) ∧ ∀ n m H, W n m H →
      (J.stop n H ∧ Qd H) ∨ (J.go n H ∧ ∃ Nx : Hp → Prop, (∀ H', Nx H' → ∃ m', m' < m ∧ W (n + 1) m' H') ∧ ∀ x H', J.yld n H x H' → gTup K 2 (gCons (gName i) (gCons (gName j) gNil)) x (wipe σ vs) H' fun σ2 H2 => wipe σ2 vs = wipe σ vs ∧ tt σ2 H2 fun b H3 =>
        if b = true then te σ2 H3 fun y H4 => ∃ acc, H4 D = some (.lst acc) ∧ acc.length < sizeLine ∧ Nx (upd H4 D (.lst (acc ++ [y]))) else Nx H3) := by
  have hl := hp.length
  refine lc_it w (fun n H' => H' D = some (.lst (((us.take n).filter p).map f)) ∧ Same H H') ⟨upd_same, Same.new hD⟩ (fun n H' _ h => hG H' h.2) ?_ ?_
  · rintro n x H1 H' hn ⟨h1, h2⟩ ⟨rfl, hx⟩
    obtain ⟨t, ht, rfl⟩ := get_map hx
    obtain ⟨pr, hpr, htp⟩ := paired_get hp ht
    have hn' : n < us.length := (List.getElem?_eq_some_iff.mp hpr).1
    have e : us[n] = pr := by rw [List.getElem?_eq_getElem hn'] at hpr; exact Option.some.inj hpr
    have tk : us.take (n + 1) = us.take n ++ [pr] := by rw [List.take_succ_eq_append_getElem hn', e]
    refine w_gtup (sqt (h2 _ _ htp)) rfl (w_gcons (w_name (w_gcons (w_name (w_gnil ⟨wp _ _, ?_⟩)))))
    refine tst n pr H' hpr h2 _ fun H2 s2 => ?_
    by_cases hq : p pr = true
    · rw [hq]
      refine iteT ?_
      refine step n pr H2 hpr hq (h2.trans s2) _ fun H3 s3 => ?_
      refine ⟨_, s3 _ _ (s2 _ _ h1), ?_, ?_, ?_⟩
      · rw [List.length_map]
        have h5 := List.length_filter_le p (us.take n)
        rw [List.length_take] at h5
        have : (100000 : Nat) < sizeLine := by decide
        omega
      · rw [upd_same, tk, List.filter_append, List.map_append, List.filter_cons, if_pos hq]
        rfl
      · exact fun b o e => by
          rw [upd_ne (ne_of_none e hD)]
          exact s3 _ _ (s2 _ _ (h2 _ _ e))
    · have hq' : p pr = false := by simpa using hq
      rw [hq']
      refine iteF ?_
      refine ⟨?_, h2.trans s2⟩
      rw [s2 _ _ h1, tk, List.filter_append, List.map_append, List.filter_cons, if_neg hq]
      simp
  · rintro H' ⟨h1, h2⟩
    refine q H' h2 ?_
    rw [h1]
    rw [List.length_map, ← hl, List.take_length]
end
theorem opt_flat (ls : List (Option Nat)) : (ls.map optV).all flatV = true := by
  induction ls with
  | nil => rfl
  | cons a r ih =>
    rw [List.map_cons, List.all_cons, ih]
    cases a <;> rfl
theorem opt_in (ls : List (Option Nat)) : inV .non (ls.map optV) = decide (none ∈ ls) := by
  unfold inV
  induction ls with
  | nil => rfl
  | cons a r ih =>
    rw [List.map_cons, List.any_cons, ih]
    cases a with
    | none => simp [optV, eqV]
    | some e =>
      have : eqV (optV (some e)) .non = false := rfl
      rw [this, Bool.false_or]
      simp
theorem w_inN {K : PySem.W.Frag} {H : Hp} {p : Addr} {ls : List (Option Nat)} {Q : VK} (h : SqL K H p (ls.map optV)) (q : Q (.bl (decide (none ∈ ls))) H) : rIn K false .non (.ref p) H Q :=
  ⟨p, _, rfl, .inl h, rfl, opt_flat ls, by rw [if_neg (by decide), opt_in]; exact q⟩
theorem w_ninN {K : PySem.W.Frag} {H : Hp} {p : Addr} {ls : List (Option Nat)} {Q : VK} (h : SqL K H p (ls.map optV)) (q : Q (.bl (!decide (none ∈ ls))) H) : rIn K true .non (.ref p) H Q :=
  ⟨p, _, rfl, .inl h, rfl, opt_flat ls, by rw [if_pos rfl, opt_in]; exact q⟩
def spExpIn : Sp := fun vs H Q _ => ∃ (x p m : Int), vs = [.int x, .int p, .int m] ∧ 2 ≤ p ∧ p < 2 ^ 60 ∧ 0 ≤ m ∧ Q (.int (vcap x p m.toNat)) H
def spMetFrom (c : CA) : Sp := fun vs H Q _ => ∃ (x : Addr) (A b : Int) (q : Int × Int) (ps : List (Int × Int)) (y : Sty), vs = [.ref x, .int q.1, .int q.2, .int A] ∧ WayAt c H x b ps y ∧ 2 ≤ q.1 ∧ q.1 < 1024 ∧ 0 < q.2 ∧ q.2 ≤ 100 ∧ Q (optV (metR b A q)) H
def spEvenFrom (c : CA) : Sp := fun vs H Q _ => ∃ (x : Addr) (A b : Int) (ps : List (Int × Int)) (y : Sty), vs = [.ref x, .int A] ∧ WayAt c H x b ps y ∧ 1 ≤ A ∧ ∀ H', Same H H' → Q (optV (evenF (ps.map (metR b A)))) H'
def spUnmet (c : CA) : Sp := fun vs H Q _ => ∃ (x : Addr) (A b : Int) (ps : List (Int × Int)) (y : Sty), vs = [.ref x, .int A] ∧ WayAt c H x b ps y ∧ 1 ≤ A ∧ Q (optI (unmetF b A ps)) H
theorem WayAt.facs {c : CA} {H : Hp} {x : Addr} {b : Int} {ps : List (Int × Int)} {y : Sty} (h : WayAt c H x b ps y) : Asc 0 ps ∧ Small ps := by
  obtain ⟨_, _, _, _, ⟨_, _, _, _, _, _, h1, h2⟩, _⟩ := h
  exact ⟨h1, h2⟩
theorem two_of {ps : List (Int × Int)} {q : Int × Int} (ha : Asc 0 ps) (hq : q ∈ ps) : 2 ≤ q.1 := by
  have := ((ha.lt q hq).2.2).1
  omega
theorem foldl_take {α β : Type} {f : β → α → β} {b : β} {xs : List α} {i : Nat} {x : α} (h : xs[i]? = some x) : (xs.take (i + 1)).foldl f b = f ((xs.take i).foldl f b) x := by
  obtain ⟨hi, e⟩ := List.getElem?_eq_some_iff.mp h
  rw [List.take_succ_eq_append_getElem hi, List.foldl_append, e]
  rfl
theorem scal_optI (r r' : Option Int) : scal (optI r) (optI r') = true := by cases r <;> cases r' <;> rfl
theorem scal_opt (r r' : Option Nat) : scal (optV r) (optV r') = true := by cases r <;> cases r' <;> rfl

theorem vcap_succ (x p : Int) (m : Nat) : vcap x p (m + 1) = if x % p = 0 then vcap (x / p) p m + 1 else 0 := rfl
theorem vcap_zero (x p : Int) : vcap x p 0 = 0 := rfl

theorem paired_map {H : Hp} : ∀ {ps : List (Int × Int)} {ts : List Addr}, Paired (Tp H) ps ts → Paired (fun q t => H t = some (.tup [q.1, q.2])) (ps.map fun q => ((V.int q.1, V.int q.2) : V × V)) ts
  | _, _, .nil => .nil
  | _, _, .cons r t => .cons r (paired_map t)
theorem get_map' {α β : Type} {f : α → β} {l : List α} {i : Nat} {y : β} (h : (l.map f)[i]? = some y) : ∃ x, l[i]? = some x ∧ f x = y := get_map h

end Bc
namespace Bc
open PySem PySem.Spec PyProof.Rows L2
/-! ### k61 -/
def spMetL : Sp := fun vs H Q _ => ∃ (P r A : Int), vs = [.int P, .int r, .int A] ∧ 0 < P ∧ P.natAbs < 2 ^ 2000 ∧ r.natAbs < 2 ^ 2000 ∧ ∀ o, MetL P r A o → Q (optV o) H
/-- the lengths of all powers, as the law lists them -/
def LenOk (r A : Int) (ps : List (Int × Int)) (L : List (Int × Option Nat)) : Prop := (∀ x ∈ L, ∃ q ∈ ps, ∃ j, 1 ≤ j ∧ j ≤ q.2.toNat ∧ x.1 = q.1 ^ j ∧ MetL x.1 r A x.2) ∧ ∀ q ∈ ps, ∀ j, 1 ≤ j → j ≤ q.2.toNat → ∃ o, (q.1 ^ j, o) ∈ L
def LenL (H : Hp) (l : Addr) (L : List (Int × Option Nat)) : Prop := ∃ ts : List Addr, H l = some (.lst (ts.map V.ref)) ∧ Paired (fun x t => H t = some (.tup [.int x.1, optV x.2])) L ts
def spLens : Sp := fun vs H Q _ => ∃ (l : Addr) (r A : Int) (ps : List (Int × Int)), vs = [.ref l, .int r, .int A] ∧ PrL H l ps ∧ Asc 0 ps ∧ (∀ q ∈ ps, q.1 < 1024 ∧ q.2 ≤ 60) ∧ ps.length ≤ 6 ∧ r.natAbs < 2 ^ 2000 ∧ ∀ p H' L, Same H H' → H p = none → LenL H' p L → LenOk r A ps L → L.length ≤ 1000 → Q (.ref p) H'
def gmax (ls : List (Option Nat)) : Nat := ls.foldl (fun m l => max m (l.getD 0)) 0
def spGmax : Sp := fun vs H Q _ => ∃ (l : Addr) (ls : List (Option Nat)), vs = [.ref l] ∧ H l = some (.lst (ls.map optV)) ∧ none ∉ ls ∧ Q (.int (gmax ls)) H
def spGPairs : Sp := fun vs H Q _ => ∃ (a : Addr) (c : Int), vs = [.ref a] ∧ c < 2 ^ 48 ∧ Purse H a c ∧
  ∀ l H' ps, Same (rm a H) (rm a H') → Purse H' a (c + 18) → PrL (rm a H') l ps → Asc 0 ps → Small ps → ps.length ≤ 6 → (∀ q ∈ ps, q.1 < 1024 ∧ q.2 ≤ 60) → Q (.ref l) H'
theorem gmax_le {M : Nat} : ∀ {ls : List (Option Nat)} {m : Nat}, m ≤ M → (∀ l ∈ ls, l.getD 0 ≤ M) → ls.foldl (fun m l => max m (l.getD 0)) m ≤ M
  | [], _, h, _ => h
  | l :: r, m, h, h2 => gmax_le (ls := r) (Nat.max_le.mpr ⟨h, h2 l (List.mem_cons_self ..)⟩) fun x hx => h2 x (List.mem_cons_of_mem _ hx)
theorem fold_ge : ∀ (ls : List (Option Nat)) (m : Nat), m ≤ ls.foldl (fun m l => max m (l.getD 0)) m
  | [], m => Nat.le_refl _
  | l :: r, m => Nat.le_trans (Nat.le_max_left _ _) (fold_ge r _)
theorem le_gmax : ∀ {ls : List (Option Nat)} {m : Nat} {l : Option Nat}, l ∈ ls → l.getD 0 ≤ ls.foldl (fun m l => max m (l.getD 0)) m
  | x :: r, m, l, h => by
    rcases List.mem_cons.mp h with e | e
    · rw [e]
      exact Nat.le_trans (Nat.le_max_right _ _) (fold_ge r _)
    · exact le_gmax (ls := r) e
def unL (L : List (Int × Option Nat)) : List Int := (L.filter fun x => decide (x.2 = none)).map (·.1)
theorem mem_unL {L : List (Int × Option Nat)} {P : Int} : P ∈ unL L ↔ (P, none) ∈ L := by
  unfold unL
  rw [List.mem_map]
  constructor
  · rintro ⟨x, hx, rfl⟩
    rw [List.mem_filter] at hx
    have := of_decide_eq_true hx.2
    obtain ⟨p, o⟩ := x
    dsimp only at this ⊢
    rw [← this]
    exact hx.1
  · intro h
    exact ⟨_, List.mem_filter.mpr ⟨h, by simp⟩, rfl⟩
theorem metR_some {r A : Int} {ps : List (Int × Int)} (ha : Asc 0 ps) (hk : ∀ q ∈ ps, q.2 ≤ 60) {q : Int × Int} (hq : q ∈ ps) {L : Nat} (h : metR r A q = some L) {j : Nat} (h1 : 1 ≤ j) (hj : j ≤ q.2.toNat) {o : Option Nat} (ho : MetL (q.1 ^ j) r A o) : ∃ L', o = some L' ∧ L' ≤ L ∧ (j = q.2.toNat → L' = L) := by
  obtain ⟨L', h2, h3, h4⟩ := met_some (ha.lt q hq).2.2 (by have := hk q hq; omega) h h1 hj
  exact ⟨L', ho.uniq h2, h3, h4⟩
/-- no power is unmet just if each prime is met -/
theorem unL_nil {r A : Int} {ps : List (Int × Int)} {L : List (Int × Option Nat)} (ha : Asc 0 ps) (hk : ∀ q ∈ ps, q.2 ≤ 60) (h : LenOk r A ps L) : unL L = [] ↔ none ∉ ps.map (metR r A) := by
  constructor
  · intro z hm
    obtain ⟨q, hq, e⟩ := List.mem_map.mp hm
    obtain ⟨h1, h2⟩ := met_none (ha.lt q hq).2.2 e
    obtain ⟨o, ho⟩ := h.2 q hq _ (by omega) h1
    obtain ⟨q', _, j', _, _, _, hL⟩ := h.1 _ ho
    have eo : o = none := hL.uniq h2
    rw [eo] at ho
    have := mem_unL.mpr ho
    rw [z] at this
    cases this
  · intro z
    cases hu : unL L with
    | nil => rfl
    | cons P t =>
      exfalso
      have hP : (P, none) ∈ L := mem_unL.mp (by rw [hu]; exact List.mem_cons_self ..)
      obtain ⟨q, hq, j, j1, j2, e, hL⟩ := h.1 _ hP
      cases hm : metR r A q with
      | none => exact z (List.mem_map.mpr ⟨q, hq, hm⟩)
      | some M =>
        dsimp only at e hL
        rw [e] at hL
        obtain ⟨L', e2, _⟩ := metR_some ha hk hq hm j1 j2 hL
        cases e2
theorem even_due {r A : Int} {ps : List (Int × Int)} {L : List (Int × Option Nat)} (ha : Asc 0 ps) (hk : ∀ q ∈ ps, q.2 ≤ 60) (h : LenOk r A ps L) : evenF (ps.map (metR r A)) = if unL L = [] then some (gmax (L.map (·.2))) else none := by
  unfold evenF
  by_cases c : unL L = []
  · have hn := (unL_nil ha hk h).mp c
    rw [if_neg hn, if_pos c]
    congr 1
    refine Nat.le_antisymm (gmax_le (Nat.zero_le _) fun l hl => ?_) (gmax_le (Nat.zero_le _) fun l hl => ?_)
    · obtain ⟨q, hq, rfl⟩ := List.mem_map.mp hl
      cases hm : metR r A q with
      | none => exact Nat.zero_le _
      | some M =>
        have hq0 := (ha.lt q hq).2.1
        obtain ⟨o, ho⟩ := h.2 q hq q.2.toNat (by omega) (Nat.le_refl _)
        obtain ⟨q', _, j', _, _, _, hL⟩ := h.1 _ ho
        obtain ⟨L', e2, _, e3⟩ := metR_some ha hk hq hm (by omega) (Nat.le_refl _) hL
        have := le_gmax (m := 0) (List.mem_map.mpr ⟨_, ho, rfl⟩ : o ∈ L.map (·.2))
        have e2' : o = some L' := e2
        rw [e2'] at this
        rw [← e3 rfl]
        exact this
    · obtain ⟨x, hx, rfl⟩ := List.mem_map.mp hl
      obtain ⟨q, hq, j, j1, j2, e, hL⟩ := h.1 _ hx
      cases hm : metR r A q with
      | none => exact absurd (List.mem_map.mpr ⟨q, hq, hm⟩) hn
      | some M =>
        rw [e] at hL
        obtain ⟨L', e2, e3, _⟩ := metR_some ha hk hq hm j1 j2 hL
        rw [e2]
        have := le_gmax (m := 0) (List.mem_map.mpr ⟨q, hq, rfl⟩ : metR r A q ∈ ps.map (metR r A))
        rw [hm] at this
        exact Nat.le_trans e3 this
  · have hn : none ∈ ps.map (metR r A) := by
      by_cases z : none ∈ ps.map (metR r A)
      · exact z
      · exact absurd ((unL_nil ha hk h).mpr z) c
    rw [if_pos hn, if_neg c]
/-- the least power unmet -/
theorem unmetF_spec (r A : Int) : ∀ (ps : List (Int × Int)) (acc : Option Int), let res := ps.foldl (fun acc q => if metR r A q = none then lessF acc (q.1 ^ (vcap A q.1 q.2.toNat + 1)) else acc) acc
    (∀ m, res = some m → (acc = some m ∨ ∃ q ∈ ps, metR r A q = none ∧ m = q.1 ^ (vcap A q.1 q.2.toNat + 1)) ∧ (∀ a, acc = some a → m ≤ a) ∧ ∀ q ∈ ps, metR r A q = none → m ≤ q.1 ^ (vcap A q.1 q.2.toNat + 1)) ∧ (res = none → acc = none ∧ ∀ q ∈ ps, metR r A q ≠ none)
  | [], acc => ⟨fun m h => ⟨.inl h, fun a ha => by rw [show acc = some m from h] at ha; cases ha; exact Int.le_refl _, (fun q hq => by cases hq)⟩, fun h => ⟨h, fun q hq => by cases hq⟩⟩
  | q :: ps, acc => by
    intro res
    obtain ⟨h1, h2⟩ := unmetF_spec r A ps (if metR r A q = none then lessF acc (q.1 ^ (vcap A q.1 q.2.toNat + 1)) else acc)
    by_cases hm : metR r A q = none
    · rw [if_pos hm] at h1 h2
      have hl : ∀ l, ∃ b, lessF acc l = some b ∧ b ≤ l ∧ (∀ a, acc = some a → b ≤ a) ∧ (acc = some b ∨ b = l) := fun l => by
        unfold lessF
        cases acc with
        | none => exact ⟨l, rfl, Int.le_refl _, (fun a h => by cases h), .inr rfl⟩
        | some a =>
          dsimp only
          split
          · exact ⟨l, rfl, Int.le_refl _, (fun b h => by cases h; omega), .inr rfl⟩
          · exact ⟨a, rfl, by omega, (fun b h => by cases h; exact Int.le_refl _), .inl rfl⟩
      obtain ⟨b, e1, e2, e3, e4⟩ := hl (q.1 ^ (vcap A q.1 q.2.toNat + 1))
      rw [e1] at h1 h2
      have eres : res = ps.foldl (fun acc q => if metR r A q = none then lessF acc (q.1 ^ (vcap A q.1 q.2.toNat + 1)) else acc) (some b) := by
        show List.foldl _ _ (q :: ps) = _
        rw [List.foldl_cons, if_pos hm, e1]
      rw [eres]
      refine ⟨fun m h => ?_, fun h => ?_⟩
      · obtain ⟨g1, g2, g3⟩ := h1 m h
        have hmb := g2 b rfl
        refine ⟨?_, fun a ha => Int.le_trans hmb (e3 a ha), fun x hx hn => ?_⟩
        · rcases g1 with z | ⟨x, hx, z1, z2⟩
          · cases z
            rcases e4 with w | w
            · exact .inl w
            · exact .inr ⟨q, List.mem_cons_self .., hm, w⟩
          · exact .inr ⟨x, List.mem_cons_of_mem _ hx, z1, z2⟩
        · rcases List.mem_cons.mp hx with e | e
          · rw [e]; exact Int.le_trans hmb e2
          · exact g3 x e hn
      · have := (h2 h).1
        cases this
    · rw [if_neg hm] at h1 h2
      have eres : res = ps.foldl (fun acc q => if metR r A q = none then lessF acc (q.1 ^ (vcap A q.1 q.2.toNat + 1)) else acc) acc := by
        show List.foldl _ _ (q :: ps) = _
        rw [List.foldl_cons, if_neg hm]
      rw [eres]
      refine ⟨fun m h => ?_, fun h => ?_⟩
      · obtain ⟨g1, g2, g3⟩ := h1 m h
        refine ⟨?_, g2, fun x hx hn => ?_⟩
        · rcases g1 with z | ⟨x, hx, z1, z2⟩
          · exact .inl z
          · exact .inr ⟨x, List.mem_cons_of_mem _ hx, z1, z2⟩
        · rcases List.mem_cons.mp hx with e | e
          · rw [e] at hn; exact absurd hn hm
          · exact g3 x e hn
      · obtain ⟨g1, g2⟩ := h2 h
        refine ⟨g1, fun x hx => ?_⟩
        rcases List.mem_cons.mp hx with e | e
        · rw [e]; exact hm
        · exact g2 x e
theorem unmet_due {r A : Int} {ps : List (Int × Int)} {L : List (Int × Option Nat)} (ha : Asc 0 ps) (hk : ∀ q ∈ ps, q.2 ≤ 60) (h : LenOk r A ps L) : (unL L = [] → unmetF r A ps = none) ∧ ∀ m, m ∈ unL L → (∀ y ∈ unL L, m ≤ y) → unmetF r A ps = some m := by
  obtain ⟨g1, g2⟩ := unmetF_spec r A ps none
  have inU : ∀ q ∈ ps, metR r A q = none → q.1 ^ (vcap A q.1 q.2.toNat + 1) ∈ unL L := fun q hq e => by
    obtain ⟨h1, h2⟩ := met_none (ha.lt q hq).2.2 e
    obtain ⟨o, ho⟩ := h.2 q hq _ (by omega) h1
    obtain ⟨q', _, j', _, _, _, hL⟩ := h.1 _ ho
    have eo : o = none := hL.uniq h2
    rw [eo] at ho
    exact mem_unL.mpr ho
  refine ⟨fun z => ?_, fun m hm hmin => ?_⟩
  · cases hu : unmetF r A ps with
    | none => rfl
    | some m =>
      exfalso
      obtain ⟨z1, _⟩ := g1 m hu
      rcases z1 with w | ⟨q, hq, e, _⟩
      · cases w
      · have := inU q hq e
        rw [z] at this
        cases this
  · obtain ⟨q, hq, j, j1, j2, e, hL⟩ := h.1 _ (mem_unL.mp hm)
    dsimp only at e hL
    have hmn : metR r A q = none := by
      cases hx : metR r A q with
      | none => rfl
      | some M =>
        rw [e] at hL
        obtain ⟨L', e2, _⟩ := metR_some ha hk hq hx j1 j2 hL
        cases e2
    have hj : vcap A q.1 q.2.toNat + 1 ≤ j := by
      refine Nat.lt_of_not_le fun z => ?_
      rw [e] at hL
      have := hL.uniq (met_low (ha.lt q hq).2.2 j1 j2 z)
      cases this
    have h2 := two_of ha hq
    have hle : q.1 ^ (vcap A q.1 q.2.toNat + 1) ≤ q.1 ^ j := by
      have := Nat.pow_le_pow_right (show 0 < q.1.toNat by omega) hj
      have e : ∀ m : Nat, q.1 ^ m = ((q.1.toNat ^ m : Nat) : Int) := fun m => by rw [Int.natCast_pow, Int.toNat_of_nonneg (by omega)]
      rw [e, e]
      exact Int.ofNat_le.mpr this
    cases hu : unmetF r A ps with
    | none => exact absurd hmn ((g2 hu).2 q hq)
    | some m' =>
      obtain ⟨z1, _, z3⟩ := g1 m' hu
      have a1 := z3 q hq hmn
      have a2 : m ≤ m' := by
        rcases z1 with w | ⟨q', hq', e', ee⟩
        · cases w
        · rw [ee]; exact hmin _ (inU q' hq' e')
      congr 1
      omega
theorem metR_one {r : Int} {ps : List (Int × Int)} (ha : Asc 0 ps) {q : Int × Int} (hq : q ∈ ps) : metR r 1 q = none ∧ vcap 1 q.1 q.2.toNat = 0 := by
  have h2 := two_of ha hq
  have h0 := (ha.lt q hq).2.1
  have hv : vcap 1 q.1 q.2.toNat = 0 := by
    obtain ⟨k, hk⟩ : ∃ k, q.2.toNat = k + 1 := ⟨q.2.toNat - 1, by omega⟩
    rw [hk, vcap_succ, if_neg (by rw [Int.emod_eq_of_lt (by decide) (by omega)]; decide)]
  refine ⟨?_, hv⟩
  unfold metR metF
  rw [hv, if_neg (by omega), if_neg (by omega)]
theorem one_told {r : Int} {q : Int × Int} {ps : List (Int × Int)} (ha : Asc 0 (q :: ps)) : evenF ((q :: ps).map (metR r 1)) = none ∧ unmetF r 1 (q :: ps) = some q.1 := by
  constructor
  · unfold evenF
    rw [if_pos (List.mem_map.mpr ⟨q, List.mem_cons_self .., (metR_one ha (List.mem_cons_self ..)).1⟩)]
  · obtain ⟨g1, g2⟩ := unmetF_spec r 1 (q :: ps) none
    cases hu : unmetF r 1 (q :: ps) with
    | none => exact absurd (metR_one ha (List.mem_cons_self ..)).1 ((g2 hu).2 q (List.mem_cons_self ..))
    | some m =>
      obtain ⟨z1, _, z3⟩ := g1 m hu
      have a1 := z3 q (List.mem_cons_self ..) (metR_one ha (List.mem_cons_self ..)).1
      rw [(metR_one (r := r) ha (List.mem_cons_self ..)).2, Nat.zero_add, Int.pow_succ, Int.pow_zero, Int.one_mul] at a1
      rcases z1 with w | ⟨x, hx, e, ee⟩
      · cases w
      · rw [(metR_one (r := r) ha hx).2, Nat.zero_add, Int.pow_succ, Int.pow_zero, Int.one_mul] at ee
        rcases List.mem_cons.mp hx with e1 | e1
        · rw [ee, e1]
        · have := (ha.2.2.2.lt x e1).1
          omega
theorem Asc.mono {l l' : Int} {ps : List (Int × Int)} (h : Asc l ps) (hl : l' ≤ l) : Asc l' ps := by
  cases ps with
  | nil => trivial
  | cons q r => exact ⟨by have := h.1; omega, h.2.1, h.2.2.1, h.2.2.2⟩
theorem Asc.take {ps : List (Int × Int)} : ∀ (n : Nat) {l : Int}, Asc l ps → Asc l (ps.take n) := by
  induction ps with
  | nil => intro n l _; rw [List.take_nil]; trivial
  | cons q r ih =>
    intro n l h
    cases n with
    | zero => trivial
    | succ n => exact ⟨h.1, h.2.1, h.2.2.1, ih n h.2.2.2⟩
theorem Asc.drop {ps : List (Int × Int)} : ∀ (n : Nat) {l : Int}, 0 ≤ l → Asc l ps → Asc 0 (ps.drop n) := by
  induction ps with
  | nil => intro n l _ _; rw [List.drop_nil]; trivial
  | cons q r ih =>
    intro n l h0 h
    cases n with
    | zero => exact h.mono h0
    | succ n => exact ih n (by have := h.1; omega) h.2.2.2
theorem Small.sub {ps qs : List (Int × Int)} (h : Small ps) (hs : ∀ q ∈ qs, q ∈ ps) (hl : qs.length ≤ ps.length) : Small qs := ⟨fun q hq => h.1 q (hs q hq), by have := h.2; omega⟩
theorem metR_all {r A : Int} {ps : List (Int × Int)} (ha : Asc 0 ps) : ps.map (metR (r % num ps) A) = ps.map (metR r A) := List.map_congr_left fun q hq => metR_mod (num_dvd hq) (two_of ha hq)
theorem evenF_app (xs ys : List (Option Nat)) : (evenF (xs ++ ys) = none ↔ evenF xs = none ∨ evenF ys = none) ∧ ∀ m, evenF (xs ++ ys) = some m → ∃ a b, evenF xs = some a ∧ evenF ys = some b ∧ m = max a b := by
  unfold evenF
  have hf : ∀ (l : List (Option Nat)) (a : Nat), l.foldl (fun m l => max m (l.getD 0)) a = max a (l.foldl (fun m l => max m (l.getD 0)) 0) := by
    intro l
    induction l with
    | nil => intro a; simp
    | cons x r ih =>
      intro a
      rw [List.foldl_cons, List.foldl_cons, ih, ih (max 0 _), Nat.max_assoc, Nat.zero_max]
  by_cases h1 : none ∈ xs
  · rw [if_pos h1, if_pos (List.mem_append_left _ h1)]
    simp
  · by_cases h2 : none ∈ ys
    · rw [if_pos h2, if_pos (List.mem_append_right _ h2)]
      simp
    · have h3 : none ∉ xs ++ ys := fun z => (List.mem_append.mp z).elim h1 h2
      rw [if_neg h1, if_neg h2, if_neg h3]
      refine ⟨by simp, fun m hm => ⟨_, _, rfl, rfl, ?_⟩⟩
      cases hm
      rw [List.foldl_append, hf]
def PL3 : List Int := [2, 3, 5, 7, 37, 997]
theorem PL3_pr (i : Fin 6) : Pr (PL3.getD i.val 0) ∧ 2 ≤ PL3.getD i.val 0 ∧ PL3.getD i.val 0 < 1024 ∧ PL3.getD i.val 0 < PL3.getD (i.val + 1) 10000 := by
  revert i; decide +kernel
theorem unmetF_congr {r r' A : Int} {ps : List (Int × Int)} (h : ∀ q ∈ ps, metR r A q = metR r' A q) : unmetF r A ps = unmetF r' A ps := by
  unfold unmetF
  generalize (none : Option Int) = acc
  induction ps generalizing acc with
  | nil => rfl
  | cons q t ih =>
    rw [List.foldl_cons, List.foldl_cons, h q (List.mem_cons_self ..)]
    exact ih (fun x hx => h x (List.mem_cons_of_mem _ hx)) _
theorem paired_opt {a : Addr} {c : Int} {H : Hp} (pu : Purse H a c) : ∀ {L : List (Int × Option Nat)} {us : List Addr}, Paired (fun x t => H t = some (.tup [.int x.1, optV x.2])) L us → Paired (fun q t => rm a H t = some (.tup [q.1, q.2])) (L.map fun x => ((V.int x.1, optV x.2) : V × V)) us
  | _, _, .nil => .nil
  | _, _, .cons r t => .cons (rm_of (pu.ne r fun _ _ _ w => by cases w) r) (paired_opt pu t)
def dOpt : Option Nat → PyData
  | none => .none
  | some e => .int e
theorem dp_opt {K : PySem.W.Frag} {H : Hp} (o : Option Nat) : Dp K H (optV o) (dOpt o) := by
  cases o with
  | none => exact .non
  | some e => exact .int _
theorem shaped3 (p : Int) (o : Option Nat) : SeqAt.shaped (.list [.none, .int p, dOpt o]) = true := by cases o <;> rfl
theorem eqv3 (p : Int) (o : Option Nat) : PyData.eqv (.list [.none, .int p, dOpt o]) (.list [.none, .int p, dOpt o]) = true := by
  refine SeqAt.eqv_refl _ ?_
  cases o <;> rfl
/-- a list of pairs against [] -/
theorem w_nePr0 {K : PySem.W.Frag} {H : Hp} {l e : Addr} {ps : List (Int × Int)} {Q : VK} (h : PrL H l ps) (he : H e = some (.lst [])) (hs : ps.length ≤ 1000) (q : Q (.bl (!decide (ps = []))) H) : rNeD K (.ref l) (.ref e) H Q := by
  obtain ⟨ts, h1, h2⟩ := h
  have dp : ∀ {ps : List (Int × Int)} {ts : List Addr}, Paired (Tp H) ps ts → DpAll K H (ts.map V.ref) (ps.map fun q => PyData.tuple [.int q.1, .int q.2]) := by
    intro ps ts hp
    induction hp with
    | nil => exact .nil
    | cons r _ ih => exact .cons (dp2 r) ih
  have lay : ∀ ps : List (Int × Int), PyData.canLayAll0 (ps.map fun q => PyData.tuple [.int q.1, .int q.2]) = true := by
    intro ps
    induction ps with
    | nil => rfl
    | cons q r ih =>
      rw [List.map_cons, PyData.canLayAll0, ih]
      rfl
  have dep : ∀ ps : List (Int × Int), PyData.depthAll (ps.map fun q => PyData.tuple [.int q.1, .int q.2]) ≤ 1 := by
    intro ps
    induction ps with
    | nil => exact Nat.zero_le _
    | cons q r ih =>
      rw [List.map_cons, PyData.depthAll]
      refine Nat.max_le.mpr ⟨?_, ih⟩
      exact Nat.le_refl _
  refine ⟨.list (ps.map fun q => PyData.tuple [.int q.1, .int q.2]), .list [], .lst (sq h1) (dp h2), .lst (sq he) .nil, ?_, rfl, ?_⟩
  · unfold SeqAt.shaped
    rw [PyData.canLay0, lay, PyData.depth]
    have := dep ps
    simp only [Bool.true_and, decide_eq_true_eq]
    omega
  · have : PyData.eqv (.list (ps.map fun q => PyData.tuple [.int q.1, .int q.2])) (.list []) = decide (ps = []) := by
      cases ps with
      | nil => rfl
      | cons q r => rfl
    rw [this]
    exact q
theorem filt_un (L : List (Int × Option Nat)) : (((L.map fun x => ((V.int x.1, optV x.2) : V × V)).filter fun q => decide (q.2 = .non)).map fun q => q.1) = (unL L).map V.int := by
  unfold unL
  rw [List.filter_map, List.map_map, List.map_map]
  have : (fun q : V × V => decide (q.2 = .non)) ∘ (fun x : Int × Option Nat => ((V.int x.1, optV x.2) : V × V)) = fun x => decide (x.2 = none) := by
    funext x
    obtain ⟨p, o⟩ := x
    cases o with
    | none => rfl
    | some e =>
      show decide (V.int e = V.non) = decide (some e = none)
      simp
  rw [this]
  rfl
theorem filt_snd (L : List (Int × Option Nat)) : (((L.map fun x => ((V.int x.1, optV x.2) : V × V)).filter fun _ => true).map fun q => q.2) = (L.map (·.2)).map optV := by
  rw [List.filter_eq_self.mpr (fun _ _ => rfl), List.map_map, List.map_map]
  rfl

end Bc
namespace Bc
open PySem PySem.Spec PyProof.Rows L2
/-! ### sums, periods, the counts of sums of letters (k60, k64, k63, k95) -/
def sig : Nat → (Nat → Int) → Int
  | 0, _ => 0
  | n + 1, f => sig n f + f n
theorem sig_congr : ∀ {n : Nat} {f g : Nat → Int}, (∀ i, i < n → f i = g i) → sig n f = sig n g
  | 0, _, _, _ => rfl
  | n + 1, f, g, h => by rw [sig, sig, sig_congr (fun i hi => h i (Nat.lt_succ_of_lt hi)), h n (Nat.lt_succ_self n)]
theorem sig_zero : ∀ n : Nat, sig n (fun _ => 0) = 0
  | 0 => rfl
  | n + 1 => by rw [sig, sig_zero n]; rfl
theorem sig_add (f g : Nat → Int) : ∀ n : Nat, sig n (fun i => f i + g i) = sig n f + sig n g
  | 0 => rfl
  | n + 1 => by rw [sig, sig, sig, sig_add f g n]; omega
theorem sig_sub (f g : Nat → Int) : ∀ n : Nat, sig n (fun i => f i - g i) = sig n f - sig n g
  | 0 => rfl
  | n + 1 => by rw [sig, sig, sig, sig_sub f g n]; omega
theorem sig_mul (c : Int) (f : Nat → Int) : ∀ n : Nat, sig n (fun i => c * f i) = c * sig n f
  | 0 => (Int.mul_zero c).symm
  | n + 1 => by rw [sig, sig, sig_mul c f n, Int.mul_add]
theorem sig_const (c : Int) : ∀ n : Nat, sig n (fun _ => c) = n * c
  | 0 => by simp [sig]
  | n + 1 => by rw [sig, sig_const c n, Int.natCast_succ, Int.add_mul, Int.one_mul]
theorem sig_swap (f : Nat → Nat → Int) (m : Nat) : ∀ n : Nat, sig n (fun i => sig m (fun j => f i j)) = sig m (fun j => sig n (fun i => f i j))
  | 0 => (sig_zero m).symm
  | n + 1 => by
    show sig n _ + sig m (fun j => f n j) = sig m (fun j => sig n (fun i => f i j) + f n j)
    rw [sig_add, sig_swap f m n]
theorem sig_tel (f : Nat → Int) : ∀ n : Nat, sig n (fun i => f (i + 1)) - sig n f = f n - f 0
  | 0 => by simp [sig]
  | n + 1 => by
    have := sig_tel f n
    rw [sig, sig]
    omega
theorem sig_pick (f : Nat → Int) {k : Nat} : ∀ n : Nat, sig n (fun i => if i = k then f i else 0) = if k < n then f k else 0
  | 0 => by simp [sig]
  | n + 1 => by
    rw [sig, sig_pick f n]
    by_cases h : n = k
    · rw [if_pos h, h, if_neg (Nat.lt_irrefl _), if_pos (Nat.lt_succ_self _)]
      omega
    · rw [if_neg h]
      by_cases h2 : k < n
      · rw [if_pos h2, if_pos (by omega)]
        omega
      · rw [if_neg h2, if_neg (by omega)]
        omega
theorem sig_nonneg {f : Nat → Int} : ∀ {n : Nat}, (∀ i, i < n → 0 ≤ f i) → 0 ≤ sig n f
  | 0, _ => Int.le_refl _
  | n + 1, h => Int.add_nonneg (sig_nonneg fun i hi => h i (Nat.lt_succ_of_lt hi)) (h n (Nat.lt_succ_self n))
def Per (h : Int → Int) (t : Int) : Prop := ∀ y, h (y + t) = h y
section
variable {h : Int → Int} {t u : Int}
theorem Per.neg (p : Per h t) : Per h (-t) := fun y => by
  have := p (y + -t)
  rw [show y + -t + t = y by omega] at this
  exact this.symm
theorem Per.add (p : Per h t) (q : Per h u) : Per h (t + u) := fun y => by rw [← Int.add_assoc, q, p]
theorem Per.nmul (p : Per h t) : ∀ c : Nat, Per h (t * c)
  | 0 => fun y => by rw [show t * ((0 : Nat) : Int) = 0 from Int.mul_zero t, Int.add_zero]
  | c + 1 => by
    rw [Int.natCast_succ, Int.mul_add, Int.mul_one]
    exact (p.nmul c).add p
theorem Per.mul (p : Per h t) (c : Int) : Per h (t * c) := by
  obtain ⟨n, e | e⟩ := c.eq_nat_or_neg
  · rw [e]; exact p.nmul n
  · rw [e, Int.mul_neg]; exact (p.nmul n).neg
theorem Per.dvd (p : Per h t) (d : t ∣ u) : Per h u := by
  obtain ⟨c, rfl⟩ := d
  exact p.mul c
theorem Per.gcd (a b : Nat) : Per h a → Per h b → Per h (Nat.gcd a b : Nat) := by
  refine Nat.gcd.induction (P := fun a b => Per h a → Per h b → Per h (Nat.gcd a b : Nat)) a b (fun n _ q => ?_) (fun m n _ ih p q => ?_)
  · rw [Nat.gcd_zero_left]; exact q
  · rw [Nat.gcd_rec]
    refine ih ?_ p
    have : ((n % m : Nat) : Int) = n + (m : Int) * (-((n / m : Nat) : Int)) := by
      have := Nat.div_add_mod n m
      have e : ((n : Nat) : Int) = (m : Int) * ((n / m : Nat) : Int) + ((n % m : Nat) : Int) := by exact_mod_cast this.symm
      rw [Int.mul_neg]
      omega
    rw [this]
    exact q.add (p.mul _)
end
/-- a function summed over the places that m letters, the first with the weight b^j, lead to -/
def Qs (b : Int) (A : Nat) (s : Int) : Nat → Nat → (Int → Int) → Int → Int
  | 0, _, g, y => g y
  | m + 1, j, g, y => sig A fun l => Qs b A s m (j + 1) g (y + b ^ j * ((l : Int) + s))
section
variable {b : Int} {A : Nat} {s : Int}
theorem Qs_shift (g : Int → Int) (t : Int) : ∀ (m j : Nat) (y : Int), Qs b A s m j (fun x => g (x + t)) y = Qs b A s m j g (y + t)
  | 0, _, _ => rfl
  | m + 1, j, y => sig_congr fun l _ => by
    rw [Qs_shift g t m (j + 1)]
    congr 1
    omega
theorem Qs_congr {g g' : Int → Int} (h : ∀ x, g x = g' x) (m j : Nat) (y : Int) : Qs b A s m j g y = Qs b A s m j g' y := by rw [show g = g' from funext h]
theorem Qs_per {g : Int → Int} {t : Int} (p : Per g t) (m j : Nat) : Per (Qs b A s m j g) t := fun y => by
  rw [← Qs_shift g t m j y]
  exact Qs_congr p m j y
theorem Qs_sub (g g' : Int → Int) : ∀ (m j : Nat) (y : Int), Qs b A s m j (fun x => g x - g' x) y = Qs b A s m j g y - Qs b A s m j g' y
  | 0, _, _ => rfl
  | m + 1, j, y => by
    rw [Qs, Qs, Qs, ← sig_sub]
    exact sig_congr fun l _ => Qs_sub g g' m (j + 1) _
theorem Qs_sig (k : Nat) (g : Nat → Int → Int) : ∀ (m j : Nat) (y : Int), Qs b A s m j (fun x => sig k fun i => g i x) y = sig k fun i => Qs b A s m j (g i) y
  | 0, _, _ => rfl
  | m + 1, j, y => by
    rw [Qs]
    show _ = sig k fun i => sig A fun l => Qs b A s m (j + 1) (g i) (y + b ^ j * ((l : Int) + s))
    rw [sig_swap]
    exact sig_congr fun l _ => Qs_sig k g m (j + 1) _
theorem Qs_U (g : Int → Int) : ∀ (m j : Nat) (y : Int), Qs b A s m j (fun x => sig A fun l => g (x * b + l + s)) y = sig A fun l => Qs b A s m (j + 1) g (y * b + l + s)
  | 0, _, _ => rfl
  | m + 1, j, y => by
    rw [Qs]
    show _ = sig A fun l => sig A fun l' => Qs b A s m (j + 1 + 1) g (y * b + l + s + b ^ (j + 1) * ((l' : Int) + s))
    rw [sig_swap]
    refine sig_congr fun l' _ => ?_
    rw [Qs_U g m (j + 1)]
    refine sig_congr fun l _ => ?_
    congr 1
    rw [Int.add_mul, Int.pow_succ, Int.mul_right_comm]
    omega
theorem Qs_const (c : Int) : ∀ (m j : Nat) (y : Int), Qs b A s m j (fun _ => c) y = (A : Int) ^ m * c
  | 0, _, _ => by rw [Qs, Int.pow_zero, Int.one_mul]
  | m + 1, j, y => by
    rw [Qs, sig_congr (g := fun _ => (A : Int) ^ m * c) fun l _ => Qs_const c m (j + 1) _, sig_const, Int.pow_succ, Int.mul_comm ((A : Int) ^ m) (A : Int), Int.mul_assoc]
theorem Qs_nonneg {g : Int → Int} (h : ∀ x, 0 ≤ g x) : ∀ (m j : Nat) (y : Int), 0 ≤ Qs b A s m j g y
  | 0, _, y => h y
  | m + 1, j, y => sig_nonneg fun l _ => Qs_nonneg h m (j + 1) _
/-- enough powers met: what is summed has the step b^j -/
theorem Qs_inv {N : Int} {n : Nat} {g : Int → Int} (pN : Per g N) (h1 : N ∣ A * b ^ (n - 1)) (h2 : ∀ j, j + 1 < n → ∀ h : Int → Int, Per h N → Per h (b ^ (j + 1)) → Per h (A * b ^ j)) : ∀ (m j : Nat), 1 ≤ m → j + m = n → Per (Qs b A s m j g) (b ^ j)
  | 0, _, h, _ => by omega
  | m + 1, j, _, e => fun y => by
    have key : Per (Qs b A s m (j + 1) g) (A * b ^ j) := by
      by_cases c : m = 0
      · subst c
        have : j = n - 1 := by omega
        rw [this]
        exact pN.dvd h1
      · exact h2 j (by omega) _ (Qs_per pN _ _) (Qs_inv pN h1 h2 m (j + 1) (by omega) (by omega))
    have t := sig_tel (fun l => Qs b A s m (j + 1) g (y + b ^ j * ((l : Int) + s))) A
    have e0 : y + b ^ j * ((A : Int) + s) = (y + b ^ j * (((0 : Nat) : Int) + s)) + A * b ^ j := by
      rw [Int.mul_add, Int.mul_add, Int.mul_comm (A : Int), show ((0 : Nat) : Int) = 0 from rfl, Int.mul_zero]
      omega
    have z : (fun l : Nat => Qs b A s m (j + 1) g (y + b ^ j * ((l : Int) + s))) A - (fun l : Nat => Qs b A s m (j + 1) g (y + b ^ j * ((l : Int) + s))) 0 = 0 := by
      show Qs b A s m (j + 1) g (y + b ^ j * ((A : Int) + s)) - Qs b A s m (j + 1) g (y + b ^ j * (((0 : Nat) : Int) + s)) = 0
      rw [e0, key]
      omega
    rw [z] at t
    have e1 : Qs b A s (m + 1) j g (y + b ^ j) = sig A fun l => Qs b A s m (j + 1) g (y + b ^ j * (((l + 1 : Nat) : Int) + s)) := by
      rw [Qs]
      refine sig_congr fun l _ => ?_
      congr 1
      rw [Int.natCast_succ, Int.mul_add, Int.mul_add, Int.mul_add, Int.mul_one]
      omega
    rw [e1]
    show _ = sig A fun l => Qs b A s m (j + 1) g (y + b ^ j * ((l : Int) + s))
    omega
/-- without the sums over cosets -/
structure Vz (p : Nat) (q : Int) (h : Int → Int) : Prop where
  per : Per h (q * p)
  z : ∀ y, sig p (fun i => h (y + q * i)) = 0
theorem Vz.L {p : Nat} {q : Int} {h : Int → Int} (v : Vz p q h) (w : Int) : Vz p q (fun x => sig A fun l => h (x + w * ((l : Int) + s))) := by
  refine ⟨fun y => sig_congr fun l _ => ?_, fun y => ?_⟩
  · rw [show y + q * p + w * ((l : Int) + s) = y + w * ((l : Int) + s) + q * p by omega]
    exact v.per _
  · rw [sig_swap]
    rw [sig_congr (g := fun _ => 0) fun l _ => ?_, sig_zero]
    rw [← v.z (y + w * ((l : Int) + s))]
    refine sig_congr fun i _ => ?_
    congr 1
    omega
theorem Vz.per_zero {p : Nat} {q : Int} {h : Int → Int} (v : Vz p q h) (hp : 0 < p) (r : Per h q) (y : Int) : h y = 0 := by
  have := v.z y
  rw [sig_congr (g := fun _ => h y) fun i _ => r.mul _ y, sig_const] at this
  rcases Int.mul_eq_zero.mp this with e | e
  · omega
  · exact e
theorem Qs_inj {p : Nat} {q : Int} (hA : 0 < A) (hp : 0 < p) (step : ∀ (h : Int → Int) (x : Int), ¬ q * p ∣ x → Per h (q * p) → Per h x → Per h q) : ∀ (m e : Nat) (h : Int → Int), Vz p q h → (∀ e', e ≤ e' → e' < e + m → q * p ∣ b ^ e' ∨ ¬ q * p ∣ A * b ^ e') → (∀ y, Qs b A s m e h y = 0) → ∀ y, h y = 0
  | 0, _, h, _, _, z => z
  | m + 1, e, h, v, c, z => by
    have zL : ∀ y, (fun x => sig A fun l => h (x + b ^ e * ((l : Int) + s))) y = 0 := by
      refine Qs_inj hA hp step m (e + 1) _ (v.L (b ^ e)) (fun e' h1 h2 => c e' (by omega) (by omega)) fun y => ?_
      rw [Qs_sig A (fun l x => h (x + b ^ e * ((l : Int) + s))), ← z y, Qs]
      exact sig_congr fun l _ => Qs_shift h _ m (e + 1) y
    rcases c e (Nat.le_refl _) (by omega) with d | d
    · intro y
      have := zL y
      try dsimp only at this
      rw [sig_congr (g := fun _ => h y) fun l _ => (v.per.dvd d).mul _ y, sig_const] at this
      rcases Int.mul_eq_zero.mp this with w | w
      · omega
      · exact w
    · refine v.per_zero hp (step h _ d v.per fun y => ?_)
      have t := sig_tel (fun l => h (y - b ^ e * s + b ^ e * ((l : Int) + s))) A
      have z1 := zL (y - b ^ e * s)
      have z2 := zL (y - b ^ e * s + b ^ e)
      try dsimp only at z1 z2
      rw [z1] at t
      rw [sig_congr (g := fun l => h (y - b ^ e * s + b ^ e * (((l + 1 : Nat) : Int) + s))) fun l _ => ?_] at z2
      · rw [z2] at t
        try dsimp only at t
        have e1 : y - b ^ e * s + b ^ e * ((A : Int) + s) = y + A * b ^ e := by rw [Int.mul_add, Int.mul_comm (A : Int)]; omega
        have e2 : y - b ^ e * s + b ^ e * (((0 : Nat) : Int) + s) = y := by rw [Int.mul_add, show ((0 : Nat) : Int) = 0 from rfl, Int.mul_zero]; omega
        rw [e1, e2] at t
        omega
      · congr 1
        rw [Int.natCast_succ, Int.mul_add, Int.mul_add, Int.mul_add, Int.mul_one]
        omega
end
/-- 1 at the multiples of N -/
def chi (N : Int) (x : Int) : Int := if x % N = 0 then 1 else 0
theorem chi_per (N : Int) : Per (chi N) N := fun y => by
  unfold chi
  rw [Int.add_emod_right]
theorem chi_nonneg (N x : Int) : 0 ≤ chi N x := by
  unfold chi
  split <;> decide
theorem gcd_pred {p : Int} (hp : Pr p) : ∀ (j x : Nat), ¬ p.natAbs ^ (j + 1) ∣ x → Nat.gcd x (p.natAbs ^ (j + 1)) ∣ p.natAbs ^ j
  | j, x, h => by
    rcases cop_or hp x with d | d
    · obtain ⟨y, rfl⟩ := d
      cases j with
      | zero => exact absurd (by rw [Nat.zero_add, Nat.pow_one]; exact Nat.dvd_mul_right _ _) h
      | succ j =>
        have e1 : p.natAbs ^ (j + 1 + 1) = p.natAbs * p.natAbs ^ (j + 1) := by rw [Nat.pow_succ, Nat.mul_comm]
        have e2 : p.natAbs ^ (j + 1) = p.natAbs * p.natAbs ^ j := by rw [Nat.pow_succ, Nat.mul_comm]
        have e3 : Nat.gcd (p.natAbs * y) (p.natAbs ^ (j + 1 + 1)) = p.natAbs * Nat.gcd y (p.natAbs ^ (j + 1)) := by rw [e1, Nat.gcd_mul_left]
        rw [e3]
        refine Nat.dvd_trans (Nat.mul_dvd_mul_left _ (gcd_pred hp j y fun z => h ?_)) (by rw [e2]; exact Nat.dvd_refl _)
        rw [e1]
        exact Nat.mul_dvd_mul_left _ z
    · rw [show Nat.gcd x (p.natAbs ^ (j + 1)) = 1 from Nat.Coprime.pow_right _ d]
      exact Nat.one_dvd _
/-- the indicator of the multiples of a divisor, as a sum -/
theorem chi_sum {P : Int} (hP : 0 < P) {c : Nat} (hc : 0 < c) (x : Int) : sig c (fun i => chi (P * c) (x + P * i)) = chi P x := by
  have hPc : 0 < P * c := Int.mul_pos hP (by omega)
  by_cases h : x % P = 0
  · obtain ⟨z, rfl⟩ := Int.dvd_of_emod_eq_zero h
    have h1 := Int.emod_nonneg (-z) (show (c : Int) ≠ 0 by omega)
    have h2 := Int.emod_lt_of_pos (-z) (show 0 < (c : Int) by omega)
    obtain ⟨k, hk⟩ := Int.eq_ofNat_of_zero_le h1
    rw [sig_congr (g := fun i => if i = k then 1 else 0) fun i hi => ?_, sig_pick (fun _ => 1) c, if_pos (by omega), chi, if_pos h]
    unfold chi
    rw [← Int.mul_add, Int.mul_emod_mul_of_pos _ _ hP]
    have e : P * ((z + i) % c) = 0 ↔ i = k := by
      rw [Int.mul_eq_zero]
      constructor
      · intro w
        have w : (z + i) % c = 0 := w.resolve_left (by omega)
        have w2 : (c : Int) ∣ (i : Int) - (-z) := by
          have := Int.dvd_of_emod_eq_zero w
          rwa [show (i : Int) - (-z) = z + i by omega]
        have w3 : (i : Int) % c = (-z) % c := (Int.emod_eq_emod_iff_emod_sub_eq_zero).mpr (Int.emod_eq_zero_of_dvd w2)
        rw [Int.emod_eq_of_lt (by omega) (by omega), hk] at w3
        exact Int.ofNat.inj w3
      · intro w
        right
        have w3 : (i : Int) % c = (-z) % c := by rw [w, ← show (-z) % (c : Int) = ((k : Nat) : Int) from hk, Int.emod_emod_of_dvd _ (Int.dvd_refl _)]
        have w2 := (Int.emod_eq_emod_iff_emod_sub_eq_zero).mp w3
        rwa [show (i : Int) - (-z) = z + i by omega] at w2
    by_cases w : i = k
    · rw [if_pos w, if_pos (e.mpr w)]
    · rw [if_neg w, if_neg (fun z => w (e.mp z))]
  · rw [chi, if_neg h, sig_congr (g := fun _ => 0) fun i _ => ?_, sig_zero]
    unfold chi
    rw [if_neg fun w => h ?_]
    have w1 : P ∣ x + P * i := Int.dvd_trans (Int.dvd_mul_right P c) (Int.dvd_of_emod_eq_zero w)
    have w2 := Int.dvd_sub w1 (Int.dvd_mul_right P (i : Int))
    rw [show x + P * i - P * i = x by omega] at w2
    exact Int.emod_eq_zero_of_dvd w2
theorem all_dvd {X : Nat} : ∀ {l : Int} {ps : List (Int × Int)}, Asc l ps → (∀ q ∈ ps, q.1.natAbs ^ q.2.toNat ∣ X) → numN ps ∣ X
  | _, [], _, _ => Nat.one_dvd _
  | l, q :: r, a, h => by
    rw [numN_cons]
    exact Nat.Coprime.mul_dvd_of_dvd_of_dvd (cop_num a.2.2.1 _ (Asc.lt a.2.2.2)) (h q (List.mem_cons_self ..)) (all_dvd a.2.2.2 fun z hz => h z (List.mem_cons_of_mem _ hz))
theorem gcd_all {X B : Nat} : ∀ {l : Int} {ps : List (Int × Int)}, Asc l ps → (∀ q ∈ ps, Nat.gcd B (q.1.natAbs ^ q.2.toNat) ∣ X) → Nat.gcd B (numN ps) ∣ X
  | _, [], _, _ => by rw [show numN [] = 1 from rfl, Nat.gcd_one_right]; exact Nat.one_dvd _
  | l, q :: r, a, h => by
    have hc : Nat.Coprime (q.1.natAbs ^ q.2.toNat) (numN r) := cop_num a.2.2.1 _ (Asc.lt a.2.2.2)
    rw [numN_cons, Nat.Coprime.gcd_mul _ hc]
    refine Nat.Coprime.mul_dvd_of_dvd_of_dvd ?_ (h q (List.mem_cons_self ..)) (gcd_all a.2.2.2 fun z hz => h z (List.mem_cons_of_mem _ hz))
    exact Nat.Coprime.coprime_dvd_left (Nat.gcd_dvd_right _ _) (Nat.Coprime.coprime_dvd_right (Nat.gcd_dvd_right _ _) hc)

end Bc
namespace Bc
open PySem PySem.Spec PyProof.Rows L2
/-! ### even just where all powers are met -/
theorem gcd_pow_dvd (a c : Nat) : ∀ e : Nat, Nat.gcd (a ^ e) c ∣ Nat.gcd a c ^ e
  | 0 => by rw [Nat.pow_zero, Nat.pow_zero, Nat.gcd_one_left]; exact Nat.one_dvd _
  | e + 1 => by
    rw [Nat.pow_succ, Nat.pow_succ]
    exact Nat.dvd_trans (Nat.gcd_mul_left_dvd_mul_gcd _ _ _) (Nat.mul_dvd_mul_right (gcd_pow_dvd a c e) _)
theorem pow_dvd_up {a c : Nat} (h : a ∣ c) (n : Nat) : a ^ n ∣ c ^ n := by
  obtain ⟨d, rfl⟩ := h
  rw [Nat.mul_pow]
  exact Nat.dvd_mul_right _ _
theorem metF_pos {be al k L : Nat} (h : metF be al k = some L) : 1 ≤ L := by
  unfold metF at h
  split at h
  · cases h; exact Nat.le_refl _
  · split at h
    · cases h; exact Nat.le_add_right _ _
    · cases h
/-- what a met prime gives -/
theorem met_gives {b A : Nat} {q : Int × Int} (hp : Pr q.1) {L n : Nat} (h : metR b A q = some L) (hn : L ≤ n) : q.1.natAbs ^ q.2.toNat ∣ A * b ^ (n - 1) ∧ ∀ j, Nat.gcd (b ^ (j + 1)) (q.1.natAbs ^ q.2.toNat) ∣ A * b ^ j := by
  obtain ⟨p, kk⟩ := q
  dsimp only at hp h ⊢
  unfold metR at h
  dsimp only at h
  generalize hk : kk.toNat = k at h ⊢
  have h2 : 2 ≤ p := by have := hp.1; omega
  have hpn : ((p.natAbs : Nat) : Int) = p := Int.natAbs_of_nonneg (by omega)
  have hv1 := vcap_le p k b
  have hv2 := vcap_le p k A
  have dA : ∀ i, i ≤ k → (p.natAbs ^ i ∣ A ↔ i ≤ vcap A p k) := fun i hi => by
    rw [← vcap_dvd h2 k A i hi, ← hpn, ← Int.natCast_pow, Int.natCast_dvd_natCast]
    rw [hpn]
  have dB : ∀ i, i ≤ k → (p.natAbs ^ i ∣ b ↔ i ≤ vcap b p k) := fun i hi => by
    rw [← vcap_dvd h2 k b i hi, ← hpn, ← Int.natCast_pow, Int.natCast_dvd_natCast]
    rw [hpn]
  have hn1 : 1 ≤ n := Nat.le_trans (metF_pos h) hn
  unfold metF at h
  split at h
  · rename_i c
    have d := (dA k (Nat.le_refl _)).mpr c
    exact ⟨Nat.dvd_trans d (Nat.dvd_mul_right _ _), fun j => Nat.dvd_trans (Nat.gcd_dvd_right _ _) (Nat.dvd_trans d (Nat.dvd_mul_right _ _))⟩
  · rename_i c
    split at h
    · rename_i hb
      cases h
      obtain ⟨hb1, hb2⟩ := hb
      have d1 := (dA _ hv2).mpr (Nat.le_refl _)
      have d2 := (dB _ hv1).mpr (Nat.le_refl _)
      generalize vcap (b : Int) p k = be at *
      generalize vcap (A : Int) p k = al at *
      constructor
      · have d3 : p.natAbs ^ al * (p.natAbs ^ be) ^ (n - 1) ∣ A * b ^ (n - 1) := Nat.mul_dvd_mul d1 (pow_dvd_up d2 _)
        refine Nat.dvd_trans ?_ d3
        rw [← Nat.pow_mul, ← Nat.pow_add]
        refine Nat.pow_dvd_pow _ ?_
        have a1 := Nat.div_add_mod (k - al + be - 1) be
        have a2 := Nat.mod_lt (k - al + be - 1) (show be > 0 by omega)
        have a3 : be * ((k - al + be - 1) / be) ≤ be * (n - 1) := Nat.mul_le_mul_left _ (by omega)
        omega
      · intro j
        have g1 : Nat.gcd b (p.natAbs ^ k) ∣ p.natAbs ^ be := by
          by_cases c2 : be = k
          · rw [c2]; exact Nat.gcd_dvd_right _ _
          · obtain ⟨u, hu⟩ := d2
            have hnu : ¬ p.natAbs ∣ u := fun z => by
              have h4 : p.natAbs ^ (be + 1) ∣ b := by
                rw [hu, Nat.pow_succ]
                exact Nat.mul_dvd_mul_left _ z
              have := (dB _ (by omega)).mp h4
              omega
            have hc : Nat.Coprime u p.natAbs := (cop_or hp u).resolve_left hnu
            rw [hu, Nat.Coprime.gcd_mul_right_cancel _ (Nat.Coprime.pow_right _ hc)]
            exact Nat.gcd_dvd_left _ _
        refine Nat.dvd_trans (gcd_pow_dvd b _ (j + 1)) ?_
        rw [Nat.pow_succ, Nat.mul_comm A]
        refine Nat.mul_dvd_mul (pow_dvd_up (Nat.gcd_dvd_left _ _) j) (Nat.dvd_trans g1 (Nat.dvd_trans (Nat.pow_dvd_pow _ hb2) d1))
    · cases h
theorem notPm {P b A e : Nat} (hP : 0 < P) (h : ¬ Pm (P : Int) (b : Int) (A : Int) e) : P ∣ b ^ e ∨ ¬ P ∣ A * b ^ e := by
  by_cases d : P ∣ A * b ^ e
  · left
    have e1 : Int.gcd (FS (b : Int) (P : Int) (1 % P) e) (P : Int) = Nat.gcd (b ^ e) P := by
      rw [← gcd_mod, FS_eq, Int.mul_emod, Int.emod_emod_of_dvd _ (Int.dvd_refl _), ← Int.mul_emod, Int.one_mul, gcd_mod]
      show Nat.gcd ((b : Int) ^ e).natAbs (P : Int).natAbs = _
      rw [Int.natAbs_pow]
      rfl
    unfold Pm at h
    rw [e1] at h
    have hg : 0 < Nat.gcd (b ^ e) P := Nat.gcd_pos_of_pos_right _ hP
    have hgP := Nat.gcd_dvd_right (b ^ e) P
    have hgb := Nat.gcd_dvd_left (b ^ e) P
    have h1 : P / Nat.gcd (b ^ e) P ∣ A := by
      have hc : Nat.Coprime (P / Nat.gcd (b ^ e) P) (b ^ e / Nat.gcd (b ^ e) P) := (Nat.coprime_div_gcd_div_gcd hg).symm
      refine hc.dvd_of_dvd_mul_right ?_
      obtain ⟨t, ht⟩ := d
      refine ⟨t, Nat.eq_of_mul_eq_mul_right hg ?_⟩
      rw [Nat.mul_assoc, Nat.div_mul_cancel hgb, ht, Nat.mul_right_comm, Nat.div_mul_cancel hgP]
    have h2 : ¬ 1 < P / Nat.gcd (b ^ e) P := fun z => h ⟨by exact_mod_cast z, by
      refine Int.emod_eq_zero_of_dvd ?_
      rw [← Int.natCast_ediv]
      exact Int.natCast_dvd_natCast.mpr h1⟩
    have h3 := Nat.div_mul_cancel hgP
    have h4 : 0 < P / Nat.gcd (b ^ e) P := Nat.div_pos (Nat.le_of_dvd hP hgP) hg
    rw [show P / Nat.gcd (b ^ e) P = 1 by omega, Nat.one_mul] at h3
    rw [h3] at hgb
    exact hgb
  · exact .inr d
theorem not_even {b A : Nat} {s : Int} {n : Nat} {l : Int} {ps : List (Int × Int)} {q : Int × Int} (hA : 0 < A) (h0 : 0 ≤ l) (ha : Asc l ps) (hq : q ∈ ps) {j : Nat} (hj : j + 1 ≤ q.2.toNat) (hm : ∀ e, e < n → ¬ Pm (q.1 ^ (j + 1)) (b : Int) (A : Int) e) (hc : ∀ y, Qs b A s n 0 (chi (num ps)) y = Qs b A s n 0 (chi (num ps)) 0) : False := by
  have hpr := (ha.lt q hq).2.2
  have h2 : 2 ≤ q.1 := by have := hpr.1; omega
  have hpn : ((q.1.natAbs : Nat) : Int) = q.1 := Int.natAbs_of_nonneg (by omega)
  have hdiv : q.1 ^ (j + 1) ∣ num ps := Int.dvd_trans (ppow_dvd q.1 hj) (num_dvd hq)
  have hN0 : 0 < num ps := by
    rw [num_cast h0 ha]
    have := fun z => Nat.ne_of_gt (show 0 < 1 from Nat.one_pos) z
    have hpos : ∀ {l : Int} {ps : List (Int × Int)}, Asc l ps → 0 ≤ l → 0 < numN ps := by
      intro l ps
      induction ps generalizing l with
      | nil => exact fun _ _ => Nat.one_pos
      | cons z r ih =>
        intro a hl
        rw [numN_cons]
        have := a.1
        exact Nat.mul_pos (Nat.pow_pos (by omega)) (ih a.2.2.2 (by omega))
    exact_mod_cast hpos ha h0
  obtain ⟨p, kk⟩ := q
  dsimp only at hj hm hpr h2 hpn hdiv
  have hP : 0 < p ^ (j + 1) := Int.pow_pos (by omega)
  have hq0 : 0 < p ^ j := Int.pow_pos (by omega)
  obtain ⟨c, hcN⟩ := hdiv
  have hc0 : 0 < c := by
    refine Int.not_le.mp fun z => ?_
    have : p ^ (j + 1) * c ≤ 0 := Int.mul_nonpos_of_nonneg_of_nonpos (by omega) z
    omega
  obtain ⟨c, rfl⟩ := Int.eq_ofNat_of_zero_le (Int.le_of_lt hc0)
  have hc1 : 0 < c := by omega
  have cP : ∀ y, Qs b A s n 0 (chi (p ^ (j + 1))) y = c * Qs b A s n 0 (chi (num ps)) 0 := fun y => by
    rw [← Qs_congr (fun x => chi_sum hP hc1 x), Qs_sig c (fun i x => chi (p ^ (j + 1) * c) (x + p ^ (j + 1) * i))]
    rw [sig_congr (g := fun _ => Qs b A s n 0 (chi (num ps)) 0) fun i _ => ?_, sig_const]
    rw [Qs_shift, ← hcN]
    exact hc _
  have e0 : p ^ (j + 1) = p ^ j * (p.natAbs : Nat) := by rw [hpn, Int.pow_succ]
  have v : Vz p.natAbs (p ^ j) (fun x => chi (p ^ (j + 1)) x - chi (p ^ (j + 1)) (x + p ^ j)) := by
    refine ⟨fun y => ?_, fun y => ?_⟩
    · rw [← e0]
      try dsimp only
      rw [show y + p ^ (j + 1) + p ^ j = y + p ^ j + p ^ (j + 1) by omega, chi_per, chi_per]
    · have t := sig_tel (fun i => chi (p ^ (j + 1)) (y + p ^ j * i)) p.natAbs
      try dsimp only at t
      rw [show y + p ^ j * ((p.natAbs : Nat) : Int) = y + p ^ (j + 1) by rw [e0], chi_per, show y + p ^ j * ((0 : Nat) : Int) = y by rw [show ((0 : Nat) : Int) = 0 from rfl, Int.mul_zero, Int.add_zero]] at t
      rw [sig_sub]
      rw [sig_congr (f := fun i => chi (p ^ (j + 1)) (y + p ^ j * ((i : Nat) : Int) + p ^ j)) (g := fun i => chi (p ^ (j + 1)) (y + p ^ j * ((i + 1 : Nat) : Int))) fun i _ => ?_]
      · omega
      · rw [Int.natCast_succ, Int.mul_add, Int.mul_one, Int.add_assoc]
  have z := Qs_inj (b := b) (A := A) (s := s) hA (by omega) ?_ n 0 _ v ?_ ?_ 0
  · try dsimp only at z
    rw [Int.zero_add] at z
    unfold chi at z
    rw [if_pos (by simp)] at z
    have h3 : p ^ j % p ^ (j + 1) = p ^ j := Int.emod_eq_of_lt (by omega) (by
      rw [Int.pow_succ]
      have := Int.mul_le_mul_of_nonneg_left h2 (Int.le_of_lt hq0)
      omega)
    rw [h3, if_neg (by omega)] at z
    omega
  · intro h x d p1 p2
    rw [← e0] at d p1
    have p3 : Per h (x.natAbs : Nat) := by
      rcases Int.natAbs_eq x with w | w
      · rw [← w]; exact p2
      · have := p2.neg
        rw [w, Int.neg_neg] at this
        exact this
    have p4 : Per h ((p.natAbs ^ (j + 1) : Nat) : Int) := by rw [Int.natCast_pow, hpn]; exact p1
    have g := Per.gcd _ _ p3 p4
    have d2 := gcd_pred hpr j x.natAbs fun w => d (Int.natAbs_dvd_natAbs.mp (by rw [Int.natAbs_pow]; exact w))
    refine g.dvd ?_
    have := Int.natCast_dvd_natCast.mpr d2
    rwa [Int.natCast_pow p.natAbs j, hpn] at this
  · intro e _ he
    rw [← e0]
    have hP2 : p ^ (j + 1) = ((p.natAbs ^ (j + 1) : Nat) : Int) := by rw [Int.natCast_pow, hpn]
    have h5 := hm e (by omega)
    rw [hP2] at h5 ⊢
    have := notPm (Nat.pow_pos (by omega)) h5
    rw [← Int.natCast_pow b e, ← Int.natCast_mul, Int.natCast_dvd_natCast, Int.natCast_dvd_natCast]
    exact this
  · intro y
    rw [Qs_sub, Qs_shift, cP, cP]
    omega
theorem numN_pos : ∀ {l : Int} {ps : List (Int × Int)}, Asc l ps → 0 ≤ l → 0 < numN ps
  | _, [], _, _ => Nat.one_pos
  | l, z :: r, a, hl => by
    rw [numN_cons]
    have := a.1
    exact Nat.mul_pos (Nat.pow_pos (by omega)) (numN_pos a.2.2.2 (by omega))
theorem even_iff {b A : Nat} {s : Int} {n : Nat} {ps : List (Int × Int)} (hA : 0 < A) (ha : Asc 0 ps) (hk : ∀ q ∈ ps, q.2 ≤ 60) (hn : n ≤ 63) : (∀ y, Qs b A s n 0 (chi (num ps)) y = Qs b A s n 0 (chi (num ps)) 0) ↔ ∃ e, evenF (ps.map (metR b A)) = some e ∧ e ≤ n := by
  constructor
  · intro hc
    unfold evenF
    by_cases hno : none ∈ ps.map (metR b A)
    · exfalso
      obtain ⟨q, hq, e⟩ := List.mem_map.mp hno
      obtain ⟨h1, f, h2, h3⟩ := met_none (ha.lt q hq).2.2 e
      cases f with
      | some f => cases h3
      | none => exact not_even hA (Int.le_refl _) ha hq h1 (fun e he => h2 e (by omega)) hc
    · rw [if_neg hno]
      refine ⟨_, rfl, ?_⟩
      by_cases hle : ∀ l ∈ ps.map (metR b A), l.getD 0 ≤ n
      · exact gmax_le (Nat.zero_le _) hle
      · exfalso
        refine hle fun l hl => ?_
        obtain ⟨q, hq, rfl⟩ := List.mem_map.mp hl
        cases hm : metR b A q with
        | none => exact absurd (List.mem_map.mpr ⟨q, hq, hm⟩) hno
        | some L =>
          refine Nat.le_of_not_lt fun hL => ?_
          have hL : n < L := hL
          have hq0 := (ha.lt q hq).2.1
          obtain ⟨L', ⟨f, h2, h3⟩, _, h4⟩ := met_some (ha.lt q hq).2.2 (by have := hk q hq; omega) hm (show 1 ≤ q.2.toNat by omega) (Nat.le_refl _)
          cases f with
          | none => cases h3
          | some f =>
            have h3 : some L' = some (f + 1) := h3
            cases h3
            have := h4 rfl
            obtain ⟨j, hj⟩ : ∃ j, q.2.toNat = j + 1 := ⟨q.2.toNat - 1, by omega⟩
            rw [hj] at h2
            exact not_even hA (Int.le_refl _) ha hq (j := j) (by omega) (fun e he => h2.2.2 e (by omega)) hc
  · rintro ⟨e, he, hen⟩
    unfold evenF at he
    by_cases hno : none ∈ ps.map (metR b A)
    · rw [if_pos hno] at he; cases he
    rw [if_neg hno] at he
    have hall : ∀ q ∈ ps, ∃ L, metR b A q = some L ∧ L ≤ n := fun q hq => by
      cases hm : metR b A q with
      | none => exact absurd (List.mem_map.mpr ⟨q, hq, hm⟩) hno
      | some L =>
        refine ⟨L, rfl, ?_⟩
        have := le_gmax (m := 0) (List.mem_map.mpr ⟨q, hq, rfl⟩ : metR b A q ∈ ps.map (metR b A))
        rw [hm] at this
        have h5 : L ≤ _ := this
        cases he
        omega
    have hcast := num_cast (Int.le_refl _) ha
    by_cases h0 : n = 0
    · subst h0
      cases ps with
      | nil =>
        intro y
        show chi 1 y = chi 1 0
        unfold chi
        rw [Int.emod_one, Int.emod_one]
      | cons q r =>
        obtain ⟨L, h1, h2⟩ := hall q (List.mem_cons_self ..)
        have := metF_pos h1
        omega
    · have hb : ∀ j : Nat, (b : Int) ^ j = ((b ^ j : Nat) : Int) := fun j => (Int.natCast_pow b j).symm
      have p := Qs_inv (b := b) (A := A) (s := s) (N := num ps) (n := n) (chi_per _) ?_ ?_ n 0 (by omega) (by omega)
      · rw [Int.pow_zero] at p
        intro y
        have := p.mul y 0
        rwa [Int.zero_add, Int.one_mul] at this
      · rw [hcast, hb, ← Int.natCast_mul]
        refine Int.natCast_dvd_natCast.mpr (all_dvd ha fun q hq => ?_)
        obtain ⟨L, h1, h2⟩ := hall q hq
        exact (met_gives (ha.lt q hq).2.2 h1 h2).1
      · intro j _ h p1 p2
        rw [hcast] at p1
        rw [hb] at p2 ⊢
        refine (Per.gcd _ _ p2 p1).dvd ?_
        rw [← Int.natCast_mul]
        refine Int.natCast_dvd_natCast.mpr (gcd_all ha fun q hq => ?_)
        obtain ⟨L, h1, h2⟩ := hall q hq
        exact (met_gives (ha.lt q hq).2.2 h1 h2).2 j

end Bc
namespace Bc
open PySem PySem.Spec PyProof.Rows L2
/-! ### xs[i] += v; len(set(xs)) of longer lists; the counts of marks -/
theorem same_apC {t : Addr} {H H' : Hp} {o : HO} (n : H t = none) (s : Same H H') : Same H (upd H' t o) := fun b o hb => by
  rw [upd_ne (ne_of_none hb n)]
  exact s _ _ hb
section
variable {X : Cx}
theorem get_list : PGet X (rIxL X.K) := by
  intro pins s σ H o i ov iv Q I ro ri h
  obtain ⟨p, xs, k, z, rfl, rfl, hq, he, q⟩ := h
  cases ro
  obtain ⟨t, rfl⟩ := ri
  obtain ⟨its, r, pl, hz⟩ := I.list hq
  obtain ⟨j, h1, h2, h3, h4, h5⟩ := L2.atI_get he
  obtain ⟨w, ew, rw'⟩ := r.get h2
  have hl := r.length
  have hn := line63
  have fin : EP X pins σ Q w s := ⟨z, H, I, rw', q⟩
  by_cases h0 : 0 ≤ k
  · have hj : k.toNat = j := by
      rw [seqIndex_of h0 h5] at h1
      exact Option.some.inj h1
    exact wpAny_getItem_list pl.isList h0 (by omega) (by rw [hj]; simpa using ew) fin
  · have hj : (k + (its.toArray.size : Int)).toNat = j := by
      rw [seqIndex_neg (by omega) h4] at h1
      rw [List.size_toArray, ← hl]
      exact Option.some.inj h1
    exact wpAny_getItem_list_neg pl.isList (by omega) (by rw [List.size_toArray] <;> omega) (by omega) (by rw [hj]; simpa using ew) fin
theorem w_augS {to ti te : TE} {tget : V → V → Hp → VK → Prop} {tip : TIp} {tset : TSet} {D : Ends} {σ : L2.St} {H : Hp}
    (q : to σ H fun o H1 => ti σ H1 fun i H2 => tget o i H2 fun x H3 => te σ H3 fun y H4 => tip x y H4 fun z H5 => tset o i z H5 fun H6 => D.nx σ H6) : tAugS to ti te tget tip tset D σ H := q
end
theorem dd_ge : ∀ (l σ : List Int), σ.length ≤ (l.foldl step_dedup σ).length
  | [], _ => Nat.le_refl _
  | k :: r, σ => by
    rw [List.foldl_cons]
    refine Nat.le_trans ?_ (dd_ge r _)
    unfold step_dedup
    split
    · exact Nat.le_refl _
    · rw [List.length_append]; exact Nat.le_add_right _ _
theorem dd_one (k : Int) : ∀ l : List Int, (l.foldl step_dedup [k]).length = 1 ↔ ∀ x ∈ l, x = k
  | [] => ⟨fun _ x h => (by cases h), fun _ => rfl⟩
  | y :: r => by
    rw [List.foldl_cons]
    by_cases h : y = k
    · have e : step_dedup [k] y = [k] := by
        unfold step_dedup
        rw [if_pos (List.any_eq_true.mpr ⟨k, List.mem_cons_self .., by simp [h]⟩)]
      rw [e, dd_one k r]
      exact ⟨fun z x hx => (List.mem_cons.mp hx).elim (fun w => w.trans h) (z x), fun z x hx => z x (List.mem_cons_of_mem _ hx)⟩
    · have e : step_dedup [k] y = [k, y] := by
        unfold step_dedup
        rw [if_neg fun z => by
          obtain ⟨x, hx, hx2⟩ := List.any_eq_true.mp z
          have e1 : x = y := by simpa using hx2
          have e2 : x = k := by simpa using hx
          exact h (e1.symm.trans e2)]
        rfl
      rw [e]
      have := dd_ge r [k, y]
      constructor
      · intro z
        rw [z] at this
        simp at this
      · intro z
        exact absurd (z y (List.mem_cons_self ..)) h
/-- all alike -/
def Flat (ns : List Int) : Prop := ∀ x ∈ ns, x = ns.getD 0 0
instance (ns : List Int) : Decidable (Flat ns) := inferInstanceAs (Decidable (∀ x ∈ ns, _))
theorem met_one {ns : List Int} (h : ns ≠ []) : (firstMet (fun i => ns.getD i 0) ns.length).length = 1 ↔ Flat ns := by
  have e : (List.range ns.length).map (fun i => ns.getD i 0) = ns := by
    apply List.ext_getElem
    · rw [List.length_map, List.length_range]
    · intro i h1 h2
      rw [List.getElem_map, List.getElem_range, List.getD_eq_getElem?_getD, List.getElem?_eq_getElem h2]
      rfl
  unfold firstMet
  rw [e]
  cases ns with
  | nil => exact absurd rfl h
  | cons k r =>
    rw [List.foldl_cons, show step_dedup [] k = [k] from rfl, dd_one]
    unfold Flat
    exact ⟨fun z x hx => (List.mem_cons.mp hx).elim (fun w => w) (z x), fun z x hx => z x (List.mem_cons_of_mem _ hx)⟩
def tLenSet1 (K : PySem.W.Frag) (ta : TE) : TE := fun σ H Q => ta σ H fun x H1 => ∃ (l : Addr) (ns : List Int), x = V.ref l ∧ SqL K H1 l (ns.map V.int) ∧ ns.length ≤ 4000 ∧ ns ≠ [] ∧ ∀ n : Nat, (n = 1 ↔ Flat ns) → Q (.int n) H1
theorem pe_lenSet1 {X : Cx} {a : Expr} {ta : TE} {p p2 q pos : Pos} (hc : X.calm = true) (hg : Gl X "len") (hm : X.mg "len" = none) (hg2 : Gl X "set") (hm2 : X.mg "set" = none) (ha : PE X a ta)
    (na : starEach [a] X.env = (false, eval a X.env) :: starEach [] X.env := by rfl) : PE X (.Call (.Name "len" p) [.Call (.Name "set" p2) [a] [] q] [] pos) (tLenSet1 X.K ta) := by
  refine ⟨fun pins s σ H Q I h => ?_⟩
  refine Call_ (ld_blt I hg hm PySem.boot_len ?_)
  refine PyProof.Rows.callWith_builtin1 (PyProof.Rows.args_cons ?_ rfl) rfl rfl
  refine Call_ (ld_blt I hg2 hm2 PyProof.Rows.boot_set ?_)
  refine PyProof.Rows.callWith_type1 (PyProof.Rows.args_cons (thn (ha.run pins s σ H _ I h) fun v s1 ⟨x, H1, I1, r1, q1⟩ => PyProof.Rows.args_nil ?_) na) na rfl
  obtain ⟨l, ns, rfl, hq, h1, h2, q1⟩ := q1
  cases r1
  obtain ⟨its, r, pl, hz⟩ := I1.list hq
  have hl : its.toArray.size = ns.length := by rw [List.size_toArray, ← r.length, List.length_map]
  have ml := met_one h2
  have mle := firstMet_length_le (fun i => ns.getD i 0) ns.length
  refine call_set_list (I1.ok.hd hc) pl.isList (ns := ns) (by simpa using r.ints) (by unfold scanBound; omega) fun h' tk hS hk => ?_
  rw [hl] at hS
  refine PyProof.Rows.args_nil ?_
  obtain ⟨o, es, ep, t, ho, hex, hd, _, _, _, hf, hn⟩ := hS
  have I2 : Inv X pins σ H1 { s1 with heap := h', toks := tk } := I1.kept fun b o e => hk b o (Heap.lt_size e) e
  exact call_len_set ho hex hd hf (by rw [hn]; omega) ⟨.int ((firstMet (fun i => ns.getD i 0) ns.length).length : Nat), H1, I2.tok _, ⟨_, by rw [hn]⟩, q1 _ ml⟩
theorem w_lenSet1 {K : PySem.W.Frag} {ta : TE} {σ : L2.St} {H : Hp} {Q : VK} (q : ta σ H fun x H1 => ∃ (l : Addr) (ns : List Int), x = V.ref l ∧ SqL K H1 l (ns.map V.int) ∧ ns.length ≤ 4000 ∧ ns ≠ [] ∧ ∀ n : Nat, (n = 1 ↔ Flat ns) → Q (.int n) H1) : tLenSet1 K ta σ H Q := q
/-! ### the counts -/
def bump (ys : List Int) (i : Nat) (v : Int) : List Int := ys.set i (ys.getD i 0 + v)
theorem bump_len (ys : List Int) (i : Nat) (v : Int) : (bump ys i v).length = ys.length := by unfold bump; rw [List.length_set]
theorem bump_get {ys : List Int} {i : Nat} (h : i < ys.length) (v : Int) (x : Nat) : (bump ys i v).getD x 0 = ys.getD x 0 + if i = x then v else 0 := by
  unfold bump
  rw [List.getD_eq_getElem?_getD, List.getElem?_set]
  by_cases e : i = x
  · rw [if_pos e, if_pos e, if_pos h, e]
    rfl
  · rw [if_neg e, if_neg e, Int.add_zero, List.getD_eq_getElem?_getD]
def cIn (N b s r c : Int) (m : Nat) (ys : List Int) : List Int := (List.range m).foldl (fun ys (l : Nat) => bump ys ((r * b + l + s) % N).toNat c) ys
theorem cIn_zero (N b s r c : Int) (ys : List Int) : cIn N b s r c 0 ys = ys := rfl
theorem cIn_succ (N b s r c : Int) (m : Nat) (ys : List Int) : cIn N b s r c (m + 1) ys = bump (cIn N b s r c m ys) ((r * b + m + s) % N).toNat c := by
  unfold cIn
  rw [List.range_succ, List.foldl_append]
  rfl
theorem cIn_len (N b s r c : Int) (ys : List Int) : ∀ m : Nat, (cIn N b s r c m ys).length = ys.length
  | 0 => rfl
  | m + 1 => by rw [cIn_succ, bump_len, cIn_len N b s r c ys m]
theorem ix_lt {N : Int} (hN : 0 < N) (z : Int) : (z % N).toNat < N.toNat := by
  have h1 := Int.emod_nonneg z (show N ≠ 0 by omega)
  have h2 := Int.emod_lt_of_pos z hN
  omega
theorem cIn_get {N : Int} (hN : 0 < N) (b s r c : Int) {ys : List Int} (hy : ys.length = N.toNat) (x : Nat) : ∀ m : Nat, (cIn N b s r c m ys).getD x 0 = ys.getD x 0 + sig m fun l => if ((r * b + l + s) % N).toNat = x then c else 0
  | 0 => by rw [cIn_zero, sig, Int.add_zero]
  | m + 1 => by
    rw [cIn_succ, bump_get (by rw [cIn_len, hy]; exact ix_lt hN _), cIn_get hN b s r c hy x m, sig, Int.add_assoc]
def cOut (N b s : Int) (A : Nat) (xs : List Int) (k : Nat) : List Int := (List.range k).foldl (fun ys (r : Nat) => cIn N b s r (xs.getD r 0) A ys) (List.replicate N.toNat 0)
theorem cOut_zero (N b s : Int) (A : Nat) (xs : List Int) : cOut N b s A xs 0 = List.replicate N.toNat 0 := rfl
theorem cOut_succ (N b s : Int) (A : Nat) (xs : List Int) (k : Nat) : cOut N b s A xs (k + 1) = cIn N b s k (xs.getD k 0) A (cOut N b s A xs k) := by
  unfold cOut
  rw [List.range_succ, List.foldl_append]
  rfl
theorem cOut_len (N b s : Int) (A : Nat) (xs : List Int) : ∀ k : Nat, (cOut N b s A xs k).length = N.toNat
  | 0 => by rw [cOut_zero, List.length_replicate]
  | k + 1 => by rw [cOut_succ, cIn_len, cOut_len N b s A xs k]
theorem getD_rep (n x : Nat) : (List.replicate n (0 : Int)).getD x 0 = 0 := by
  rw [List.getD_eq_getElem?_getD, List.getElem?_replicate]
  split <;> rfl
theorem cOut_get {N : Int} (hN : 0 < N) (b s : Int) (A : Nat) (xs : List Int) (x : Nat) : ∀ k : Nat, (cOut N b s A xs k).getD x 0 = sig k fun r => sig A fun l => if (((r : Int) * b + l + s) % N).toNat = x then xs.getD r 0 else 0
  | 0 => by rw [cOut_zero, getD_rep]; rfl
  | k + 1 => by rw [cOut_succ, cIn_get hN _ _ _ _ (cOut_len ..), cOut_get hN b s A xs x k, sig]
/-- how many texts of n letters have the marks 0, 1, .. : d is the lead -/
def cnt (N b s d : Int) (A : Nat) : Nat → List Int
  | 0 => (List.replicate N.toNat 0).set (d % N).toNat 1
  | n + 1 => cOut N b s A (cnt N b s d A n) N.toNat
theorem cnt_len (N b s d : Int) (A : Nat) : ∀ n : Nat, (cnt N b s d A n).length = N.toNat
  | 0 => by rw [cnt, List.length_set, List.length_replicate]
  | n + 1 => by rw [cnt, cOut_len]
theorem per_mod {g : Int → Int} {N : Int} (p : Per g N) (z : Int) : g (z % N) = g z := by
  have h := p.mul (z / N) (z % N)
  rw [Int.add_comm, Int.mul_ediv_add_emod] at h
  exact h.symm
theorem cnt_pair {N b s d : Int} {A : Nat} (hN : 0 < N) : ∀ (n : Nat) (g : Int → Int), Per g N → (sig N.toNat fun r => (cnt N b s d A n).getD r 0 * g r) = Qs b A s n 0 g (d * b ^ n)
  | 0, g, p => by
    have hk := ix_lt hN d
    rw [sig_congr (g := fun r => if r = (d % N).toNat then g r else 0) fun r hr => ?_, sig_pick, if_pos hk, Qs, Int.pow_zero, Int.mul_one]
    · rw [Int.toNat_of_nonneg (Int.emod_nonneg _ (by omega)), per_mod p]
    · rw [cnt, List.getD_eq_getElem?_getD, List.getElem?_set, List.length_replicate, if_pos hk]
      by_cases e : (d % N).toNat = r
      · rw [if_pos e, if_pos e.symm, Option.getD_some, Int.one_mul]
      · rw [if_neg e, if_neg (fun w => e w.symm), List.getElem?_replicate, if_pos hr, Option.getD_some, Int.zero_mul]
  | n + 1, g, p => by
    have pU : Per (fun x => sig A fun l => g (x * b + l + s)) N := fun x => sig_congr fun l _ => by
      rw [show (x + N) * b + (l : Int) + s = x * b + l + s + N * b by rw [Int.add_mul]; omega]
      exact p.mul b _
    have ih := cnt_pair (b := b) (s := s) (d := d) (A := A) hN n _ pU
    rw [Qs_U] at ih
    have e2 : Qs b A s (n + 1) 0 g (d * b ^ (n + 1)) = sig A fun l => Qs b A s n (0 + 1) g (d * b ^ n * b + l + s) := by
      rw [Qs]
      refine sig_congr fun l _ => ?_
      congr 1
      rw [Int.pow_zero, Int.one_mul, Int.pow_succ, ← Int.mul_assoc]
      omega
    rw [e2, ← ih]
    rw [sig_congr (g := fun x => sig N.toNat fun r => sig A fun l => if x = (((r : Int) * b + l + s) % N).toNat then (cnt N b s d A n).getD r 0 * g x else 0) fun x _ => ?_]
    · rw [sig_swap]
      refine sig_congr fun r _ => ?_
      rw [sig_swap, ← sig_mul]
      refine sig_congr fun l _ => ?_
      rw [sig_pick (fun x => (cnt N b s d A n).getD r 0 * g x), if_pos (ix_lt hN _), Int.toNat_of_nonneg (Int.emod_nonneg _ (by omega)), per_mod p]
    · rw [cnt, cOut_get hN, Int.mul_comm, ← sig_mul]
      refine sig_congr fun r _ => ?_
      rw [← sig_mul]
      refine sig_congr fun l _ => ?_
      by_cases e : (((r : Int) * b + l + s) % N).toNat = x
      · rw [if_pos e, if_pos e.symm, Int.mul_comm]
      · rw [if_neg e, if_neg (fun w => e w.symm), Int.mul_zero]
theorem cnt_get {N b s d : Int} {A : Nat} (hN : 0 < N) (n : Nat) {x : Nat} (hx : x < N.toNat) : (cnt N b s d A n).getD x 0 = Qs b A s n 0 (chi N) (d * b ^ n - x) := by
  have p : Per (fun z => chi N (z + -(x : Int))) N := fun z => by
    show chi N (z + N + -(x : Int)) = _
    rw [show z + N + -(x : Int) = z + -x + N by omega]
    exact chi_per N _
  have h := cnt_pair (b := b) (s := s) (d := d) (A := A) hN n _ p
  rw [Qs_shift] at h
  rw [show d * b ^ n - (x : Int) = d * b ^ n + -x by omega, ← h]
  rw [sig_congr (g := fun r => if r = x then (cnt N b s d A n).getD r 0 else 0) fun r hr => ?_, sig_pick (fun r => (cnt N b s d A n).getD r 0), if_pos hx]
  unfold chi
  by_cases e : r = x
  · rw [if_pos e, e, show (x : Int) + -x = 0 by omega, Int.zero_emod, if_pos rfl, Int.mul_one]
  · rw [if_neg e, if_neg fun w => e ?_, Int.mul_zero]
    have h2 := (Int.emod_eq_emod_iff_emod_sub_eq_zero (m := (r : Int)) (n := N) (k := (x : Int))).mpr (by rw [show (r : Int) - x = r + -x by omega]; exact w)
    rw [Int.emod_eq_of_lt (by omega) (by omega), Int.emod_eq_of_lt (by omega) (by omega)] at h2
    exact Int.ofNat.inj h2
theorem cnt_flat {N b s d : Int} {A : Nat} (hN : 0 < N) (n : Nat) : Flat (cnt N b s d A n) ↔ ∀ y, Qs b A s n 0 (chi N) y = Qs b A s n 0 (chi N) 0 := by
  have hl := cnt_len N b s d A n
  have per := Qs_per (b := b) (A := A) (s := s) (chi_per N) n 0
  constructor
  · intro h
    have key : ∀ y, Qs b A s n 0 (chi N) y = (cnt N b s d A n).getD 0 0 := fun y => by
      have hx := ix_lt hN (d * b ^ n - y)
      have e := cnt_get (b := b) (s := s) (d := d) (A := A) hN n hx
      rw [Int.toNat_of_nonneg (Int.emod_nonneg _ (by omega))] at e
      have e3 : d * b ^ n - (d * b ^ n - y) % N = y + N * ((d * b ^ n - y) / N) := by
        have := Int.mul_ediv_add_emod (d * b ^ n - y) N
        omega
      rw [e3, per.mul] at e
      rw [← e]
      refine h _ ?_
      rw [List.getD_eq_getElem?_getD, List.getElem?_eq_getElem (by omega)]
      exact List.getElem_mem _
    exact fun y => (key y).trans (key 0).symm
  · intro h x hx
    obtain ⟨i, hi, rfl⟩ := List.getElem_of_mem hx
    have e1 := cnt_get (b := b) (s := s) (d := d) (A := A) hN n (x := i) (by omega)
    have e2 := cnt_get (b := b) (s := s) (d := d) (A := A) hN n (x := 0) (by omega)
    rw [List.getD_eq_getElem?_getD, List.getElem?_eq_getElem hi] at e1
    rw [e2, h, ← h (d * b ^ n - (i : Int)), ← e1]
    rfl
theorem sum_sig : ∀ xs : List Int, xs.sum = sig xs.length fun i => xs.getD i 0 := by
  intro xs
  have : ∀ (xs : List Int) (n : Nat), n ≤ xs.length → (xs.take n).sum = sig n fun i => xs.getD i 0 := by
    intro xs n
    induction n with
    | zero => intro _; rfl
    | succ n ih =>
      intro h
      rw [List.take_succ_eq_append_getElem (by omega), List.sum_append, ih (by omega), sig, List.getD_eq_getElem?_getD, List.getElem?_eq_getElem (by omega)]
      simp
  have h := this xs xs.length (Nat.le_refl _)
  rwa [List.take_length] at h
theorem cnt_sum {N b s d : Int} {A : Nat} (hN : 0 < N) (n : Nat) : (cnt N b s d A n).sum = (A : Int) ^ n := by
  have h := cnt_pair (b := b) (s := s) (d := d) (A := A) hN n (fun _ => 1) (fun _ => rfl)
  rw [Qs_const, Int.mul_one] at h
  rw [sum_sig, cnt_len, ← h]
  exact sig_congr fun i _ => (Int.mul_one _).symm
theorem cnt_nonneg {N b s d : Int} {A : Nat} (hN : 0 < N) (n : Nat) : ∀ x ∈ cnt N b s d A n, 0 ≤ x := fun x hx => by
  obtain ⟨i, hi, rfl⟩ := List.getElem_of_mem hx
  have hl := cnt_len N b s d A n
  have e1 := cnt_get (b := b) (s := s) (d := d) (A := A) hN n (x := i) (by omega)
  rw [List.getD_eq_getElem?_getD, List.getElem?_eq_getElem hi, Option.getD_some] at e1
  rw [e1]
  exact Qs_nonneg (chi_nonneg N) _ _ _
theorem count_one : ∀ {xs : List Int}, (∀ x ∈ xs, 0 ≤ x) → xs.sum = 1 → xs.count 1 = 1
  | [], _, h => by simp at h
  | x :: r, h0, h => by
    rw [List.sum_cons] at h
    have hx := h0 x (List.mem_cons_self ..)
    have hr : ∀ y ∈ r, 0 ≤ y := fun y hy => h0 y (List.mem_cons_of_mem _ hy)
    have hs : ∀ (r : List Int), (∀ y ∈ r, 0 ≤ y) → 0 ≤ r.sum ∧ (r.sum = 0 → r.count 1 = 0) := by
      intro r
      induction r with
      | nil => intro _; exact ⟨Int.le_refl _, fun _ => rfl⟩
      | cons y t ih =>
        intro hh
        have i1 := ih fun z hz => hh z (List.mem_cons_of_mem _ hz)
        have i2 := hh y (List.mem_cons_self ..)
        rw [List.sum_cons]
        refine ⟨by omega, fun z => ?_⟩
        rw [List.count_cons, i1.2 (by omega), if_neg (by simp; omega)]
    have hs1 := hs r hr
    by_cases e : x = 1
    · subst e
      rw [List.count_cons, hs1.2 (by omega), if_pos (by simp)]
    · rw [List.count_cons, count_one hr (by omega), if_neg (by simpa using e)]

end Bc
namespace Bc
open PySem PySem.Spec PyProof.Rows L2
/-! ### k60: promises -/
theorem rep00 (n : Nat) : (List.replicate n [V.int 0]).flatten = (List.replicate n (0 : Int)).map V.int := by
  induction n with
  | zero => rfl
  | succ n ih => rw [List.replicate_succ, List.flatten_cons, ih, List.replicate_succ, List.map_cons]; rfl
def spCounts (c : CA) : Sp := fun vs H Q _ => ∃ (x : Addr) (A n b : Int) (ps : List (Int × Int)) (y : Sty), vs = [.ref x, .int A, .int n] ∧ WayAt c H x b ps y ∧ num ps ≤ 2000 ∧ 1 ≤ A ∧ A ≤ 1000 ∧ 0 ≤ n ∧ n ≤ 1000 ∧
  ∀ H' l, H l = none → Same H H' → H' l = some (.lst ((cnt (num ps) b y.shift (ld y) A.toNat n.toNat).map V.int)) → Q (.ref l) H'
def spCountsOn (c : CA) : Sp := fun vs H Q _ => ∃ (l x : Addr) (A b : Int) (ps : List (Int × Int)) (y : Sty) (xs : List Int), vs = [.ref l, .ref x, .int A] ∧ WayAt c H x b ps y ∧ H l = some (.lst (xs.map V.int)) ∧ xs.length = (num ps).toNat ∧ num ps ≤ 2000 ∧ 0 ≤ A ∧ A ≤ 1000 ∧
  ∀ H' l, H l = none → Same H H' → H' l = some (.lst ((cOut (num ps) b y.shift A.toNat xs (num ps).toNat).map V.int)) → Q (.ref l) H'
def spIsMet : Sp := fun vs H Q _ => ∃ (P r A : Int), vs = [.int P, .int r, .int A] ∧ 0 < P ∧ P.natAbs < 2 ^ 200 ∧ r.natAbs < 2 ^ 2000 ∧ ∀ k : Bool, (k = true ↔ ∃ e, e < 12 ∧ Pm P r A e) → Q (.bl k) H
def spUnmetL : Sp := fun vs H Q _ => ∃ (l : Addr) (r A : Int) (ps : List (Int × Int)), vs = [.ref l, .int r, .int A] ∧ PrL H l ps ∧ Asc 0 ps ∧ (∀ q ∈ ps, q.1 < 1024 ∧ q.2 ≤ 11) ∧ ps.length ≤ 64 ∧ r.natAbs < 2 ^ 2000 ∧ ∀ H', Same H H' → Q (optI (unmetF r A ps)) H'
def spSide : Sp := fun vs H Q _ => ∃ (a l : Addr) (ps : List (Int × Int)) (c : Int), vs = [.ref a, .ref l] ∧ c < 2 ^ 48 ∧ Purse H a c ∧ PrL (rm a H) l ps ∧ Small ps ∧ ∀ (z : Int) H', 1 ≤ z → z ≤ 40 → Same (rm a H) (rm a H') → Purse H' a (c + 64) → Q (.int z) H'
/-- an exponent below 12 is enough for powers up to 11 -/
theorem pm_low {p r A : Int} (hp : Pr p) {j : Nat} (hj : j ≤ 11) {e : Nat} (h : Pm (p ^ j) r A e) : ∃ e', e' < 12 ∧ Pm (p ^ j) r A e' := by
  by_cases c : e < 12
  · exact ⟨e, c, h⟩
  · have h1 := (Pm_iff hp (Nat.le_refl j) e).mp h
    by_cases v : vcap r p j = 0
    · refine ⟨0, by decide, (Pm_iff hp (Nat.le_refl j) 0).mpr ?_⟩
      rw [v, Nat.mul_zero] at h1
      rw [Nat.zero_mul]
      exact h1
    · have : e * 1 ≤ e * vcap r p j := Nat.mul_le_mul_left _ (by omega)
      omega
theorem metL_ex (P r A : Int) : ∃ o, MetL P r A o := by
  have key : ∀ n : Nat, ∃ f, Fst (Pm P r A) n f := by
    intro n
    induction n with
    | zero => exact ⟨none, fun e h => by omega⟩
    | succ n ih =>
      obtain ⟨f, hf⟩ := ih
      cases f with
      | some e => exact ⟨some e, by have := hf.1; omega, hf.2⟩
      | none =>
        by_cases c : Pm P r A n
        · exact ⟨some n, by omega, c, fun j hj => hf j hj⟩
        · refine ⟨none, fun e he => ?_⟩
          by_cases z : e = n
          · rw [z]; exact c
          · exact hf e (by omega)
  obtain ⟨f, hf⟩ := key 64
  exact ⟨_, f, hf, rfl⟩
theorem metL_low {p r A : Int} (hp : Pr p) {j : Nat} (hj : j ≤ 11) {o : Option Nat} (h : MetL (p ^ j) r A o) : o = none ↔ ¬ ∃ e, e < 12 ∧ Pm (p ^ j) r A e := by
  obtain ⟨f, hf, rfl⟩ := h
  cases f with
  | none => exact ⟨fun _ ⟨e, h1, h2⟩ => hf e (by omega) h2, fun _ => rfl⟩
  | some e => exact ⟨(fun z => by cases z), fun z => absurd (pm_low hp hj hf.2.1) z⟩
theorem unL_snoc (L : List (Int × Option Nat)) (P : Int) (o : Option Nat) : unL (L ++ [(P, o)]) = unL L ++ (if o = none then [P] else []) := by
  unfold unL
  rw [List.filter_append, List.map_append]
  congr 1
  rw [List.filter_cons]
  by_cases z : o = none
  · rw [if_pos (by simpa using z), if_pos z]; rfl
  · rw [if_neg (by simpa using z), if_neg z]; rfl
theorem two_pow_le {q : Int × Int} (h2 : 2 ≤ q.1) {M : Nat} (hM : q.1 ^ q.2.toNat ≤ (M : Int)) : 2 ^ q.2.toNat ≤ M := by
  have h : (2 : Nat) ^ q.2.toNat ≤ q.1.toNat ^ q.2.toNat := Nat.pow_le_pow_left (by omega) _
  have e : ((q.1.toNat ^ q.2.toNat : Nat) : Int) = q.1 ^ q.2.toNat := by rw [Int.natCast_pow, Int.toNat_of_nonneg (by omega)]
  omega
theorem pow_le_num {ps : List (Int × Int)} (ha : Asc 0 ps) {q : Int × Int} (hq : q ∈ ps) : q.1 ^ q.2.toNat ≤ num ps := by
  have hd := num_dvd hq
  have hc := num_cast (Int.le_refl _) ha
  have hp := numN_pos ha (Int.le_refl _)
  exact Int.le_of_dvd (by omega) hd
theorem exp_le {ps : List (Int × Int)} (ha : Asc 0 ps) {m : Nat} (h : num ps < ((2 ^ (m + 1) : Nat) : Int)) {q : Int × Int} (hq : q ∈ ps) : q.2.toNat ≤ m := by
  have h1 := two_pow_le (two_of ha hq) (M := 2 ^ (m + 1) - 1) (by have := pow_le_num ha hq; have : 0 < 2 ^ (m + 1) := Nat.pow_pos (by decide); omega)
  refine Nat.le_of_not_lt fun z => ?_
  have h2 : 2 ^ (m + 1) ≤ 2 ^ q.2.toNat := Nat.pow_le_pow_right (by decide) z
  have : 0 < 2 ^ (m + 1) := Nat.pow_pos (by decide)
  omega
theorem metF_le {be al k L : Nat} (hk : 1 ≤ k) (h : metF be al k = some L) : L ≤ k := by
  unfold metF at h
  split at h
  · cases h; exact hk
  · rename_i c
    split at h
    · rename_i hb
      cases h
      have : (k - al + be - 1) / be ≤ k - al := by
        rw [Nat.div_le_iff_le_mul_add_pred (by omega)]
        have : k - al ≤ be * (k - al) := Nat.le_mul_of_pos_left _ hb.1
        omega
      omega
    · cases h
theorem even_le {r A : Int} {ps : List (Int × Int)} (ha : Asc 0 ps) {m e : Nat} (hk : ∀ q ∈ ps, q.2.toNat ≤ m) (h : evenF (ps.map (metR r A)) = some e) : e ≤ m := by
  unfold evenF at h
  split at h
  · cases h
  · cases h
    refine gmax_le (Nat.zero_le _) fun l hl => ?_
    obtain ⟨q, hq, rfl⟩ := List.mem_map.mp hl
    cases hm : metR r A q with
    | none => exact Nat.zero_le _
    | some L =>
      have h0 := (ha.lt q hq).2.1
      exact Nat.le_trans (metF_le (by omega) hm) (hk q hq)
/-- even just where all marks are counted alike -/
theorem flat_iff {ps : List (Int × Int)} {b A s d : Int} {n : Nat} (ha : Asc 0 ps) (hN : num ps ≤ 2000) (hb : 0 ≤ b) (hA : 1 ≤ A) (hn : n ≤ 63) : Flat (cnt (num ps) b s d A.toNat n) ↔ ∃ e, evenF (ps.map (metR b A)) = some e ∧ e ≤ n := by
  have hc := num_cast (Int.le_refl _) ha
  have hp := numN_pos ha (Int.le_refl _)
  rw [cnt_flat (by omega)]
  obtain ⟨b, rfl⟩ := Int.eq_ofNat_of_zero_le hb
  obtain ⟨A, rfl⟩ := Int.eq_ofNat_of_zero_le (show 0 ≤ A by omega)
  exact even_iff (by omega) ha (fun q hq => by have := exp_le ha (m := 10) (by omega) hq; omega) hn
/-- the first length below i that is even -/
def dueAt (E : Option Nat) (i : Nat) : Option Nat := match E with
  | some e => if e < i then some e else none
  | none => none
theorem due_step {E : Option Nat} {i : Nat} {F : Prop} (h : F ↔ ∃ e, E = some e ∧ e ≤ i) : (∀ e, dueAt E i = some e → dueAt E (i + 1) = some e ∧ F) ∧ (dueAt E i = none → F → dueAt E (i + 1) = some i) ∧ (dueAt E i = none → ¬ F → dueAt E (i + 1) = none) := by
  unfold dueAt
  cases E with
  | none =>
    refine ⟨(fun e z => by cases z), fun _ z => ?_, fun _ _ => rfl⟩
    obtain ⟨e, h1, _⟩ := h.mp z
    cases h1
  | some e =>
    dsimp only
    by_cases c : e < i
    · rw [if_pos c, if_pos (show e < i + 1 by omega)]
      exact ⟨fun e' z => ⟨z, h.mpr ⟨e, rfl, by omega⟩⟩, (fun z => by cases z), (fun z => by cases z)⟩
    · rw [if_neg c]
      refine ⟨(fun e z => by cases z), fun _ z => ?_, fun _ z => ?_⟩
      · obtain ⟨e', h1, h2⟩ := h.mp z
        cases h1
        rw [if_pos (by omega), show e = i by omega]
      · rw [if_neg fun w => z (h.mpr ⟨e, rfl, by omega⟩)]
theorem due_end {E : Option Nat} {i : Nat} (h : ∀ e, E = some e → e < i) : dueAt E i = E := by
  cases E with
  | none => rfl
  | some e => show (if e < i then some e else none) = _; rw [if_pos (h e rfl)]
theorem unm_even (r A : Int) (ps : List (Int × Int)) : unmetF r A ps = none ↔ evenF (ps.map (metR r A)) ≠ none := by
  obtain ⟨g1, g2⟩ := unmetF_spec r A ps none
  unfold evenF
  constructor
  · intro h
    rw [if_neg]
    · exact fun z => by cases z
    · intro z
      obtain ⟨q, hq, e⟩ := List.mem_map.mp z
      exact (g2 h).2 q hq e
  · intro h
    cases hu : unmetF r A ps with
    | none => rfl
    | some m =>
      exfalso
      rcases (g1 m hu).1 with z | ⟨q, hq, e, _⟩
      · cases z
      · exact h (if_pos (List.mem_map.mpr ⟨q, hq, e⟩))
theorem num_one {ps : List (Int × Int)} (ha : Asc 0 ps) : num ps = 1 ↔ ps = [] := by
  constructor
  · intro h
    cases ps with
    | nil => rfl
    | cons q r =>
      have h1 := pow_le_num ha (List.mem_cons_self ..)
      have h2 := two_pow_le (two_of ha (List.mem_cons_self ..)) (M := 1) (by rw [h] at h1; exact h1)
      have h3 := (ha.lt q (List.mem_cons_self ..)).2.1
      have h4 : 2 ^ 1 ≤ 2 ^ q.2.toNat := Nat.pow_le_pow_right (by decide) (by omega)
      omega
  · rintro rfl
    rfl
theorem w_ifJ {c : TT} {t u : TS} {D : Ends} {σ : L2.St} {H : Hp} (R : L2.St → Hp → Prop) (rest : ∀ σ' H', R σ' H' → D.nx σ' H') (h : ∀ N : L2.St → Hp → Prop, (∀ σ' H', R σ' H' → N σ' H') → tIfS c t u { D with nx := N } σ H) : tIfS c t u D σ H := h D.nx rest
theorem dueV {o : Option Nat} : decide (optV o = V.non) = decide (o = none) := by cases o <;> rfl
theorem optIV {o : Option Int} : decide (optI o = V.non) = decide (o = none) := by
  cases o with
  | none => rfl
  | some i => exact decide_eq_false (fun z => by cases z)
def dOptI : Option Int → PyData
  | none => .none
  | some e => .int e
theorem dp_optI {K : PySem.W.Frag} {H : Hp} (o : Option Int) : Dp K H (optI o) (dOptI o) := by
  cases o with
  | none => exact .non
  | some e => exact .int _
theorem w_neOO {K : PySem.W.Frag} {H : Hp} {a b : Addr} {e : Option Nat} {u : Option Int} {Q : VK} (ha : H a = some (.lst [optV e, optI u])) (hb : H b = some (.lst [optV e, optI u])) (q : Q (.bl false) H) : rNeD K (.ref a) (.ref b) H Q := by
  refine ⟨.list [dOpt e, dOptI u], .list [dOpt e, dOptI u], .lst (sq ha) (.cons (dp_opt e) (.cons (dp_optI u) .nil)), .lst (sq hb) (.cons (dp_opt e) (.cons (dp_optI u) .nil)), ?_, ?_, ?_⟩
  · cases e <;> cases u <;> rfl
  · cases e <;> cases u <;> rfl
  · have : PyData.eqv (.list [dOpt e, dOptI u]) (.list [dOpt e, dOptI u]) = true := by
      refine SeqAt.eqv_refl _ ?_
      cases e <;> cases u <;> rfl
    rw [this]
    exact q

end Bc
namespace Bc
open PySem PySem.Spec PyProof.Rows L2
/-! ### texts counted by the weights of their places, their ranks -/
def Gw (N : Int) (A : Nat) (s : Int) : List Int → Int → Int
  | [], z => chi N z
  | w :: ws, z => sig A fun l => Gw N A s ws (z - ((l : Int) + s) * w)
section
variable {N s b : Int} {A : Nat}
theorem Gw_per : ∀ ws : List Int, Per (Gw N A s ws) N
  | [] => chi_per N
  | w :: ws => fun y => sig_congr fun l _ => by
    rw [show y + N - ((l : Int) + s) * w = y - ((l : Int) + s) * w + N by omega]
    exact Gw_per ws _
theorem Gw_nonneg : ∀ (ws : List Int) (z : Int), 0 ≤ Gw N A s ws z
  | [], z => chi_nonneg N z
  | _ :: ws, _ => sig_nonneg fun _ _ => Gw_nonneg ws _
theorem Gw_perm {ws ws' : List Int} (h : ws.Perm ws') : ∀ z, Gw N A s ws z = Gw N A s ws' z := by
  induction h with
  | nil => exact fun _ => rfl
  | cons x _ ih => exact fun z => sig_congr fun l _ => ih _
  | swap x y l =>
    intro z
    show (sig A fun i => sig A fun j => _) = sig A fun i => sig A fun j => _
    rw [sig_swap]
    refine sig_congr fun i _ => sig_congr fun j _ => ?_
    congr 1
    omega
  | trans _ _ ih1 ih2 => exact fun z => (ih1 z).trans (ih2 z)
theorem Gw_mod : ∀ (ws : List Int) (z : Int), Gw N A s (ws.map (· % N)) z = Gw N A s ws z
  | [], _ => rfl
  | w :: ws, z => by
    show (sig A fun l => Gw N A s (ws.map (· % N)) (z - ((l : Int) + s) * (w % N))) = sig A fun l => Gw N A s ws (z - ((l : Int) + s) * w)
    refine sig_congr fun l _ => ?_
    rw [Gw_mod ws]
    have e : z - ((l : Int) + s) * (w % N) = z - ((l : Int) + s) * w + N * (((l : Int) + s) * (w / N)) := by
      have := Int.mul_ediv_add_emod w N
      have h2 : ((l : Int) + s) * w = ((l : Int) + s) * (N * (w / N) + w % N) := by rw [this]
      rw [Int.mul_add, Int.mul_left_comm] at h2
      omega
    rw [e]
    exact (Gw_per ws).mul _ _
theorem chi_neg (z : Int) : chi N (-z) = chi N z := by
  unfold chi
  have : (-z) % N = 0 ↔ z % N = 0 := by
    rw [← Int.dvd_iff_emod_eq_zero, ← Int.dvd_iff_emod_eq_zero, Int.dvd_neg]
  by_cases h : z % N = 0
  · rw [if_pos h, if_pos (this.mpr h)]
  · rw [if_neg h, if_neg fun w => h (this.mp w)]
theorem Gw_Qs : ∀ (n j : Nat) (z : Int), Gw N A s ((List.range n).map fun i => b ^ (j + i)) z = Qs b A s n j (chi N) (-z)
  | 0, _, z => by
    show chi N z = chi N (-z)
    rw [chi_neg]
  | n + 1, j, z => by
    rw [List.range_succ_eq_map, List.map_cons, List.map_map]
    show (sig A fun l => Gw N A s ((List.range n).map ((fun i => b ^ (j + i)) ∘ Nat.succ)) (z - ((l : Int) + s) * b ^ (j + 0))) = _
    rw [Qs]
    refine sig_congr fun l _ => ?_
    rw [show ((fun i => b ^ (j + i)) ∘ Nat.succ) = fun i => b ^ (j + 1 + i) from funext fun i => by show b ^ (j + (i + 1)) = _; congr 1; omega, Gw_Qs n (j + 1)]
    congr 1
    rw [Nat.add_zero, Int.mul_comm]
    omega
end
/-- the weights of the places -/
def wts (b N : Int) (low : Bool) (n : Nat) : List Int := if low then (List.range n).map fun i => b ^ i % N else ((List.range n).map fun i => b ^ i % N).reverse
theorem wts_len (b N : Int) (low : Bool) (n : Nat) : (wts b N low n).length = n := by
  unfold wts
  cases low <;> simp
theorem wts_lt {b N : Int} (hN : 0 < N) (low : Bool) (n : Nat) : ∀ w ∈ wts b N low n, 0 ≤ w ∧ w < N := fun w hw => by
  have h : w ∈ (List.range n).map fun i => b ^ i % N := by
    unfold wts at hw
    cases low with
    | true => exact hw
    | false => exact List.mem_reverse.mp hw
  obtain ⟨i, _, rfl⟩ := List.mem_map.mp h
  exact ⟨Int.emod_nonneg _ (by omega), Int.emod_lt_of_pos _ hN⟩
theorem cnt_Gw {N b s d : Int} {A : Nat} (hN : 0 < N) (low : Bool) (n : Nat) {x : Nat} (hx : x < N.toNat) : (cnt N b s d A n).getD x 0 = Gw N A s (wts b N low n) (x - d * b ^ n) := by
  rw [cnt_get hN n hx]
  have h1 : Gw N A s (wts b N low n) (x - d * b ^ n) = Gw N A s ((List.range n).map fun i => b ^ i % N) (x - d * b ^ n) := by
    unfold wts
    cases low with
    | true => rfl
    | false => exact Gw_perm (List.reverse_perm _) _
  rw [h1, show ((List.range n).map fun i => b ^ i % N) = ((List.range n).map fun i => b ^ (0 + i)).map (· % N) by rw [List.map_map]; refine List.map_congr_left fun i _ => ?_; show _ = b ^ (0 + i) % N; rw [Nat.zero_add], Gw_mod, Gw_Qs]
  congr 1
  omega
def wsum (s : Int) : List Int → List Int → Int
  | w :: ws, l :: ls => (l + s) * w + wsum s ws ls
  | _, _ => 0
theorem wsum_app (s : Int) : ∀ {ws ls : List Int} (vs ms : List Int), ws.length = ls.length → wsum s (ws ++ vs) (ls ++ ms) = wsum s ws ls + wsum s vs ms
  | [], [], vs, ms, _ => by simp [wsum]
  | w :: ws, l :: ls, vs, ms, h => by
    rw [List.cons_append, List.cons_append, wsum, wsum, wsum_app s vs ms (by simpa using h)]
    omega
theorem wsum_rev (s : Int) : ∀ {ws ls : List Int}, ws.length = ls.length → wsum s ws.reverse ls.reverse = wsum s ws ls
  | [], [], _ => rfl
  | w :: ws, l :: ls, h => by
    have h' : ws.length = ls.length := by simpa using h
    rw [List.reverse_cons, List.reverse_cons, wsum_app s _ _ (by simpa using h'), wsum_rev s h', show wsum s [w] [l] = (l + s) * w + 0 by simp [wsum], wsum]
    omega
theorem wsum_mod (s N : Int) : ∀ ws ls : List Int, ∃ k, wsum s (ws.map (· % N)) ls = wsum s ws ls + N * k
  | [], _ => ⟨0, by simp [wsum]⟩
  | _ :: _, [] => ⟨0, by simp [wsum]⟩
  | w :: ws, l :: ls => by
    obtain ⟨k, hk⟩ := wsum_mod s N ws ls
    refine ⟨k - (l + s) * (w / N), ?_⟩
    rw [List.map_cons, wsum, wsum, hk, Int.mul_sub]
    have := Int.mul_ediv_add_emod w N
    have h2 : (l + s) * w = (l + s) * (N * (w / N) + w % N) := by rw [this]
    rw [Int.mul_add, Int.mul_left_comm] at h2
    omega
theorem wsum_high (s b : Int) : ∀ ls : List Int, wsum s ((List.range ls.length).map fun i => b ^ i).reverse ls = hv (ls.map (· + s)) b
  | [] => rfl
  | l :: ls => by
    rw [List.length_cons, List.range_succ, List.map_append, List.reverse_append]
    show wsum s (b ^ ls.length :: ((List.range ls.length).map fun i => b ^ i).reverse) (l :: ls) = hv ((l + s) :: ls.map (· + s)) b
    rw [hv_cons, List.length_map, ← wsum_high s b ls]
    rfl
theorem mark_wsum {y : Sty} {b N : Int} (ls : List Int) : ∃ k, mark y b N ls = ld y * b ^ ls.length + wsum y.shift (wts b N y.low ls.length) ls + N * k := by
  have e0 : ((List.range ls.length).map fun i => b ^ i % N) = ((List.range ls.length).map fun i => b ^ i).map (· % N) := by rw [List.map_map]; rfl
  have key : ∃ k, wsum y.shift (wts b N y.low ls.length) ls = hv (if y.low then (ls.map (· + y.shift)).reverse else ls.map (· + y.shift)) b + N * k := by
    unfold wts
    cases y.low with
    | true =>
      obtain ⟨k, hk⟩ := wsum_mod y.shift N ((List.range ls.length).map fun i => b ^ i) ls
      refine ⟨k, ?_⟩
      rw [if_pos rfl, if_pos rfl, e0, hk]
      congr 1
      have h := wsum_high y.shift b ls.reverse
      rw [List.length_reverse] at h
      rw [← wsum_rev y.shift (ws := (List.range ls.length).map fun i => b ^ i) (ls := ls) (by simp), h, List.map_reverse]
    | false =>
      obtain ⟨k, hk⟩ := wsum_mod y.shift N ((List.range ls.length).map fun i => b ^ i).reverse ls
      refine ⟨k, ?_⟩
      rw [if_neg (by decide), if_neg (by decide), e0, ← List.map_reverse, hk, wsum_high]
  obtain ⟨k, hk⟩ := key
  have e1 : mark y b N ls = hv (hf y ls) b % N := rest_hv _ _ _
  have e2 : hv (hf y ls) b = ld y * b ^ ls.length + hv (if y.low then (ls.map (· + y.shift)).reverse else ls.map (· + y.shift)) b := by
    unfold hf
    rw [hv_cons]
    congr 2
    cases y.low <;> simp
  have e3 := Int.mul_ediv_add_emod (hv (hf y ls) b) N
  refine ⟨-(hv (hf y ls) b / N) - k, ?_⟩
  rw [e1, hk, Int.mul_sub, Int.mul_neg]
  omega
/-- the letters lead from z to a multiple of N -/
structure Gd (N : Int) (A : Nat) (s : Int) (ws : List Int) (z : Int) (ts : List Int) : Prop where
  len : ts.length = ws.length
  let' : ∀ t ∈ ts, 0 ≤ t ∧ t < A
  sum : (z - wsum s ws ts) % N = 0
def Rk (N : Int) (A : Nat) (s : Int) : List Int → Int → List Int → Int
  | w :: ws, z, l :: ls => (sig l.toNat fun i => Gw N A s ws (z - ((i : Int) + s) * w)) + Rk N A s ws (z - (l + s) * w) ls
  | _, _, _ => 0
theorem sig_mono {f : Nat → Int} (h : ∀ i, 0 ≤ f i) : ∀ {m n : Nat}, m ≤ n → sig m f ≤ sig n f
  | m, n, e => by
    induction n with
    | zero => rw [show m = 0 by omega]; exact Int.le_refl _
    | succ n ih =>
      by_cases c : m = n + 1
      · rw [c]; exact Int.le_refl _
      · rw [sig]
        have := ih (by omega)
        have := h n
        omega
section
variable {N s : Int} {A : Nat}
theorem Gd.tail {w l z : Int} {ws ls : List Int} (g : Gd N A s (w :: ws) z (l :: ls)) : Gd N A s ws (z - (l + s) * w) ls := by
  refine ⟨by simpa using g.len, fun t ht => g.let' t (List.mem_cons_of_mem _ ht), ?_⟩
  have := g.sum
  rw [wsum] at this
  rwa [show z - (l + s) * w - wsum s ws ls = z - ((l + s) * w + wsum s ws ls) by omega]
theorem Gd.cons {w l z : Int} {ws ls : List Int} (h0 : 0 ≤ l) (h1 : l < A) (g : Gd N A s ws (z - (l + s) * w) ls) : Gd N A s (w :: ws) z (l :: ls) := by
  refine ⟨by simpa using g.len, fun t ht => ?_, ?_⟩
  · rcases List.mem_cons.mp ht with e | e
    · rw [e]; exact ⟨h0, h1⟩
    · exact g.let' t e
  · have := g.sum
    rw [wsum]
    rwa [show z - ((l + s) * w + wsum s ws ls) = z - (l + s) * w - wsum s ws ls by omega]
theorem Rk_lt : ∀ {ws : List Int} {z : Int} {ts : List Int}, Gd N A s ws z ts → 0 ≤ Rk N A s ws z ts ∧ Rk N A s ws z ts < Gw N A s ws z
  | [], z, ts, g => by
    have h := g.sum
    rw [show wsum s [] ts = 0 by simp [wsum], Int.sub_zero] at h
    rw [show Rk N A s [] z ts = 0 by simp [Rk], Gw, chi, if_pos h]
    decide
  | w :: ws, z, [], g => by have := g.len; simp at this
  | w :: ws, z, l :: ls, g => by
    obtain ⟨l0, l1⟩ := g.let' l (List.mem_cons_self ..)
    obtain ⟨h1, h2⟩ := Rk_lt g.tail
    have hn : ∀ i : Nat, 0 ≤ (fun i : Nat => Gw N A s ws (z - ((i : Int) + s) * w)) i := fun i => Gw_nonneg _ _
    have h3 := sig_nonneg (n := l.toNat) fun i _ => hn i
    have h4 := sig_mono hn (show l.toNat + 1 ≤ A by omega)
    rw [sig] at h4
    try dsimp only at h4
    try dsimp only at h3
    rw [Int.toNat_of_nonneg l0] at h4
    rw [Rk, Gw]
    omega
theorem Rk_mono : ∀ {ws : List Int} {z : Int} {ts us : List Int}, Gd N A s ws z ts → Gd N A s ws z us → HT.lexLt ts us = true → Rk N A s ws z ts < Rk N A s ws z us
  | [], z, ts, us, g, g', h => by
    have e1 : ts = [] := List.length_eq_zero_iff.mp g.len
    have e2 : us = [] := List.length_eq_zero_iff.mp g'.len
    rw [e1, e2] at h
    exact absurd h (by decide)
  | w :: ws, z, [], us, g, _, _ => by have := g.len; simp at this
  | w :: ws, z, _ :: _, [], _, g', _ => by have := g'.len; simp at this
  | w :: ws, z, l :: ls, m :: ms, g, g', h => by
    obtain ⟨l0, l1⟩ := g.let' l (List.mem_cons_self ..)
    obtain ⟨m0, m1⟩ := g'.let' m (List.mem_cons_self ..)
    rw [HT.lexLt] at h
    by_cases e : l = m
    · subst e
      rw [if_pos rfl] at h
      have := Rk_mono g.tail g'.tail h
      rw [Rk, Rk]
      omega
    · rw [if_neg e] at h
      have h := of_decide_eq_true h
      obtain ⟨h1, h2⟩ := Rk_lt g.tail
      obtain ⟨h3, h4⟩ := Rk_lt g'.tail
      have hn : ∀ i : Nat, 0 ≤ (fun i : Nat => Gw N A s ws (z - ((i : Int) + s) * w)) i := fun i => Gw_nonneg _ _
      have h5 := sig_mono hn (show l.toNat + 1 ≤ m.toNat by omega)
      rw [sig] at h5
      try dsimp only at h5
      rw [Int.toNat_of_nonneg l0] at h5
      rw [Rk, Rk]
      omega
end
theorem lex_tot : ∀ {ts us : List Int}, ts.length = us.length → ts ≠ us → HT.lexLt ts us = true ∨ HT.lexLt us ts = true
  | [], [], _, h => absurd rfl h
  | l :: ls, m :: ms, e, h => by
    rw [HT.lexLt, HT.lexLt]
    by_cases c : l = m
    · subst c
      rw [if_pos rfl, if_pos rfl]
      exact lex_tot (by simpa using e) fun z => h (by rw [z])
    · rw [if_neg c, if_neg (fun z => c z.symm)]
      by_cases d : l < m
      · exact .inl (decide_eq_true d)
      · exact .inr (decide_eq_true (by omega))
section
variable {N s : Int} {A : Nat}
theorem Rk_inj {ws : List Int} {z : Int} {ts us : List Int} (g : Gd N A s ws z ts) (g' : Gd N A s ws z us) (h : Rk N A s ws z ts = Rk N A s ws z us) : ts = us := by
  refine Classical.byContradiction fun c => ?_
  rcases lex_tot (g.len.trans g'.len.symm) c with e | e
  · have := Rk_mono g g' e
    omega
  · have := Rk_mono g' g e
    omega
theorem lex_of_Rk {ws : List Int} {z : Int} {ts us : List Int} (g : Gd N A s ws z ts) (g' : Gd N A s ws z us) (h : Rk N A s ws z ts < Rk N A s ws z us) : HT.lexLt ts us = true := by
  by_cases c : ts = us
  · rw [c] at h; omega
  · rcases lex_tot (g.len.trans g'.len.symm) c with e | e
    · exact e
    · have := Rk_mono g' g e
      omega
theorem Rk_per : ∀ (ws : List Int) (z k : Int) (ts : List Int), Rk N A s ws (z + N * k) ts = Rk N A s ws z ts
  | [], _, _, _ => by simp [Rk]
  | _ :: _, _, _, [] => by simp [Rk]
  | w :: ws, z, k, l :: ls => by
    rw [Rk, Rk, show z + N * k - (l + s) * w = z - (l + s) * w + N * k by omega, Rk_per ws]
    congr 1
    refine sig_congr fun i _ => ?_
    rw [show z + N * k - ((i : Int) + s) * w = z - ((i : Int) + s) * w + N * k by omega]
    exact (Gw_per ws).mul _ _
theorem Gd.move {ws : List Int} {z : Int} {ts : List Int} (g : Gd N A s ws z ts) (k : Int) : Gd N A s ws (z + N * k) ts := by
  refine ⟨g.len, g.let', ?_⟩
  rw [show z + N * k - wsum s ws ts = z - wsum s ws ts + N * k by omega, Int.add_mul_emod_self_left]
  exact g.sum
/-- the marks of the texts that are counted -/
theorem gd_mark {y : Sty} {b m : Int} {ts : List Int} (hm : 0 ≤ m ∧ m < N) (hl : ∀ t ∈ ts, 0 ≤ t ∧ t < A) : Gd N A y.shift (wts b N y.low ts.length) (m - ld y * b ^ ts.length) ts ↔ mark y b N ts = m := by
  obtain ⟨k, hk⟩ := mark_wsum (y := y) (b := b) (N := N) ts
  have hr := rest_range (b := b) (show 0 < N by omega) (hf y ts)
  have hr : 0 ≤ mark y b N ts ∧ mark y b N ts < N := hr
  constructor
  · intro g
    have h := g.sum
    have e : m - ld y * b ^ ts.length - wsum y.shift (wts b N y.low ts.length) ts = m - mark y b N ts + N * k := by omega
    rw [e, Int.add_mul_emod_self_left] at h
    have h2 := (Int.emod_eq_emod_iff_emod_sub_eq_zero).mpr h
    rw [Int.emod_eq_of_lt hm.1 hm.2, Int.emod_eq_of_lt hr.1 hr.2] at h2
    exact h2.symm
  · intro e
    refine ⟨(wts_len ..).symm, hl, ?_⟩
    rw [show m - ld y * b ^ ts.length - wsum y.shift (wts b N y.low ts.length) ts = 0 + N * k by omega, Int.add_mul_emod_self_left, Int.zero_emod]
end

end Bc
namespace Bc
open PySem PySem.Spec PyProof.Rows L2
/-! ### k64: the class Sorted, promises -/
structure Ks (K : PySem.W.Frag) (mg : Str → Option Value) (Cs : Addr) : Prop where
  cl : ClsF K Cs
  mgS : mg "Sorted" = some (.ref Cs)
  way : NoAttr K Cs "way"
  stock : NoAttr K Cs "stock"
  scales : NoAttr K Cs "scales"
  lead : NoAttr K Cs "lead"
  counts : NoAttr K Cs "counts"
def srF (x : Addr) (A : Int) (sc : Addr) (L : Int) (ct : Addr) : List (Str × V) := [("way", .ref x), ("stock", .int A), ("scales", .ref sc), ("lead", .int L), ("counts", .ref ct)]
section
variable {x sc ct : Addr} {A L : Int}
theorem sr_way : (srF x A sc L ct).lookup ("way" : Str) = some (.ref x) := lk0
theorem sr_stock : (srF x A sc L ct).lookup ("stock" : Str) = some (.int A) := (lkS (by decide +kernel)).trans lk0
theorem sr_scales : (srF x A sc L ct).lookup ("scales" : Str) = some (.ref sc) := (lkS (by decide +kernel)).trans ((lkS (by decide +kernel)).trans lk0)
theorem sr_lead : (srF x A sc L ct).lookup ("lead" : Str) = some (.int L) := (lkS (by decide +kernel)).trans ((lkS (by decide +kernel)).trans ((lkS (by decide +kernel)).trans lk0))
theorem sr_counts : (srF x A sc L ct).lookup ("counts" : Str) = some (.ref ct) := (lkS (by decide +kernel)).trans ((lkS (by decide +kernel)).trans ((lkS (by decide +kernel)).trans ((lkS (by decide +kernel)).trans lk0)))
theorem sr_no {m : Str} (h1 : m ≠ ("way" : Str)) (h2 : m ≠ ("stock" : Str)) (h3 : m ≠ ("scales" : Str)) (h4 : m ≠ ("lead" : Str)) (h5 : m ≠ ("counts" : Str)) : (srF x A sc L ct).lookup m = none := (lkS h1).trans ((lkS h2).trans ((lkS h3).trans ((lkS h4).trans ((lkS h5).trans rfl))))
theorem sr_put {ct' : Addr} : putF ("counts" : Str) (.ref ct') (srF x A sc L ct) = srF x A sc L ct' := by
  unfold srF
  rw [putS (by decide +kernel), putS (by decide +kernel), putS (by decide +kernel), putS (by decide +kernel)]
  congr 4
end
/-- a row of counts -/
def RowAt (N : Int) (A : Nat) (s : Int) (H : Hp) (ws : List Int) (p : Addr) : Prop := ∃ xs : List Int, H p = some (.lst (xs.map V.int)) ∧ xs.length = N.toNat ∧ ∀ i, i < N.toNat → xs.getD i 0 = Gw N A s ws i
theorem RowAt.same {N s : Int} {A : Nat} {H H' : Hp} {ws : List Int} {p : Addr} (h : RowAt N A s H ws p) (e : Same H H') : RowAt N A s H' ws p := by
  obtain ⟨xs, h1, h2⟩ := h
  exact ⟨xs, e _ _ h1, h2⟩
theorem ints_refs {xs : List Int} {cs : List Addr} (h : cs ≠ []) : xs.map V.int ≠ cs.map V.ref := fun e => by
  cases cs with
  | nil => exact h rfl
  | cons c r =>
    cases xs with
    | nil => cases e
    | cons x t =>
      rw [List.map_cons, List.map_cons] at e
      injection e with e1
      cases e1
theorem lst_ne {H : Hp} {p q : Addr} {xs : List Int} {cs : List Addr} (h : cs ≠ []) (h1 : H p = some (.lst (xs.map V.int))) (h2 : H q = some (.lst (cs.map V.ref))) : p ≠ q := fun e => by
  rw [e, h2] at h1
  have := Option.some.inj h1
  injection this with this
  exact ints_refs h this.symm
theorem RowAt.up {N s : Int} {A : Nat} {H : Hp} {ws : List Int} {p q : Addr} {cs : List Addr} {o : HO} (h : RowAt N A s H ws p) (hc : cs ≠ []) (hq : H q = some (.lst (cs.map V.ref))) : RowAt N A s (upd H q o) ws p := by
  obtain ⟨xs, h1, h2⟩ := h
  exact ⟨xs, by rw [upd_ne (lst_ne hc h1 hq)]; exact h1, h2⟩
theorem RowAt.ins {N s : Int} {A : Nat} {H : Hp} {ws : List Int} {p q C dx : Addr} {fs : List (Str × V)} {o : HO} (h : RowAt N A s H ws p) (hq : H q = some (.ins C dx fs)) : RowAt N A s (upd H q o) ws p := by
  obtain ⟨xs, h1, h2⟩ := h
  exact ⟨xs, by rw [upd_ne (fun e => by rw [e, hq] at h1; cases h1)]; exact h1, h2⟩
theorem WayAt.out {c : CA} {H : Hp} {o C dx x : Addr} {b : Int} {ps : List (Int × Int)} {y : Sty} (h : WayAt c H x b ps y) (ho : H o = some (.ins C dx [])) : WayAt c (Bc.rm o H) x b ps y := by
  obtain ⟨d, m, k, h1, ⟨dm, t, ts, h2, h3, h4, h5⟩, ⟨dk, h6⟩, h7⟩ := h
  have ni : ∀ {a C' d' : Addr} {f : Str} {v : V} {r : List (Str × V)}, H a = some (.ins C' d' ((f, v) :: r)) → a ≠ o := fun {a C' d' f v r} e z => by
    rw [z, ho] at e
    have := Option.some.inj e
    injection this with _ _ w
    cases w
  have nt : ∀ {a : Addr} {xs : List V}, H a = some (.tup xs) → a ≠ o := fun {a xs} e z => by rw [z, ho] at e; cases e
  exact ⟨d, m, k, rm_of (ni h1) h1, ⟨dm, t, ts, rm_of (ni h2) h2, rm_of (nt h3) h3, paired_imp (fun _ _ z => rm_of (nt z) z) h4, h5⟩, ⟨dk, rm_of (ni h6) h6⟩, h7⟩
/-- a Sorted of a way -/
def SrAt (c : CA) (Cs : Addr) (H : Hp) (o x : Addr) (A : Int) (n : Nat) (b : Int) (ps : List (Int × Int)) (y : Sty) : Prop := ∃ (dx sc ct : Addr) (cs : List Addr) (k : Int), H o = some (.ins Cs dx (srF x A sc (ld y * b ^ n + num ps * k) ct)) ∧ WayAt c H x b ps y ∧ H sc = some (.lst ((wts b (num ps) y.low n).map V.int)) ∧ H ct = some (.lst (cs.map V.ref)) ∧ cs.length = n + 1 ∧
  ∀ (i : Nat) (p : Addr), cs[i]? = some p → RowAt (num ps) A.toNat y.shift H ((wts b (num ps) y.low n).drop i) p
theorem SrAt.same {c : CA} {Cs : Addr} {H H' : Hp} {o x : Addr} {A : Int} {n : Nat} {b : Int} {ps : List (Int × Int)} {y : Sty} (h : SrAt c Cs H o x A n b ps y) (e : Same H H') : SrAt c Cs H' o x A n b ps y := by
  obtain ⟨dx, sc, ct, cs, k, h1, h2, h3, h4, h5, h6⟩ := h
  exact ⟨dx, sc, ct, cs, k, e _ _ h1, h2.same e, e _ _ h3, e _ _ h4, h5, fun i p z => (h6 i p z).same e⟩
def spWts (c : CA) : Sp := fun vs H Q _ => ∃ (x : Addr) (n : Nat) (b : Int) (ps : List (Int × Int)) (y : Sty), vs = [.ref x, .int n] ∧ WayAt c H x b ps y ∧ num ps ≤ 2000 ∧ n ≤ 1000 ∧ ∀ H' l, Same H H' → H' l = some (.lst ((wts b (num ps) y.low n).map V.int)) → Q (.ref l) H'
def spSummand (c : CA) (Cs : Addr) : Sp := fun vs H Q _ => ∃ (o dx x : Addr) (fs : List (Str × V)) (w l b : Int) (ps : List (Int × Int)) (y : Sty), vs = [.ref o, .int w, .int l] ∧ H o = some (.ins Cs dx fs) ∧ fs.lookup ("way" : Str) = some (.ref x) ∧ WayAt c H x b ps y ∧ num ps ≤ 2000 ∧ 0 ≤ w ∧ w < num ps ∧ Q (.int ((l + y.shift) * w % num ps)) H
def spAhead (c : CA) (Cs : Addr) : Sp := fun vs H Q _ => ∃ (o dx x p : Addr) (fs : List (Str × V)) (w A b : Int) (ps : List (Int × Int)) (y : Sty) (ws : List Int), vs = [.ref o, .int w, .ref p] ∧ H o = some (.ins Cs dx fs) ∧ fs.lookup ("way" : Str) = some (.ref x) ∧ fs.lookup ("stock" : Str) = some (.int A) ∧ fs.lookup ("summand" : Str) = none ∧ WayAt c H x b ps y ∧ num ps ≤ 2000 ∧ 1 ≤ A ∧ A ≤ 1000 ∧ 0 ≤ w ∧ w < num ps ∧ RowAt (num ps) A.toNat y.shift H ws p ∧
  ∀ H' l, H l = none → Same H H' → RowAt (num ps) A.toNat y.shift H' (w :: ws) l → Q (.ref l) H'
def spSrInit (c : CA) (Cs : Addr) : Sp := fun vs H Q _ => ∃ (o dx x : Addr) (A b : Int) (n : Nat) (ps : List (Int × Int)) (y : Sty), vs = [.ref o, .ref x, .int A, .int n] ∧ H o = some (.ins Cs dx []) ∧ WayAt c H x b ps y ∧ num ps ≤ 2000 ∧ 1 ≤ A ∧ A ≤ 1000 ∧ n ≤ 1000 ∧
  ∀ H', (∀ b o', b ≠ o → H b = some o' → H' b = some o') → SrAt c Cs H' o x A n b ps y → Q .non H'
theorem use_sr {c : CA} {Cs : Addr} {H : Hp} {PP : Addr → Hp → Prop} {E : XK} {x : Addr} {A b : Int} {n : Nat} {ps : List (Int × Int)} {y : Sty} (hw : WayAt c H x b ps y) (hN : num ps ≤ 2000) (A1 : 1 ≤ A) (A2 : A ≤ 1000) (hn : n ≤ 1000) (q : ∀ o H', H o = none → Same H H' → SrAt c Cs H' o x A n b ps y → PP o H') :
    ∀ o dx, H o = none → H dx = none → dx ≠ o → spSrInit c Cs [.ref o, .ref x, .int A, .int n] (upd (upd H dx (.own o)) o (.ins Cs dx [])) (fun v H2 => v = .non ∧ PP o H2) E := fun o dx nx nd ne => by
  have up : Same H (upd (upd H dx (.own o)) o (.ins Cs dx [])) := fun b o' e => by rw [upd_ne (ne_of_none e nx), upd_ne (ne_of_none e nd)]; exact e
  exact ⟨o, dx, x, A, b, n, ps, y, rfl, upd_same, hw.same up, hN, A1, A2, hn, fun H' k h => ⟨rfl, q o H' nx (mk_same nx nd k) h⟩⟩
def spTextAt (c : CA) (Cs : Addr) : Sp := fun vs H Q _ => ∃ (o x : Addr) (m k A b : Int) (n : Nat) (ps : List (Int × Int)) (y : Sty), vs = [.ref o, .int m, .int k] ∧ SrAt c Cs H o x A n b ps y ∧ num ps ≤ 2000 ∧ 1 ≤ A ∧ A ≤ 1000 ∧ n ≤ 1000 ∧ 0 ≤ k ∧ k < Gw (num ps) A.toNat y.shift (wts b (num ps) y.low n) (m - ld y * b ^ n) ∧
  ∀ H' p ts, H p = none → Same H H' → H' p = some (.tup (ts.map V.int)) → Gd (num ps) A.toNat y.shift (wts b (num ps) y.low n) (m - ld y * b ^ n) ts → Rk (num ps) A.toNat y.shift (wts b (num ps) y.low n) (m - ld y * b ^ n) ts = k → Q (.ref p) H'
def spNumM (c : CA) (Cs : Addr) : Sp := fun vs H Q _ => ∃ (o x p : Addr) (A b : Int) (ts : List Int) (ps : List (Int × Int)) (y : Sty), vs = [.ref o, .ref p] ∧ SrAt c Cs H o x A ts.length b ps y ∧ num ps ≤ 2000 ∧ 1 ≤ A ∧ A ≤ 1000 ∧ ts.length ≤ 1000 ∧ H p = some (.tup (ts.map V.int)) ∧ (∀ t ∈ ts, 0 ≤ t ∧ t < A) ∧
  ∀ H', Same H H' → Q (.int (Rk (num ps) A.toNat y.shift (wts b (num ps) y.low ts.length) (mark y b (num ps) ts - ld y * b ^ ts.length) ts)) H'
def spCountM (c : CA) : Sp := fun vs H Q _ => ∃ (x : Addr) (A m b : Int) (n : Nat) (ps : List (Int × Int)) (y : Sty), vs = [.ref x, .int A, .int n, .int m] ∧ WayAt c H x b ps y ∧ num ps ≤ 2000 ∧ 1 ≤ A ∧ A ≤ 1000 ∧ n ≤ 1000 ∧ 0 ≤ m ∧ m < num ps ∧ ∀ H', Same H H' → Q (.int ((cnt (num ps) b y.shift (ld y) A.toNat n).getD m.toNat 0)) H'
/-- the text with the number k among those with the mark m -/
def NthT (N : Int) (A : Nat) (y : Sty) (b : Int) (n : Nat) (m k : Int) (ts : List Int) : Prop := Gd N A y.shift (wts b N y.low n) (m - ld y * b ^ n) ts ∧ Rk N A y.shift (wts b N y.low n) (m - ld y * b ^ n) ts = k
def spMarkedT (c : CA) : Sp := fun vs H Q _ => ∃ (x : Addr) (A m k b : Int) (n : Nat) (ps : List (Int × Int)) (y : Sty), vs = [.ref x, .int A, .int n, .int m, .int k] ∧ WayAt c H x b ps y ∧ num ps ≤ 2000 ∧ 1 ≤ A ∧ A ≤ 1000 ∧ n ≤ 1000 ∧ 0 ≤ m ∧ m < num ps ∧ 0 ≤ k ∧ k < (cnt (num ps) b y.shift (ld y) A.toNat n).getD m.toNat 0 ∧
  ∀ H' p ts, H p = none → Same H H' → H' p = some (.tup (ts.map V.int)) → NthT (num ps) A.toNat y b n m k ts → Q (.ref p) H'
def spNumberOf (c : CA) : Sp := fun vs H Q _ => ∃ (x : Addr) (v : V) (A b : Int) (ts : List Int) (ps : List (Int × Int)) (y : Sty), vs = [.ref x, .int A, v] ∧ WayAt c H x b ps y ∧ num ps ≤ 2000 ∧ 1 ≤ A ∧ A ≤ 1000 ∧ TextAt H v ts ∧ ts.length ≤ 1000 ∧ (∀ t ∈ ts, 0 ≤ t ∧ t < A) ∧
  ∀ H', Same H H' → Q (.int (Rk (num ps) A.toNat y.shift (wts b (num ps) y.low ts.length) (mark y b (num ps) ts - ld y * b ^ ts.length) ts)) H'
theorem NthT.mark {N : Int} {A : Nat} {y : Sty} {b : Int} {n : Nat} {m k : Int} {ts : List Int} (h : NthT N A y b n m k ts) (hm : 0 ≤ m ∧ m < N) : ts.length = n ∧ Bc.mark y b N ts = m ∧ Rk N A y.shift (wts b N y.low ts.length) (Bc.mark y b N ts - ld y * b ^ ts.length) ts = k := by
  obtain ⟨g, r⟩ := h
  have hl : ts.length = n := g.len.trans (wts_len ..)
  subst hl
  have e := (gd_mark hm g.let').mp g
  exact ⟨rfl, e, by rw [e]; exact r⟩
theorem NthT.lex {N : Int} {A : Nat} {y : Sty} {b : Int} {n : Nat} {m k k' : Int} {ts us : List Int} (h : NthT N A y b n m k ts) (h' : NthT N A y b n m k' us) (hk : k < k') : HT.lexLt ts us = true :=
  lex_of_Rk h.1 h'.1 (by rw [h.2, h'.2]; exact hk)
/-- where a sum over the rests below N picks one -/
theorem sig_row {N : Int} (hN : 0 < N) (xs : List Int) (d : Int) {x : Nat} (hx : x < N.toNat) : (sig N.toNat fun i => if (((i : Int) + d) % N).toNat = x then xs.getD i 0 else 0) = xs.getD (((x : Int) - d) % N).toNat 0 := by
  have h1 := Int.emod_nonneg ((x : Int) - d) (show N ≠ 0 by omega)
  have h2 := Int.emod_lt_of_pos ((x : Int) - d) hN
  rw [sig_congr (g := fun i => if i = (((x : Int) - d) % N).toNat then xs.getD i 0 else 0) fun i hi => ?_, sig_pick (fun i => xs.getD i 0), if_pos (by omega)]
  have e : (((i : Int) + d) % N).toNat = x ↔ i = (((x : Int) - d) % N).toNat := by
    have h3 := Int.emod_nonneg ((i : Int) + d) (show N ≠ 0 by omega)
    have h4 := Int.emod_lt_of_pos ((i : Int) + d) hN
    have a1 := Int.mul_ediv_add_emod ((i : Int) + d) N
    have a2 := Int.mul_ediv_add_emod ((x : Int) - d) N
    constructor
    · intro z
      have z : ((i : Int) + d) % N = x := by omega
      have : ((x : Int) - d) % N = (i : Int) % N := by
        rw [show (x : Int) - d = i + N * (-(((i : Int) + d) / N)) by rw [Int.mul_neg]; omega, Int.add_mul_emod_self_left]
      rw [this, Int.emod_eq_of_lt (by omega) (by omega)]
      omega
    · intro z
      have z : (i : Int) = ((x : Int) - d) % N := by omega
      have : ((i : Int) + d) % N = (x : Int) % N := by
        rw [show (i : Int) + d = x + N * (-(((x : Int) - d) / N)) by rw [Int.mul_neg]; omega, Int.add_mul_emod_self_left]
      rw [this, Int.emod_eq_of_lt (by omega) (by omega)]
      omega
  by_cases c : (((i : Int) + d) % N).toNat = x
  · rw [if_pos c, if_pos (e.mp c)]
  · rw [if_neg c, if_neg fun z => c (e.mpr z)]
theorem sub_mod (z t N : Int) : (z - t % N) % N = (z - t) % N := by
  have := Int.mul_ediv_add_emod t N
  rw [show z - t % N = z - t + N * (t / N) by omega, Int.add_mul_emod_self_left]
theorem row_read {N s : Int} {A : Nat} {H : Hp} {ws : List Int} {p : Addr} {K : PySem.W.Frag} {z : Int} {Q : VK} (hN : 0 < N) (h : RowAt N A s H ws p) (q : Q (.int (Gw N A s ws z)) H) : rIxL K (.ref p) (.int (z % N)) H Q := by
  obtain ⟨xs, h1, h2, h3⟩ := h
  have h4 := Int.emod_nonneg z (show N ≠ 0 by omega)
  have h5 := ix_lt hN z
  refine w_ixL (xs := xs.map V.int) (sq h1) (atI_map (x := xs.getD (z % N).toNat 0) h4 ?_) ?_
  · rw [List.getD_eq_getElem?_getD, List.getElem?_eq_getElem (by omega)]
    rfl
  · rw [h3 _ h5, Int.toNat_of_nonneg h4, per_mod (Gw_per ws)]
    exact q
def spTextR (c : CA) : Sp := fun vs H Q _ => ∃ (x : Addr) (A m k b : Int) (n : Nat) (ps : List (Int × Int)) (y : Sty), vs = [.ref x, .int A, .int n, .int m, .int k] ∧ WayAt c H x b ps y ∧ num ps ≤ 2000 ∧ 1 ≤ A ∧ A ≤ 1000 ∧ n ≤ 1000 ∧ 0 ≤ m ∧ m < num ps ∧ 0 ≤ k ∧ k < (cnt (num ps) b y.shift (ld y) A.toNat n).getD m.toNat 0 ∧ ∀ H', Same H H' → Q (.bl true) H'
theorem bump_zero {ys : List Int} (i : Nat) : bump ys i 0 = ys := by
  unfold bump
  rw [Int.add_zero]
  apply List.ext_getElem
  · rw [List.length_set]
  · intro j h1 h2
    rw [List.getElem_set]
    split
    · rename_i e
      subst e
      rw [List.getD_eq_getElem?_getD, List.getElem?_eq_getElem h2]
      rfl
    · rfl
theorem cIn_none {N b s r : Int} {A : Nat} {ys : List Int} (_ : 0 < N) (_ : ys.length = N.toNat) : cIn N b s r 0 A ys = ys := by
  induction A with
  | zero => rfl
  | succ A ih => rw [cIn_succ, ih, bump_zero]

end Bc
namespace Bc
open PySem PySem.Spec PyProof.Rows L2
/-! ### errors kept as values behind the clause that caught them -/
def exk (a : Addr) (cls : Value) (d : Option Addr) : HO := .ext fun h => ∃ (oe : Obj) (vs : Array Value), h.get? a = some oe ∧ Zc cls d oe ∧ oe.data = .fields vs
theorem exk_ok {P : Program} {w : World} {H : Hp} {h : Heap} {a : Addr} {cls : Value} {d : Option Addr} {oe : Obj} {vs : Array Value} (e : h.get? a = some oe) (z : Zc cls d oe) (dt : oe.data = .fields vs) : ObjOk P w H h a (exk a cls d) :=
  ⟨⟨oe, vs, e, z, dt⟩, ⟨oe, e⟩, fun _ _ ⟨o, v, q, r⟩ k => ⟨o, v, k o q, r⟩⟩
theorem exk_at {P : Program} {w : World} {H : Hp} {h : Heap} {a : Addr} {cls : Value} {d : Option Addr} (hok : HOk P w H h) (he : H a = some (exk a cls d)) : ∃ (oe : Obj) (vs : Array Value), h.get? a = some oe ∧ Zc cls d oe ∧ oe.data = .fields vs := (hok a _ he).1
theorem Inv.track {X : Cx} {pins : List (Addr × Obj)} {σ : L2.St} {H : Hp} {s : Shared} {a : Addr} {oe : Obj} {vs : Array Value} {o : HO} (I : Inv X pins σ H s) (he : s.heap.get? a = some oe) (hd : oe.data = .fields vs) (hn : H a = none) (h0 : X.s_0.heap.get? a = none) (nL : a ≠ X.env.locals) (np : ∀ p ∈ X.pn ++ pins, p.1 ≠ a)
    (new : ObjOk X.prog X.w (upd H a o) s.heap a o) : Inv X pins σ (upd H a o) s where
  ok := I.ok
  os := I.os
  bare := I.bare
  base := {
    keep := I.base.keep
    slot := I.base.slot
    free := fun b u q n x => by rw [upd_ne (fun z => by rw [z, h0] at q; cases q)]; exact I.base.free b u q n x
    there := I.base.there
    tups := fun b xs q => by
      have h := I.base.tups b xs q
      rw [upd_ne (ne_of_none h hn)]
      exact h
    frzs := fun b u xs q => by
      have h := I.base.frzs b u xs q
      rw [upd_ne (ne_of_none h hn)]
      exact h
    tbls := fun b ps q => by
      obtain ⟨more, h⟩ := I.base.tbls b ps q
      exact ⟨more, by rw [upd_ne (ne_of_none h hn)]; exact h⟩ }
  loc := I.loc
  cell := I.cell
  free := by rw [upd_ne nL.symm]; exact I.free
  freeC := fun x c hc => by
    obtain ⟨v, hv⟩ := I.cell x c hc
    rw [upd_ne (fun z => ?_)]
    · exact I.freeC x c hc
    · subst z
      obtain ⟨oc, h1, h2⟩ := hv
      rw [he] at h1
      cases h1
      rw [hd] at h2
      simp at h2
  pin := fun p hp => by
    obtain ⟨h1, h2, h3⟩ := I.pin p hp
    exact ⟨h1, by rw [upd_ne (np p hp)]; exact h2, h3⟩
  hok := I.hok.laidN (fun _ _ z => z) hn new
  len := I.len
def clEndsK (a : Addr) (cls : Value) (d : Option Addr) (i : Option Nat) (D : Ends) : Ends := match i with
  | none => D
  | some i => { nx := fun σ' H' => D.nx (σ'.set i none) (upd H' a (exk a cls d)), rt := fun v H' => D.rt v (upd H' a (exk a cls d)), bk := fun σ' H' => D.bk (σ'.set i none) (upd H' a (exk a cls d)), ct := fun σ' H' => D.ct (σ'.set i none) (upd H' a (exk a cls d)) }
def wClsK (K : PySem.W.Frag) (Wout : WX) (D : Ends) : List Cl → WX
  | [] => Wout
  | k :: r => fun cls d σ H => ∃ b, PySem.W.exmOne K cls k.c = some b ∧ (b = true → ∀ a, H a = none → k.ts a cls d (clEndsK a cls d k.i D) (clSlot k.i a σ) H) ∧ (b = false → wClsK K Wout D r cls d σ H)
section
variable {X : Cx} {body : List Stmt} {h₀ : ExceptHandler} {hds : List ExceptHandler} {l : List Cl} {pos : Pos} {tb : WX → TS} {Wout : WX}
theorem ps_try_kp (hx : X.ex = []) (hs : X.stack = X.env :: X.outer) (hf : X.env.frame = some X.env.locals) (tk : Takes X Wout)
    (hb : ∀ (W : WX) (pn : List (Addr × Obj)) (xe : Value → Shared → Prop), Takes (X.tr pn xe) W → PassesOwn (model X.prog X.w) X.A X.env xe → PSs (X.tr pn xe) body (tb W))
    (hh : ClsOk X (h₀ :: hds) l) : PS X (.Try body (h₀ :: hds) [] [] pos) (fun D σ H => tb (wClsK X.K Wout D l) D σ H) := by
  refine ⟨fun pins s σ H D I h => ?_⟩
  have ok := I.ok
  have hfr : X.A.frames = some (X.env :: X.outer) := by rw [ok.frames, hs]
  refine wpAny_Try_except ?_
  refine wpAny_mono ((hb (wClsK X.K Wout D l) (X.pn ++ pins) (fun e s₁ => wpAny (model X.prog X.w) X.A (noteFrame e X.env) (fun _ s₂ => wpAny (model X.prog X.w) X.A (setFlight e none) (fun _ s₃ =>
    wpAny (model X.prog X.w) X.A (handleBy e X.env (h₀ :: hds)) (SP X pins D) X.xe s₃) X.xe s₂) X.xe s₁) (fun u s' xx => ?_) PassesOwn.looking).run [] s σ H D (I.toTry _) h) (fun f s1 hsp => ?_) (fun e s1 he => he)
  · obtain ⟨a, B, sI, pins', σ', H', cls, d, rfl, J', nb, up, sky, na, os, ag, w⟩ := xx
    have J : Inv X pins σ' H' sI := J'.ofTry ok
    have sky' : Sky B (X.env :: X.outer) a (Zc cls d) X.env.locals s'.heap := by rw [← hs]; exact sky
    show wpAny (model X.prog X.w) X.A (noteFrame (.ref a) X.env) _ _ _
    refine Sky.land Zc.steady hfr hf sky' fun h3 fl3 up3 => ?_
    have J3 : Inv X pins σ' H' { s' with heap := h3 } := J.landed nb fl3.1 (up.trans up3) os ag
    obtain ⟨oe3, vs3, he3, hz3, hd3⟩ := fl3.there
    have nfr : a ∉ frs (X.env :: X.outer) := fun hm => by
      obtain ⟨_, o', e', hnf⟩ := fl3.2.2.1.mem hm
      rw [he3] at e'
      cases e'
      exact hnf _ hd3
    have nL : a ≠ X.env.locals := fun z => nfr (List.mem_filterMap.mpr ⟨X.env, List.mem_cons_self, by rw [hf, z]⟩)
    have nF : a ∉ X.fs := fun hm => by
      obtain ⟨e, he, q⟩ := List.mem_filterMap.mp hm
      exact nfr (List.mem_filterMap.mpr ⟨e, List.mem_cons_of_mem _ he, q⟩)
    have S3 := J3.suite he3 hd3 na nL nF
    have LT : PySem.W.Looks (model X.prog X.w) h3 (typeOf (.ref a)) cls := fun A Q E s k q => wpAny_typeOf_ref (k _ _ he3) (by rw [hz3.1]; exact q)
    have test : ∀ {x : Str} {c : Value} {np : Pos} {Q : Value → Shared → Prop} {E : Value → Shared → Prop}, Names X x c → Q c { s' with heap := h3 } → wpAny (model X.prog X.w) (X.A.mark (some (.ref a))) (eval (.Name x np) X.env) Q E { s' with heap := h3 } := fun {x c np Q E} hc q => by
      obtain ⟨hg, hdbg, hm | ⟨hm, hv, hnn⟩⟩ := hc
      · exact ld_glob (X := X.suite a ((a, oe3) :: (X.pn ++ pins))) S3 hg hm q hdbg
      · exact ld_blt (X := X.suite a ((a, oe3) :: (X.pn ++ pins))) S3 hg hm hv q hnn hdbg
    have nI : sI.heap.get? a = none := by
      cases q0 : sI.heap.get? a with
      | none => rfl
      | some o0 =>
        have z := nb a o0 q0 (by rw [hs]; exact nfr)
        rw [fl3.2.1] at z
        cases z
    have n0 : X.s_0.heap.get? a = none := by
      cases q0 : X.s_0.heap.get? a with
      | none => rfl
      | some o0 =>
        obtain ⟨o1, z⟩ := J.base.there a o0 q0 (by rw [hx]; simp)
        rw [nI] at z
        cases z
    have npn : ∀ p ∈ X.pn ++ pins, p.1 ≠ a := fun p hp z => by
      have h1 := (J.pin p hp).1
      rw [z, nI] at h1
      cases h1
    have go : ∀ {hds' : List ExceptHandler} {l' : List Cl}, ClsOk X hds' l' → wClsK X.K Wout D l' cls d σ' H' →
        wpAny (model X.prog X.w) X.A (handleBy (.ref a) X.env hds') (SP X pins D) X.xe { s' with heap := h3 } := by
      intro hds' l' hk
      induction hk with
      | nil =>
        intro w
        refine wpAny_handleBy_nil ?_
        obtain ⟨k1, k2, k3, oe, vs, T, oT, ts', he, hz, hd, h1, hr⟩ := id fl3
        unfold PySem.passOn
        refine wpAny_bind (wpAny_field he hd h1 ?_)
        rw [if_neg (show ¬ ((Value.ref T == Value.none) = true) from by simp)]
        have fin : wpAny (model X.prog X.w) X.A (setFlight (.ref a) X.env.frame) (fun _ s4 => wpAny (model X.prog X.w) X.A (throw (.ref a) : Sem Flow) (SP X pins D) X.xe s4) X.xe { s' with heap := h3 } := by
          rw [hf]
          refine HandSPX.setFlight_upZ fl3 fun h4 hh4 up4 => wpAny_throw (tk _ _ ?_)
          exact ⟨a, B, sI, pins, σ', H', cls, d, rfl, J, nb, (up.trans up3).trans up4, .inr (.inr (by rw [hs]; exact hh4)), na, os, ag, w⟩
        first
          | exact wpAny_bind (wpAny_pure (wpAny_bind fin))
          | exact wpAny_bind fin
      | @as x n c i ts b₀ suite np pos' hds2 l2 hN hi hln hc hsu r ih =>
        intro w
        obtain ⟨b, hb1, hyes, hno⟩ := w
        refine wpAny_handleBy_cons (codeAny_handlers_test ?_) (by intro q; cases q)
        refine test hc ((PySem.W.exm_one (M := model X.prog X.w) (J3.kIn) LT hb1).here ?_)
        cases b with
        | true =>
          refine codeAny_handlers_suite_as ?_
          refine HandSPX.lands_againZ fl3 fun h4 fl4 up4 => ?_
          have J4 : Inv X pins σ' H' { s' with heap := h4 } := J.landed nb fl4.1 ((up.trans up3).trans up4) os ag
          obtain ⟨oe4, vs4, he4, hz4, hd4⟩ := fl4.there
          have S4 := J4.suite he4 hd4 na nL nF
          refine store_ok (X := X.suite a ((a, oe4) :: (X.pn ++ pins))) (v := .ref a) S4 hN hi (.inl hln) rfl (fun s5 S5 => ?_) (.inr hln)
          refine wpAny_mono ((hsu a oe4 cls d (X.pn ++ pins) hz4 ⟨_, hd4⟩).run [] s5 _ H' _ S5 (hyes rfl a na)) (fun f s6 hsp => ?_) (fun _ _ z => False.elim z)
          have end_ : ∀ {σ6 : L2.St} {H6 : Hp} {Q : Shared → Prop}, Inv (X.suite a ((a, oe4) :: (X.pn ++ pins))) [] σ6 H6 s6 → (∀ s7, Inv X pins (σ6.set i none) (upd H6 a (exk a cls d)) s7 → Q s7) →
              wpAny (model X.prog X.w) X.A (do bindName X.env n .none; unbindBehindTheSuite X.env n pos') (fun _ s7 => Q s7) X.xe s6 := fun {σ6 H6 Q} S6 hq => by
            obtain ⟨e6, f6, g6, _⟩ := S6.pin (a, oe4) (List.mem_append_left _ List.mem_cons_self)
            exact gone_ok (Inv.track (S6.unsuite ok) e6 hd4 f6 n0 g6 npn (exk_ok e6 hz4 hd4)) hN hi hln hq
          cases f with
          | next =>
            obtain ⟨σ6, H6, S6, q6⟩ := hsp
            exact end_ S6 fun s7 J7 => ⟨_, _, J7, q6⟩
          | brk =>
            obtain ⟨σ6, H6, S6, q6⟩ := hsp
            exact end_ S6 fun s7 J7 => ⟨_, _, J7, q6⟩
          | cont =>
            obtain ⟨σ6, H6, S6, q6⟩ := hsp
            exact end_ S6 fun s7 J7 => ⟨_, _, J7, q6⟩
          | ret u =>
            obtain ⟨v6, σ6, H6, S6, r6, q6⟩ := hsp
            exact end_ S6 fun s7 J7 => ⟨_, _, _, J7, r6, q6⟩
        | false =>
          show wpAny _ X.A (handleBy (.ref a) X.env hds2) _ _ _
          exact ih (hno rfl)
      | @no x c ts b₀ suite np pos' hds2 l2 hc hsu r ih =>
        intro w
        obtain ⟨b, hb1, hyes, hno⟩ := w
        refine wpAny_handleBy_cons (codeAny_handlers_test ?_) (by intro q; cases q)
        refine test hc ((PySem.W.exm_one (M := model X.prog X.w) (J3.kIn) LT hb1).here ?_)
        cases b with
        | true =>
          refine codeAny_handlers_suite ?_
          refine HandSPX.lands_againZ fl3 fun h4 fl4 up4 => ?_
          have J4 : Inv X pins σ' H' { s' with heap := h4 } := J.landed nb fl4.1 ((up.trans up3).trans up4) os ag
          obtain ⟨oe4, vs4, he4, hz4, hd4⟩ := fl4.there
          have S4 := J4.suite he4 hd4 na nL nF
          refine wpAny_mono ((hsu a oe4 cls d (X.pn ++ pins) hz4 ⟨_, hd4⟩).run [] _ _ H' _ S4 (hyes rfl a na)) (fun f s6 hsp => ?_) (fun _ _ z => False.elim z)
          cases f with
          | next =>
            obtain ⟨σ6, H6, S6, q6⟩ := hsp
            exact ⟨_, _, S6.unsuite ok, q6⟩
          | brk =>
            obtain ⟨σ6, H6, S6, q6⟩ := hsp
            exact ⟨_, _, S6.unsuite ok, q6⟩
          | cont =>
            obtain ⟨σ6, H6, S6, q6⟩ := hsp
            exact ⟨_, _, S6.unsuite ok, q6⟩
          | ret u =>
            obtain ⟨v6, σ6, H6, S6, r6, q6⟩ := hsp
            exact ⟨_, _, _, S6.unsuite ok, r6, q6⟩
        | false =>
          show wpAny _ X.A (handleBy (.ref a) X.env hds2) _ _ _
          exact ih (hno rfl)
    exact go hh w
  · cases f with
    | next =>
      obtain ⟨σ', H', J', q⟩ := hsp
      exact wpAny_execs_nil ⟨σ', H', J'.ofTry ok, q⟩
    | brk =>
      obtain ⟨σ', H', J', q⟩ := hsp
      exact ⟨σ', H', J'.ofTry ok, q⟩
    | cont =>
      obtain ⟨σ', H', J', q⟩ := hsp
      exact ⟨σ', H', J'.ofTry ok, q⟩
    | ret u =>
      obtain ⟨v, σ', H', J', r, q⟩ := hsp
      exact ⟨v, σ', H', J'.ofTry ok, r, q⟩
end

section
variable {K : PySem.W.Frag} {W : WX} {D : Ends} {c cls : Value} {i : Nat} {ts : Addr → Value → Option Addr → TS} {r : List Cl} {d : Option Addr} {σ : L2.St} {H : Hp}
theorem w_clsKA (te : PySem.W.exmOne K cls c = some true) (q : ∀ a, H a = none → ts a cls d { nx := fun σ' H' => D.nx (σ'.set i none) (upd H' a (exk a cls d)), rt := fun v H' => D.rt v (upd H' a (exk a cls d)), bk := fun σ' H' => D.bk (σ'.set i none) (upd H' a (exk a cls d)), ct := fun σ' H' => D.ct (σ'.set i none) (upd H' a (exk a cls d)) } (σ.set i (some (.ref a))) H) :
    wClsK K W D (⟨c, some i, ts⟩ :: r) cls d σ H := ⟨true, te, fun _ => q, fun z => by cases z⟩
end
/-- a field of a kept error -/
def tXk (K : PySem.W.Frag) (f : Str) (te : TE) : TE := fun σ H Q => te σ H fun x H1 => ∃ (a C dd : Addr) (fs : List (Str × V)) (v : V), x = .ref a ∧ H1 a = some (exk a (.ref C) (some dd)) ∧ XfC K C ∧ PySem.W.findIn K (.ref C) f = some none ∧ H1 dd = some (.xd fs) ∧ fs.lookup f = some v ∧ Q v H1
theorem pe_xk {X : Cx} {e : Expr} {te : TE} {pos : Pos} {n : Str} (he : PE X e te) (hb : attributeBase e n X.env (eval e X.env) = eval e X.env := by rfl) : PE X (.Attribute e n pos) (tXk X.K n te) := by
  refine ⟨fun pins s σ H Q I h => ?_⟩
  refine attr_of hb (thn (he.run pins s σ H _ I h) fun u s1 hh => ?_)
  obtain ⟨x, H1, I1, rx, a, C, dd, fs, v, ex, hk, T, hno, ea, l, q⟩ := hh
  subst ex
  obtain rfl : u = Value.ref a := rx
  obtain ⟨oe, vs, ha, hz, hd⟩ := exk_at I1.hok hk
  have hx : ObjOk X.prog X.w H1 s1.heap dd (.xd fs) := I1.hok dd _ ea
  obtain ⟨mA, hns, hr⟩ := hx
  obtain ⟨od, ho, hl⟩ := lookIn_ns hns
  obtain ⟨u, hu, ru⟩ := RelO.some_of (v := v) (o := mA n) (by rw [← l]; exact hr n)
  have J : PySem.W.InstAt s1.heap a oe C (some od) := ⟨ha, hz.1, by unfold PySem.W.notCls; rw [hd] <;> rfl, by rw [hz.2]; exact ho⟩
  exact HandSPX.exc_get I1.kIn J T.ga T.gg T.exC (PySem.W.findObj_own T.hdC hno rfl (by rw [hl, hu])) (handed_of ru) ⟨v, H1, I1.tok _, ru, q⟩
theorem w_xk {K : PySem.W.Frag} {f : Str} {te : TE} {σ : L2.St} {H : Hp} {Q : VK} (q : te σ H fun x H1 => ∃ (a C dd : Addr) (fs : List (Str × V)) (v : V), x = .ref a ∧ H1 a = some (exk a (.ref C) (some dd)) ∧ XfC K C ∧ PySem.W.findIn K (.ref C) f = some none ∧ H1 dd = some (.xd fs) ∧ fs.lookup f = some v ∧ Q v H1) : tXk K f te σ H Q := q

end Bc
namespace Bc
open PySem PySem.Spec PyProof.Rows L2
/-! ### comprehensions by a relation -/
section
variable {J : It} {G : Hp → Prop} {te : TE} {vs : List Nat} {σ : L2.St} {H : Hp} {D : Addr} {Qd : Hp → Prop} {j : Nat}
/-- what is made of each item, by a relation that new things leave alone -/
theorem lc_rel (xs : List V) (R : V → V → Hp → Prop) (mono : ∀ x y G G', Same G G' → R x y G → R x y G') (w : Walk J xs.length G (YAt xs)) (hD : H D = none) (hG : ∀ H', Same H H' → G H') (sz : xs.length ≤ 100000)
    (wp : ∀ v, wipe ((wipe σ vs).set j v) vs = wipe σ vs)
    (step : ∀ (i : Nat) (x : V) (H' : Hp), xs[i]? = some x → Same H H' → (∃ acc, H' D = some (.lst acc)) → ∀ Q' : VK, (∀ (y : V) (H'' : Hp), Same H' H'' → R x y (rm D H'') → Q' y H'') → te ((wipe σ vs).set j (some x)) H' Q')
    (q : ∀ (H' : Hp) (ys : List V), Same H H' → H' D = some (.lst ys) → Paired (fun x y => R x y H') xs ys → Qd H') :
    ∃ W : Nat → Nat → Hp → Prop, (∃ m, W 0 m (upd H D (.lst []))) ∧ ∀ i m H, W i m H →
      (J.stop i H ∧ Qd H) ∨ (J.go i H ∧ ∃ Nx : Hp → Prop, (∀ H', Nx H' → ∃ m', m' < m ∧ W (i + 1) m' H') ∧ ∀ x H', J.yld i H x H' → gName j x (wipe σ vs) H' fun σ2 H2 => wipe σ2 vs = wipe σ vs ∧ tYes σ2 H2 fun b H3 =>
        if b = true then te σ2 H3 fun y H4 => ∃ acc, H4 D = some (.lst acc) ∧ acc.length < sizeLine ∧ Nx (upd H4 D (.lst (acc ++ [y]))) else Nx H3) := by
  refine lc_it w (fun i H' => ∃ ys : List V, Same H (rm D H') ∧ H' D = some (.lst ys) ∧ Paired (fun x y => R x y (rm D H')) (xs.take i) ys) ⟨[], ?_, upd_same, .nil⟩ (fun i H' _ h => by obtain ⟨_, k, _⟩ := h; exact hG H' (k.trans rm_le)) ?_ ?_
  · rw [rm_updS]
    exact rm_in hD (Same.refl _)
  · rintro i x H1 H' hi ⟨ys, h1, h3, h4⟩ ⟨rfl, hx⟩
    refine ⟨wp _, w_yes ?_⟩
    rw [if_pos rfl]
    have el := h4.length
    rw [List.length_take] at el
    refine step i x H' hx (h1.trans rm_le) ⟨_, h3⟩ _ fun y H2 s2 r => ?_
    have e : xs[i] = x := by rw [List.getElem?_eq_getElem hi] at hx; exact Option.some.inj hx
    refine ⟨ys, s2 _ _ h3, ?_, ys ++ [y], ?_, upd_same, ?_⟩
    · have : (100000 : Nat) < sizeLine := by decide
      omega
    · rw [rm_updS]
      exact h1.trans s2.rm
    · rw [rm_updS, List.take_succ_eq_append_getElem hi, e]
      exact Paired.snoc (paired_imp (fun _ _ z => mono _ _ _ _ s2.rm z) h4) r
  · rintro H' ⟨ys, h1, h3, h4⟩
    rw [List.take_length] at h4
    exact q H' ys (h1.trans rm_le) h3 (paired_imp (fun _ _ z => mono _ _ _ _ rm_le z) h4)
end

end Bc
namespace Bc
open PySem PySem.Spec PyProof.Rows L2
/-! ### k63: all texts in order, their numbers -/
def extT (A : Nat) (t : List Int) : List (List Int) := (List.range A).map fun l : Nat => t ++ [(l : Int)]
/-- the texts of n letters as the law makes them -/
def txs (A : Nat) : Nat → List (List Int)
  | 0 => [[]]
  | n + 1 => (txs A n).flatMap (extT A)
def txc (A : Nat) : Nat → List (List Int)
  | 0 => [[]]
  | n + 1 => (List.range A).flatMap fun l : Nat => (txc A n).map fun t => (l : Int) :: t
theorem txc_ext (A : Nat) : ∀ n, (txc A n).flatMap (extT A) = txc A (n + 1)
  | 0 => by
    show ([[]] : List (List Int)).flatMap (extT A) = (List.range A).flatMap fun l : Nat => [[(l : Int)]]
    rw [List.flatMap_cons, List.flatMap_nil, List.append_nil]
    unfold extT
    induction List.range A with
    | nil => rfl
    | cons x r ih => rw [List.map_cons, ih, List.flatMap_cons]; rfl
  | n + 1 => by
    show ((List.range A).flatMap fun l : Nat => (txc A n).map fun t => (l : Int) :: t).flatMap (extT A) = (List.range A).flatMap fun l : Nat => (txc A (n + 1)).map fun t => (l : Int) :: t
    rw [List.flatMap_assoc]
    congr 1
    funext l
    rw [← txc_ext A n, List.flatMap_map, List.map_flatMap]
    congr 1
    funext t
    unfold extT
    rw [List.map_map]
    rfl
theorem txs_txc (A : Nat) : ∀ n, txs A n = txc A n
  | 0 => rfl
  | n + 1 => by
    show (txs A n).flatMap (extT A) = _
    rw [txs_txc A n, txc_ext]
theorem txs_mem {A : Nat} : ∀ {n : Nat} {t : List Int}, t ∈ txs A n → t.length = n ∧ ∀ x ∈ t, 0 ≤ x ∧ x < A
  | 0, t, h => by
    have : t = [] := List.mem_singleton.mp h
    subst this
    exact ⟨rfl, fun x h => by cases h⟩
  | n + 1, t, h => by
    obtain ⟨u, hu, hx⟩ := List.mem_flatMap.mp h
    obtain ⟨l, hl, rfl⟩ := List.mem_map.mp hx
    have hl := List.mem_range.mp hl
    obtain ⟨h1, h2⟩ := txs_mem hu
    refine ⟨by rw [List.length_append, h1]; rfl, fun x hx => ?_⟩
    rcases List.mem_append.mp hx with z | z
    · exact h2 x z
    · rw [List.mem_singleton.mp z]
      omega
theorem flat_len {α β : Type} {f : α → List β} {k : Nat} : ∀ l : List α, (∀ x, (f x).length = k) → (l.flatMap f).length = l.length * k
  | [], _ => by simp
  | x :: l, h => by
    rw [List.flatMap_cons, List.length_append, h, flat_len l h, List.length_cons, Nat.succ_mul, Nat.add_comm]
theorem extT_len (A : Nat) (t : List Int) : (extT A t).length = A := by
  unfold extT
  rw [List.length_map, List.length_range]
theorem txs_len (A : Nat) : ∀ n, (txs A n).length = A ^ n
  | 0 => rfl
  | n + 1 => by
    show ((txs A n).flatMap (extT A)).length = _
    rw [flat_len _ (extT_len A), txs_len A n, Nat.pow_succ]
theorem txs_sorted (A : Nat) : ∀ n, (txs A n).Pairwise fun t u => HT.lexLt t u = true := fun n => by
  rw [txs_txc]
  induction n with
  | zero => exact List.pairwise_singleton _ _
  | succ n ih =>
    show ((List.range A).flatMap fun l : Nat => (txc A n).map fun t => (l : Int) :: t).Pairwise _
    rw [List.pairwise_flatMap]
    refine ⟨fun l _ => ?_, ?_⟩
    · rw [List.pairwise_map]
      refine ih.imp fun h => ?_
      rw [HT.lexLt, if_pos rfl]
      exact h
    · refine List.Pairwise.imp (fun {i j} (hij : i < j) x hx y hy => ?_) List.pairwise_lt_range
      obtain ⟨t, _, rfl⟩ := List.mem_map.mp hx
      obtain ⟨u, _, rfl⟩ := List.mem_map.mp hy
      rw [HT.lexLt, if_neg (by omega)]
      exact decide_eq_true (by omega)
theorem sum_range_sig {g : Nat → Nat} : ∀ n : Nat, ((((List.range n).map g).sum : Nat) : Int) = sig n fun i => (g i : Int)
  | 0 => rfl
  | n + 1 => by
    rw [List.range_succ, List.map_append, List.sum_append, sig, ← sum_range_sig n]
    simp
theorem cnt_txc {N s : Int} {A : Nat} : ∀ (ws : List Int) (z : Int), (((txc A ws.length).countP fun t => decide ((z - wsum s ws t) % N = 0) : Nat) : Int) = Gw N A s ws z
  | [], z => by
    show ((List.countP (fun t => decide ((z - wsum s [] t) % N = 0)) [[]] : Nat) : Int) = chi N z
    rw [List.countP_singleton, show wsum s [] [] = 0 from rfl, Int.sub_zero]
    unfold chi
    by_cases h : z % N = 0
    · rw [if_pos h, decide_eq_true h]; rfl
    · rw [if_neg h, decide_eq_false h]; rfl
  | w :: ws, z => by
    show ((List.countP _ ((List.range A).flatMap fun l : Nat => (txc A ws.length).map fun t => (l : Int) :: t) : Nat) : Int) = sig A fun l => Gw N A s ws (z - ((l : Int) + s) * w)
    rw [List.countP_flatMap, sum_range_sig]
    refine sig_congr fun l _ => ?_
    show ((List.countP _ ((txc A ws.length).map fun t => (l : Int) :: t) : Nat) : Int) = _
    rw [List.countP_map, ← cnt_txc ws]
    congr 1
    refine List.countP_congr fun t _ => ?_
    show decide ((z - wsum s (w :: ws) ((l : Int) :: t)) % N = 0) = true ↔ _
    rw [wsum, show z - (((l : Int) + s) * w + wsum s ws t) = z - ((l : Int) + s) * w - wsum s ws t by omega]
/-- the texts with a mark, in order -/
def txm (N : Int) (A : Nat) (y : Sty) (b : Int) (n : Nat) (m : Int) : List (List Int) := (txs A n).filter fun t => decide (mark y b N t = m)
section
variable {N b : Int} {A n : Nat} {y : Sty} {m : Int}
theorem txm_gd (hm : 0 ≤ m ∧ m < N) {t : List Int} (h : t ∈ txm N A y b n m) : Gd N A y.shift (wts b N y.low n) (m - ld y * b ^ n) t := by
  obtain ⟨h1, h2⟩ := List.mem_filter.mp h
  obtain ⟨h3, h4⟩ := txs_mem h1
  have := (gd_mark (b := b) hm h4).mpr (of_decide_eq_true h2)
  rwa [h3] at this
theorem txm_len (hm : 0 ≤ m ∧ m < N) : ((txm N A y b n m).length : Int) = (cnt N b y.shift (ld y) A n).getD m.toNat 0 := by
  rw [cnt_Gw (by omega) y.low n (x := m.toNat) (by omega), Int.toNat_of_nonneg hm.1, ← cnt_txc, wts_len, ← txs_txc]
  unfold txm
  rw [← List.countP_eq_length_filter]
  congr 1
  refine List.countP_congr fun t ht => ?_
  obtain ⟨h3, h4⟩ := txs_mem ht
  have e := gd_mark (y := y) (b := b) hm h4
  rw [h3] at e
  rw [decide_eq_true_iff, decide_eq_true_iff, ← e]
  exact ⟨fun g => g.sum, fun g => ⟨by rw [h3, wts_len], h4, g⟩⟩
theorem inc_id {L : Nat} {f : Nat → Int} (h0 : ∀ i, i < L → 0 ≤ f i ∧ f i < L) (hm : ∀ i j, i < j → j < L → f i < f j) : ∀ i, i < L → f i = i := by
  have lo : ∀ i, i < L → (i : Int) ≤ f i := by
    intro i
    induction i with
    | zero => exact fun h => (h0 0 h).1
    | succ i ih =>
      intro h
      have h1 := ih (by omega)
      have h2 := hm i (i + 1) (by omega) h
      omega
  have hi : ∀ k, k < L → f (L - 1 - k) ≤ (L : Int) - 1 - k := by
    intro k
    induction k with
    | zero =>
      intro h
      have := (h0 (L - 1 - 0) (by omega)).2
      omega
    | succ k ih =>
      intro h
      have h1 := ih (by omega)
      have h2 := hm (L - 1 - (k + 1)) (L - 1 - k) (by omega) (by omega)
      omega
  intro i hiL
  have h1 := lo i hiL
  have h2 := hi (L - 1 - i) (by omega)
  rw [show L - 1 - (L - 1 - i) = i by omega] at h2
  omega
/-- the number of the text at a place -/
theorem txm_rk (hm : 0 ≤ m ∧ m < N) : ∀ (i : Nat) (t : List Int), (txm N A y b n m)[i]? = some t → Rk N A y.shift (wts b N y.low n) (m - ld y * b ^ n) t = i := by
  have hs : (txm N A y b n m).Pairwise fun t u => HT.lexLt t u = true := (txs_sorted A n).filter _
  have key := inc_id (L := (txm N A y b n m).length) (f := fun i => Rk N A y.shift (wts b N y.low n) (m - ld y * b ^ n) ((txm N A y b n m).getD i []))
    (fun i hi => by
      have hg := txm_gd hm (List.getElem_mem hi)
      have := Rk_lt hg
      show 0 ≤ Rk _ _ _ _ _ ((txm N A y b n m).getD i []) ∧ Rk _ _ _ _ _ ((txm N A y b n m).getD i []) < _
      rw [List.getD_eq_getElem?_getD, List.getElem?_eq_getElem hi, txm_len hm, cnt_Gw (by omega) y.low n (x := m.toNat) (by omega), Int.toNat_of_nonneg hm.1]
      exact this)
    (fun i j hij hj => by
      show Rk _ _ _ _ _ ((txm N A y b n m).getD i []) < Rk _ _ _ _ _ ((txm N A y b n m).getD j [])
      rw [List.getD_eq_getElem?_getD, List.getElem?_eq_getElem (show i < _ by omega), List.getD_eq_getElem?_getD, List.getElem?_eq_getElem hj]
      exact Rk_mono (txm_gd hm (List.getElem_mem _)) (txm_gd hm (List.getElem_mem _)) ((List.pairwise_iff_getElem.mp hs) i j (by omega) hj hij))
  intro i t h
  obtain ⟨hi, rfl⟩ := List.getElem?_eq_some_iff.mp h
  have := key i hi
  simp only [List.getD_eq_getElem?_getD, List.getElem?_eq_getElem hi, Option.getD_some] at this
  exact this
theorem txm_nth (hm : 0 ≤ m ∧ m < N) {k : Int} {t u : List Int} (hu : (txm N A y b n m)[k.toNat]? = some u) (k0 : 0 ≤ k) (h : NthT N A y b n m k t) : t = u := by
  have h1 := txm_rk hm k.toNat u hu
  rw [Int.toNat_of_nonneg k0] at h1
  exact Rk_inj h.1 (txm_gd hm (List.mem_of_getElem? hu)) (h.2.trans h1.symm)
theorem txm_num (hm : 0 ≤ m ∧ m < N) {i : Nat} {u : List Int} (hu : (txm N A y b n m)[i]? = some u) : Rk N A y.shift (wts b N y.low u.length) (mark y b N u - ld y * b ^ u.length) u = i := by
  have h1 := txm_rk hm i u hu
  obtain ⟨h2, h3⟩ := List.mem_filter.mp (List.mem_of_getElem? hu)
  rw [(txs_mem h2).1, of_decide_eq_true h3]
  exact h1
end
/-! ### lists of tuples of ints -/
def TL (H : Hp) (l : Addr) (tss : List (List Int)) : Prop := ∃ ts : List Addr, H l = some (.lst (ts.map V.ref)) ∧ Paired (fun us t => H t = some (.tup (us.map V.int))) tss ts
theorem TL.same {H H' : Hp} {r : Addr} {tss : List (List Int)} (h : TL H r tss) (s : Same H H') : TL H' r tss := by
  obtain ⟨as, h1, h2⟩ := h
  exact ⟨as, s _ _ h1, paired_imp (fun _ _ z => s _ _ z) h2⟩
def dTu (ls : List Int) : PyData := .tuple (ls.map PyData.int)
theorem dp_tl {K : PySem.W.Frag} {H : Hp} : ∀ {tss : List (List Int)} {ts : List Addr}, Paired (fun us t => H t = some (.tup (us.map V.int))) tss ts → DpAll K H (ts.map V.ref) (tss.map dTu)
  | _, _, .nil => .nil
  | _, _, .cons r t => .cons (.tup (sqt r) (dp_ints _)) (dp_tl t)
theorem shaped_tl (tss : List (List Int)) : SeqAt.shaped (.list (tss.map dTu)) = true := by
  have lay : PyData.canLayAll0 (tss.map dTu) = true := by
    induction tss with
    | nil => rfl
    | cons u r ih =>
      rw [List.map_cons, PyData.canLayAll0, ih, dTu, PyData.canLay0, lay_ints]
      rfl
  have dep : PyData.depthAll (tss.map dTu) ≤ 1 := by
    clear lay
    induction tss with
    | nil => exact Nat.zero_le _
    | cons u r ih =>
      rw [List.map_cons, PyData.depthAll]
      refine Nat.max_le.mpr ⟨?_, ih⟩
      rw [dTu, PyData.depth, depth_ints]
      exact Nat.le_refl _
  unfold SeqAt.shaped
  rw [PyData.canLay0, lay, PyData.depth]
  simp only [Bool.true_and, decide_eq_true_eq]
  omega
theorem eqv_tl (tss : List (List Int)) : PyData.eqv (.list (tss.map dTu)) (.list (tss.map dTu)) = true := by
  rw [PyData.eqv]
  induction tss with
  | nil => rfl
  | cons u r ih =>
    rw [List.map_cons, PyData.eqvAll, ih, dTu, PyData.eqv, eqv_ints]
    simp
theorem w_neTL {K : PySem.W.Frag} {H : Hp} {a b : Addr} {tss : List (List Int)} {Q : VK} (ha : TL H a tss) (hb : TL H b tss) (q : Q (.bl false) H) : rNeD K (.ref a) (.ref b) H Q := by
  obtain ⟨ta, h1, h2⟩ := ha
  obtain ⟨tb, h3, h4⟩ := hb
  refine ⟨.list (tss.map dTu), .list (tss.map dTu), .lst (sq h1) (dp_tl h2), .lst (sq h3) (dp_tl h4), shaped_tl _, shaped_tl _, ?_⟩
  rw [eqv_tl]
  exact q
theorem w_neTTe {K : PySem.W.Frag} {H : Hp} {a b : Addr} {ls ms : List Int} {Q : VK} (ha : SqT K H a (ls.map V.int)) (hb : SqT K H b (ms.map V.int)) (e : ls = ms) (q : Q (.bl false) H) : rNeD K (.ref a) (.ref b) H Q := by
  subst e
  have sh : SeqAt.shaped (dTu ls) = true := by
    unfold SeqAt.shaped dTu
    rw [PyData.canLay0, lay_ints, PyData.depth, depth_ints]
    rfl
  refine ⟨dTu ls, dTu ls, .tup ha (dp_ints _), .tup hb (dp_ints _), sh, sh, ?_⟩
  rw [show PyData.eqv (dTu ls) (dTu ls) = true by rw [dTu, PyData.eqv, eqv_ints]; simp]
  exact q
theorem paired_appT {α β : Type} {R : α → β → Prop} : ∀ {xs ys : List α} {us vs : List β}, Paired R xs us → Paired R ys vs → Paired R (xs ++ ys) (us ++ vs)
  | _, _, _, _, .nil, h => h
  | _, _, _, _, .cons r t, h => .cons r (paired_appT t h)
/-! ### a dict of lists, by marks -/
def kvM (js : List Nat) (ad : Nat → Addr) : List (Key × V) := js.map fun j : Nat => ((.inl (j : Int) : Key), V.ref (ad j))
structure GvD (H0 H : Hp) (d : Addr) (P : Nat → List V) (js : List Nat) (ad : Nat → Addr) : Prop where
  same : Same H0 H
  dn : H0 d = none
  at_ : H d = some (.dK (kvM js ad))
  nd : js.Nodup
  l : ∀ j ∈ js, H (ad j) = some (.lst (P j))
  ln : ∀ j ∈ js, H0 (ad j) = none
  inj : ∀ i ∈ js, ∀ j ∈ js, ad i = ad j → i = j
  no : ∀ j, j ∉ js → P j = []
theorem GvD.mono {H0 H H' : Hp} {d : Addr} {P : Nat → List V} {js : List Nat} {ad : Nat → Addr} (L : GvD H0 H d P js ad) (s : Same H H') : GvD H0 H' d P js ad :=
  ⟨L.same.trans s, L.dn, s _ _ L.at_, L.nd, fun j h => s _ _ (L.l j h), L.ln, L.inj, L.no⟩
theorem GvD.dne {H0 H : Hp} {d : Addr} {P : Nat → List V} {js : List Nat} {ad : Nat → Addr} (L : GvD H0 H d P js ad) {j : Nat} (h : j ∈ js) : ad j ≠ d := fun e => by
  have h1 := L.l j h
  rw [e, L.at_] at h1
  cases h1
theorem kvM_val (ad : Nat → Addr) (j : Nat) : ∀ js : List Nat, valV (kvM js ad) (.inl (j : Int)) = if j ∈ js then some (.ref (ad j)) else none
  | [] => rfl
  | i :: js => by
    have ih := kvM_val ad j js
    by_cases e : i = j
    · subst e
      rw [if_pos (List.mem_cons_self ..)]
      exact valV_pos rfl
    · rw [show kvM (i :: js) ad = ((.inl (i : Int) : Key), V.ref (ad i)) :: kvM js ad from rfl, valV_neg (show ¬ (Sum.inl (i : Int) : Key) = .inl (j : Int) from fun z => e (by have := Sum.inl.inj z; omega)), ih]
      by_cases hj : j ∈ js
      · rw [if_pos hj, if_pos (List.mem_cons_of_mem _ hj)]
      · rw [if_neg hj, if_neg (fun z => (List.mem_cons.mp z).elim (fun z => e z.symm) hj)]
def addM (P : Nat → List V) (j : Nat) (v : V) : Nat → List V := fun i => if i = j then P j ++ [v] else P i
def AddM (H0 : Hp) (d : Addr) (P : Nat → List V) (js : List Nat) (j : Nat) (v : V) (Q : VK) : Prop :=
  ∀ (H' : Hp) (js' : List Nat) (ad' : Nat → Addr), (∀ i, i ∈ js' ↔ i ∈ js ∨ i = j) → GvD H0 H' d (addM P j v) js' ad' → Q .non H'
theorem GvD.add {H0 H : Hp} {d e : Addr} {P : Nat → List V} {js : List Nat} {ad : Nat → Addr} (L : GvD H0 H d P js ad) (j : Nat) (r : V) (he : H e = some (.lst [])) (h0 : H0 e = none) (hne : ∀ i ∈ js, ad i ≠ e) (hz : (P j).length < sizeLine) :
    (∀ v, valV (kvM js ad) (.inl (j : Int)) = some v → ∃ a xs, v = .ref a ∧ H a = some (.lst xs) ∧ ∀ Q, AddM H0 d P js j r Q → rAppend (.ref a) [r] H Q) ∧ (valV (kvM js ad) (.inl (j : Int)) = none → ∃ xs, L2.upd H d (.dK (putK (kvM js ad) (.inl (j : Int)) (.ref e))) e = some (.lst xs) ∧ ∀ Q, AddM H0 d P js j r Q → rAppend (.ref e) [r] (L2.upd H d (.dK (putK (kvM js ad) (.inl (j : Int)) (.ref e)))) Q) := by
  rw [kvM_val]
  constructor
  · intro v hv
    by_cases hj : j ∈ js
    · rw [if_pos hj] at hv
      cases hv
      have hl := L.l j hj
      refine ⟨ad j, _, rfl, hl, fun Q q => ?_⟩
      refine w_append hl hz (q _ js ad (fun i => ⟨.inl, fun z => z.elim id fun z => by rw [z]; exact hj⟩) ?_)
      have hd := L.dne hj
      refine ⟨fun c o' e => ?_, L.dn, (upd_ne hd.symm).trans L.at_, L.nd, fun i hi => ?_, L.ln, L.inj, fun i hi => ?_⟩
      · rw [upd_ne (fun z => by rw [z, L.ln j hj] at e; cases e)]
        exact L.same _ _ e
      · unfold addM
        by_cases z : i = j
        · subst z
          rw [if_pos rfl, L2.upd_same]
        · rw [if_neg z, upd_ne (fun y => z (L.inj i hi j hj y))]
          exact L.l i hi
      · unfold addM
        rw [if_neg (fun z => hi (by rw [z]; exact hj))]
        exact L.no i hi
    · rw [if_neg hj] at hv
      cases hv
  · intro hv
    by_cases hj : j ∈ js
    · rw [if_pos hj] at hv
      cases hv
    · have hk : valV (kvM js ad) (.inl (j : Int)) = none := by rw [kvM_val, if_neg hj]
      have hed : e ≠ d := fun z => by
        rw [z, L.at_] at he
        cases he
      have he2 : L2.upd H d (.dK (putK (kvM js ad) (.inl (j : Int)) (.ref e))) e = some (.lst []) := (upd_ne hed).trans he
      have hlt : ∀ i ∈ js, i ≠ j := fun i hi z => hj (by rw [← z]; exact hi)
      refine ⟨_, he2, fun Q q => ?_⟩
      refine w_append he2 (by decide) (q _ (js ++ [j]) (fun i => if i = j then e else ad i) (fun i => by simp) ?_)
      have ekv : kvM (js ++ [j]) (fun i => if i = j then e else ad i) = kvM js ad ++ [((.inl (j : Int) : Key), V.ref e)] := by
        unfold kvM
        rw [List.map_append]
        congr 1
        · refine List.map_congr_left fun i hi => ?_
          show ((Sum.inl (i : Int) : Key), V.ref (if i = j then e else ad i)) = _
          rw [if_neg (hlt i hi)]
        · show [((Sum.inl (j : Int) : Key), V.ref (if j = j then e else ad j))] = _
          rw [if_pos rfl]
      refine ⟨fun c o' e' => ?_, L.dn, ?_, ?_, fun i hi => ?_, fun i hi => ?_, fun i hi i' hi' hh => ?_, fun i hi => ?_⟩
      · rw [upd_ne (fun z => by rw [z, h0] at e'; cases e'), upd_ne (fun z => by rw [z, L.dn] at e'; cases e')]
        exact L.same _ _ e'
      · rw [upd_ne hed.symm, L2.upd_same, ekv, putK_new _ hk]
      · rw [List.nodup_append]
        exact ⟨L.nd, by simp, fun a ha b hb => by rw [List.mem_singleton.mp hb]; exact hlt a ha⟩
      · show L2.upd _ e _ (if i = j then e else ad i) = some (.lst (addM P j r i))
        unfold addM
        by_cases z : i = j
        · rw [if_pos z, if_pos z, L2.upd_same, L.no j hj]
        · have hi : i ∈ js := (List.mem_append.mp hi).elim id fun h => absurd (List.mem_singleton.mp h) z
          rw [if_neg z, if_neg z, upd_ne (hne i hi), upd_ne (L.dne hi)]
          exact L.l i hi
      · show H0 (if i = j then e else ad i) = none
        by_cases z : i = j
        · rw [if_pos z]
          exact h0
        · rw [if_neg z]
          exact L.ln i ((List.mem_append.mp hi).elim id fun h => absurd (List.mem_singleton.mp h) z)
      · have hh : (if i = j then e else ad i) = (if i' = j then e else ad i') := hh
        have mem : ∀ {i : Nat}, i ∈ js ++ [j] → i ≠ j → i ∈ js := fun h z => (List.mem_append.mp h).elim id fun h => absurd (List.mem_singleton.mp h) z
        by_cases z : i = j
        · by_cases z' : i' = j
          · rw [z, z']
          · rw [if_pos z, if_neg z'] at hh
            exact absurd hh.symm (hne i' (mem hi' z'))
        · by_cases z' : i' = j
          · rw [if_neg z, if_pos z'] at hh
            exact absurd hh (hne i (mem hi z))
          · rw [if_neg z, if_neg z'] at hh
            exact L.inj i (mem hi z) i' (mem hi' z') hh
      · unfold addM
        rw [List.mem_append] at hi
        rw [if_neg (fun z => hi (.inr (by rw [z]; exact List.mem_singleton.mpr rfl)))]
        exact L.no i fun z => hi (.inl z)
theorem GvD.len {H0 H : Hp} {d : Addr} {P : Nat → List V} {js : List Nat} {ad : Nat → Addr} (L : GvD H0 H d P js ad) {J : Nat} (h : ∀ j ∈ js, j < J) : (kvM js ad).length ≤ J := by
  unfold kvM
  rw [List.length_map]
  have nd_le : ∀ {l m : List Nat}, l.Nodup → (∀ x ∈ l, x ∈ m) → l.length ≤ m.length := fun {l m} hn hs => by
    induction l generalizing m with
    | nil => exact Nat.zero_le _
    | cons x r ih =>
      obtain ⟨h1, h2⟩ := List.nodup_cons.mp hn
      have hx : x ∈ m := hs x List.mem_cons_self
      have := ih (m := m.erase x) h2 fun y hy => (List.mem_erase_of_ne (fun e : y = x => h1 (by rw [← e]; exact hy))).2 (hs y (List.mem_cons_of_mem _ hy))
      have e := List.length_erase_of_mem hx
      have hp : 0 < m.length := List.length_pos_of_mem hx
      rw [List.length_cons]
      omega
  have := nd_le (m := List.range J) L.nd fun j hj => List.mem_range.mpr (h j hj)
  rwa [List.length_range] at this
theorem w_setd {td ty tx : TE} {σ : L2.St} {H : Hp} {Q : VK} (q : td σ H fun x H1 => ∃ a, x = .ref a ∧ IsD H1 a ∧ ty σ H1 fun y H2 => tx σ H2 fun z H3 => ∃ (kvs : List (Key × V)) (k : Key), H3 a = some (.dK kvs) ∧ y = kV k ∧ kvs.length < sizeLine ∧
  (∀ v, valV kvs k = some v → Q v H3) ∧ (valV kvs k = none → Q z (L2.upd H3 a (.dK (putK kvs k z))))) : tDSetd td ty tx σ H Q := q
theorem u66 {k : Nat} {A : Around} (r : Room k A) : A.units + 1 < cLine := by
  have := r.un
  omega
theorem w_dget2 {td ty tx : TE} {σ : L2.St} {H : Hp} {Q : VK} (q : td σ H fun x H1 => ∃ a, x = .ref a ∧ IsD H1 a ∧ ty σ H1 fun y H2 => tx σ H2 fun z H3 => ∃ o, DGet H3 a y o ∧ Q (o.getD z) H3) : tDGet2 td ty tx σ H Q := q
theorem w_count {K : PySem.W.Frag} {p : Addr} {ns : List Int} {k : Int} {H : Hp} {Q : VK} (h : SqL K H p (ns.map V.int)) (q : Q (.int (ns.count k : Nat)) H) : rCntI K (.ref p) [.int k] H Q := ⟨p, ns, k, rfl, rfl, h, q⟩
/-! ### promises -/
def spTexts63 : Sp := fun vs H Q _ => ∃ (A : Int) (n : Nat), vs = [.int A, .int n] ∧ 1 ≤ A ∧ A.toNat ^ n ≤ 2000 ∧ n ≤ 1000 ∧ ∀ H' l, Same H H' → TL H' l (txs A.toNat n) → Q (.ref l) H'
def spMany63 : Sp := fun vs H Q _ => ∃ (A : Int) (n : Nat), vs = [.int A, .int n] ∧ 0 ≤ A ∧ A ≤ 1000 ∧ n ≤ 1000 ∧ Q (.int (A ^ n)) H
def spMarkedX (c : CA) (Cn : Addr) : Sp := fun vs H Q E => ∃ (x : Addr) (A m k b : Int) (n : Nat) (ps : List (Int × Int)) (y : Sty), vs = [.ref x, .int A, .int n, .int m, .int k] ∧ WayAt c H x b ps y ∧ num ps ≤ 2000 ∧ 1 ≤ A ∧ A ≤ 1000 ∧ n ≤ 1000 ∧ 0 ≤ m ∧ m < num ps ∧ 0 ≤ k ∧
  (k < (cnt (num ps) b y.shift (ld y) A.toNat n).getD m.toNat 0 → ∀ H' p ts, H p = none → Same H H' → H' p = some (.tup (ts.map V.int)) → NthT (num ps) A.toNat y b n m k ts → Q (.ref p) H') ∧
  ((cnt (num ps) b y.shift (ld y) A.toNat n).getD m.toNat 0 ≤ k → ∀ d H', H d = none → Same H H' → H' d = some (.xd [("count", .int ((cnt (num ps) b y.shift (ld y) A.toNat n).getD m.toNat 0))]) → E (.ref Cn) (some d) H')
def spCaught63 (c : CA) : Sp := fun vs H Q _ => ∃ (x : Addr) (A m k b : Int) (n : Nat) (ps : List (Int × Int)) (y : Sty), vs = [.ref x, .int A, .int n, .int m, .int k] ∧ WayAt c H x b ps y ∧ num ps ≤ 2000 ∧ 1 ≤ A ∧ A ≤ 1000 ∧ n ≤ 1000 ∧ 0 ≤ m ∧ m < num ps ∧ 0 ≤ k ∧
  (cnt (num ps) b y.shift (ld y) A.toNat n).getD m.toNat 0 ≤ k ∧ ∀ p H', H p = none → Same H H' → H' p = some (.lst [.int ((cnt (num ps) b y.shift (ld y) A.toNat n).getD m.toNat 0)]) → Q (.ref p) H'
def spOne63 (c : CA) : Sp := fun vs H Q _ => ∃ (x g : Addr) (A b : Int) (ps : List (Int × Int)) (y : Sty), vs = [.ref x, .int A, .ref g] ∧ WayAt c H x b ps y ∧ H g = some (.lst [.bl y.low, .int y.shift, .bl y.lead]) ∧ y.shift.natAbs < 10 ^ 31 ∧ num ps ≤ 200 ∧ 1 ≤ A ∧ A ≤ 40 ∧ ∀ H', Same H H' → Q (.bl true) H'
theorem txs_one (A : Nat) : txs A 1 = (List.range A).map fun l : Nat => [(l : Int)] := by
  show ([[]] : List (List Int)).flatMap (extT A) = _
  rw [List.flatMap_cons, List.flatMap_nil, List.append_nil]
  rfl
/-- the marks of one letter each -/
def mks (N : Int) (y : Sty) (b : Int) (A : Nat) : List Int := (List.range A).map fun l : Nat => mark y b N [(l : Int)]
theorem mks_count {N : Int} {y : Sty} {b m : Int} (hm : 0 ≤ m ∧ m < N) (A : Nat) : ((mks N y b A).count m : Int) = (cnt N b y.shift (ld y) A 1).getD m.toNat 0 := by
  rw [← txm_len hm]
  unfold txm mks
  rw [txs_one, ← List.countP_eq_length_filter, List.countP_map, List.count, List.countP_map]
  congr 1
/-- the last text of one letter is the last with its mark -/
theorem mks_last {N : Int} {y : Sty} {b m : Int} {A : Nat} (hm : mark y b N [(A : Int)] = m) : ∃ j : Nat, (j : Int) = (mks N y b (A + 1)).count m - 1 ∧ (txm N (A + 1) y b 1 m)[j]? = some [(A : Int)] := by
  have e : txm N (A + 1) y b 1 m = txm N A y b 1 m ++ [[(A : Int)]] := by
    unfold txm
    rw [txs_one, txs_one, List.range_succ, List.map_append, List.filter_append]
    congr 1
    rw [List.map_cons, List.map_nil, List.filter_cons, decide_eq_true hm, if_pos rfl, List.filter_nil]
  have hl : (mks N y b (A + 1)).count m = (txm N A y b 1 m).length + 1 := by
    have h2 : (txm N (A + 1) y b 1 m).length = (mks N y b (A + 1)).count m := by
      unfold txm mks
      rw [txs_one, ← List.countP_eq_length_filter, List.countP_map, List.count, List.countP_map]
      refine List.countP_congr fun l _ => ?_
      show decide (mark y b N [(l : Int)] = m) = true ↔ (mark y b N [(l : Int)] == m) = true
      rw [beq_iff_eq, decide_eq_true_iff]
    rw [← h2, e, List.length_append]
    rfl
  refine ⟨(txm N A y b 1 m).length, by rw [hl]; omega, ?_⟩
  rw [e, List.getElem?_append_right (Nat.le_refl _), Nat.sub_self, List.getElem?_cons_zero]
theorem w_catA {K : PySem.W.Frag} {H : Hp} {a b : Addr} {xs ys : List V} {Q : VK} (ha : H a = some (.tup xs)) (hb : H b = some (.tup ys)) (l : xs.length + ys.length ≤ sizeLine) (q : ∀ p H', Same H H' → H' p = some (.tup (xs ++ ys)) → atV Q (.ref p) H') : rCatA K (.ref a) (.ref b) H Q := by
  refine ⟨a, b, xs, ys, rfl, rfl, sqt ha, sqt hb, l, fun e => q b H (Same.refl _) (by rw [e]; exact hb), fun _ e => q a H (Same.refl _) (by rw [e, List.append_nil]; exact ha), fun _ _ p n => q p _ (Same.new n) L2.upd_same⟩
theorem pow_pos1 {A : Nat} (h : 1 ≤ A) (n : Nat) : 1 ≤ A ^ n := Nat.pow_pos h
theorem pow_le1 {A i n : Nat} (h : 1 ≤ A) (e : i ≤ n) : A ^ i ≤ A ^ n := Nat.pow_le_pow_right h e
/-- texts grouped by their marks -/
def Grp (N b : Int) (y : Sty) (H : Hp) (P : Nat → List V) (tss : List (List Int)) : Prop := ∀ j : Nat, ∃ us : List Addr, P j = us.map V.ref ∧ Paired (fun u t => H t = some (.tup (u.map V.int))) (tss.filter fun t => decide (mark y b N t = j)) us
theorem Grp.step {N b : Int} {y : Sty} {H : Hp} {P : Nat → List V} {tss : List (List Int)} {u : List Int} {t : Addr} {j : Nat} (g : Grp N b y H P tss) (ht : H t = some (.tup (u.map V.int))) (hj : mark y b N u = j) : Grp N b y H (addM P j (.ref t)) (tss ++ [u]) := by
  intro i
  obtain ⟨us, h1, h2⟩ := g i
  unfold addM
  rw [List.filter_append]
  by_cases e : i = j
  · subst e
    rw [if_pos rfl, List.filter_cons, if_pos (decide_eq_true hj), List.filter_nil]
    exact ⟨us ++ [t], by rw [h1, List.map_append]; rfl, paired_appT h2 (.cons ht .nil)⟩
  · rw [if_neg e, List.filter_cons, if_neg (by rw [decide_eq_true_iff, hj]; omega), List.filter_nil, List.append_nil]
    exact ⟨us, h1, h2⟩
theorem Grp.len {N b : Int} {y : Sty} {H : Hp} {P : Nat → List V} {tss : List (List Int)} (g : Grp N b y H P tss) (j : Nat) : (P j).length ≤ tss.length := by
  obtain ⟨us, h1, h2⟩ := g j
  rw [h1, List.length_map, ← h2.length]
  exact List.length_filter_le _ _
theorem eqv_tl_nil : ∀ tss : List (List Int), PyData.eqv (.list (tss.map dTu)) (.list []) = decide (tss = [])
  | [] => by rw [List.map_nil, PyData.eqv, PyData.eqvAll]; rfl
  | u :: r => by rw [List.map_cons, PyData.eqv, PyData.eqvAll]; simp
theorem w_eqTLn {K : PySem.W.Frag} {H : Hp} {a b : Addr} {tss : List (List Int)} {Q : VK} (ha : TL H a tss) (hb : H b = some (.lst [])) (q : Q (.bl (decide (tss = []))) H) : rEqD K (.ref a) (.ref b) H Q := by
  obtain ⟨ta, h1, h2⟩ := ha
  refine ⟨.list (tss.map dTu), .list [], .lst (sq h1) (dp_tl h2), .lst (sq hb) .nil, shaped_tl _, shaped_tl [], ?_⟩
  rw [eqv_tl_nil]
  exact q

end Bc
set_option maxHeartbeats 4000000
open Bc
local macro_rules | `(tactic| walk_at "same0") => `(tactic| first
  | with_reducible exact L2.Same.refl _
  | with_reducible assumption
  | with_reducible exact rm_le
  | with_reducible exact L2.Same.trans rm_le rm_le
  | ((with_reducible refine L2.Same.trans ?_ (by with_reducible assumption)); walk_at "same0")
  | ((with_reducible refine L2.Same.trans ?_ (L2.Same.rm (by with_reducible assumption))); walk_at "same0")
  | ((with_reducible refine L2.Same.trans ?_ (Same.new (by with_reducible assumption))); walk_at "same0")
  | ((with_reducible apply same_rm); (first | with_reducible assumption | ((with_reducible refine L2.Same.trans ?_ (by with_reducible assumption)); walk_at "same0") | ((with_reducible refine L2.Same.trans ?_ (L2.Same.rm (by with_reducible assumption))); walk_at "same0")))
  | ((with_reducible refine L2.Same.rm ?_); walk_at "same0"))
local macro_rules | `(tactic| walk_at "same") => `(tactic| first
  | walk_at "same0"
  | ((with_reducible apply same_rm); walk_at "same0")
  | ((with_reducible apply same_rm); (with_reducible apply same_rm); walk_at "same0"))
local macro_rules | `(tactic| walk_at "hp0") => `(tactic| first
  | with_reducible assumption
  | ((with_reducible apply hpL); (with_reducible assumption); walk_at "same")
  | exact L2.upd_same
  | assumption
  | ((with_reducible apply hpL); assumption; walk_at "same"))
local macro_rules | `(tactic| walk_at "hp") => `(tactic| first
  | with_reducible assumption
  | (exact sq (by walk_at "hp0"))
  | (exact sqt (by walk_at "hp0"))
  | ((with_reducible apply hpL); (with_reducible assumption); walk_at "same")
  | ((with_reducible apply WayAt.same); (with_reducible assumption); walk_at "same")
  | ((with_reducible apply MkAt.same); (with_reducible assumption); walk_at "same")
  | ((with_reducible apply ModAt.same); (with_reducible assumption); walk_at "same")
  | ((with_reducible apply PrL.same); (with_reducible assumption); walk_at "same")
  | ((with_reducible apply TextAt.same); (with_reducible assumption); walk_at "same")
  | ((with_reducible apply Purse.same); (with_reducible assumption); walk_at "same")
  | assumption)
local macro_rules | `(tactic| walk_at "side") => `(tactic| first
  | with_reducible assumption
  | assumption
  | (exact rfl)
  | (refine mx_l ⟨?_, ?_⟩ <;> decide)
  | (refine mx_r ⟨?_, ?_⟩ <;> decide)
  | (refine mx_l ⟨?_, ?_⟩ <;> omega)
  | (refine mx_r ⟨?_, ?_⟩ <;> omega)
  | (refine wdiv60 ?_ ?_ <;> omega)
  | decide
  | omega)
local macro_rules | `(tactic| walk_at "go1") => `(tactic| first
  | ((with_reducible apply w_st); ((simp only [L2.start, List.map_cons, List.map_nil, List.length_cons, List.length_nil, List.cons_append, List.nil_append, List.append_nil, Nat.reduceAdd, Nat.reduceSub, List.reduceReplicate]); exact rfl))
  | with_reducible refine w_seq ?_
  | with_reducible refine w_atV ?_
  | ((with_reducible refine w_nxD ?_); (with_reducible refine w_nx ?_))
  | ((with_reducible refine w_rtD ?_); (with_reducible refine w_rt ?_))
  | ((with_reducible refine w_ctD ?_); (with_reducible refine w_ct ?_))
  | ((with_reducible refine w_bkD ?_); (with_reducible refine w_bk ?_))
  | ((with_reducible apply w_var); (exact rfl))
  | with_reducible refine w_c ?_
  | with_reducible refine w_op ?_
  | with_reducible refine w_cons ?_
  | with_reducible refine w_nil ?_
  | with_reducible refine w_cb ?_
  | ((with_reducible apply w_setN); ((intro _; simp only [List.set_cons_zero, List.set_cons_succ]); exact rfl))
  | with_reducible refine w_set ?_
  | with_reducible refine w_ret ?_
  | with_reducible refine w_if ?_
  | with_reducible refine w_test ?_
  | with_reducible refine w_tB ?_
  | with_reducible refine w_bl ?_
  | with_reducible refine w_I0 ?_
  | ((with_reducible refine w_I ?_ ?_); (first | walk_at "side" | rotate_left))
  | ((with_reducible apply w_ixL); (walk_at "hp"); (exact rfl))
  | ((with_reducible apply w_ixT); (walk_at "hp"); (exact rfl))
  | with_reducible refine w_call ?_
  | with_reducible refine w_next ?_
  | with_reducible refine w_drop ?_
  | with_reducible refine w_retN ?_
  | with_reducible refine w_un ?_
  | with_reducible refine w_U ?_
  | ((with_reducible refine w_eq ?_ ?_); (exact rfl))
  | ((with_reducible refine w_ne ?_ ?_); (exact rfl))
  | with_reducible refine w_and ?_
  | with_reducible refine w_or ?_
  | with_reducible refine w_not ?_
  | with_reducible refine w_andV ?_
  | with_reducible refine w_orV ?_
  | with_reducible refine w_notV ?_
  | with_reducible refine w_ifE ?_
  | with_reducible refine w_tup ?_
  | with_reducible refine w_lst ?_
  | ((with_reducible refine w_andsz ?_ ?_); (exact rfl))
  | with_reducible refine w_par ?_
  | with_reducible refine w_par2 ?_
  | ((with_reducible apply w_aug); (exact rfl))
  | with_reducible refine w_ipI ?_
  | with_reducible refine w_yes ?_
  | with_reducible refine w_chain ?_
  | with_reducible refine w_int1 ?_
  | with_reducible refine w_int1b ?_
  | with_reducible refine w_abs ?_
  | with_reducible refine w_max2 ?_
  | with_reducible refine w_min2 ?_
  | with_reducible refine w_for ?_
  | with_reducible refine w_rng1 ?_
  | with_reducible refine w_rng2 ?_
  | ((with_reducible refine w_rng1i ?_ ?_ ?_); omega; omega)
  | ((with_reducible refine w_rng2i ?_ ?_); omega)
  | with_reducible refine w_iList ?_
  | with_reducible refine w_iTup ?_
  | with_reducible refine w_iAt ?_
  | with_reducible refine w_asg ?_
  | with_reducible refine w_name ?_
  | with_reducible refine w_gsub ?_
  | with_reducible refine w_sl ?_
  | with_reducible refine w_noPart ?_
  | with_reducible refine w_part ?_
  | with_reducible refine w_isI ?_
  | with_reducible refine w_revL ?_
  | with_reducible refine w_isN ?_
  | with_reducible refine w_notN ?_
  | with_reducible refine w_bits ?_
  | with_reducible refine w_gcons ?_
  | with_reducible refine w_gnil ?_
  | with_reducible refine w_fld ?_
  | ((with_reducible apply w_wbase); assumption; (walk_at "hp"))
  | ((with_reducible apply w_wnum); assumption; (walk_at "hp"))
  | ((with_reducible apply w_wmark); assumption; (walk_at "hp"); intro _ _)
  | (((with_reducible apply w_wmod); assumption; (walk_at "hp")); intro _ _)
  | ((with_reducible apply w_mnum); assumption; (walk_at "hp"))
  | (((with_reducible apply w_mfac); assumption; (walk_at "hp")); intro _ _ _ _)
  | ((with_reducible apply w_klow); assumption; (walk_at "hp"))
  | ((with_reducible apply w_kshift); assumption; (walk_at "hp"))
  | ((with_reducible apply w_klead); assumption; (walk_at "hp"))
  | ((with_reducible apply w_setL); (walk_at "hp"); (exact rfl))
  | ((with_reducible apply w_len); (walk_at "hp"))
  | ((with_reducible apply w_lenT); (walk_at "hp"))
  | with_reducible refine while_n ?_
  | with_reducible refine while_nm ?_
  | with_reducible refine w_cO ?_
  | with_reducible refine w_m1 ?_
  | with_reducible refine w_isStr ?_
  | ((with_reducible apply w_tyL); (walk_at "hp"))
  | with_reducible refine w_makeK ?_
  | with_reducible refine w_callN ?_
  | ((with_reducible apply w_gtup); (walk_at "hp"); (exact rfl))
  | ((with_reducible apply w_unl); (walk_at "hp"); (exact rfl))
  | with_reducible refine w_sfld ?_
  | with_reducible refine w_make ?_
  | with_reducible refine w_meth ?_
  | with_reducible refine w_iEnum ?_
  | with_reducible refine w_lc ?_
  | with_reducible refine w_iStr ?_
  | with_reducible refine w_isS ?_
  | with_reducible refine w_leS ?_
  | with_reducible refine w_ord ?_
  | ((with_reducible apply w_iL); (walk_at "hp"))
  | ((with_reducible apply w_iT); (walk_at "hp"))
  | with_reducible refine w_bm ?_
  | with_reducible refine w_callX ?_
  | with_reducible refine w_mkO ?_
  | with_reducible refine w_xf ?_
  | with_reducible refine w_lstRg ?_
  | with_reducible refine w_rg1 ?_
  | with_reducible refine w_rg2 ?_
  | with_reducible refine w_rg2i ?_
  | ((with_reducible refine w_rgok ?_ ?_); omega)
  | with_reducible refine w_dnew ?_
  | with_reducible refine w_isB ?_
  | with_reducible refine w_strB ?_
  | with_reducible refine w_iRng3 ?_
  | with_reducible refine w_lstB ?_
  | with_reducible refine w_iZip ?_
  | ((with_reducible apply w_zipi); (walk_at "hp"); (walk_at "hp"))
  | with_reducible refine w_methK ?_
  | with_reducible refine w_cOK ?_
  | with_reducible refine w_makeX ?_
  | with_reducible refine w_makeKS ?_
  | with_reducible refine w_methX ?_
  | with_reducible refine w_mkV ?_
  | with_reducible refine w_rev0 ?_
  | with_reducible refine w_xk ?_
  | with_reducible refine w_lenSet ?_
  | with_reducible refine w_cOX ?_
  | with_reducible refine w_augS ?_
  | with_reducible refine w_lenSet1 ?_
  | with_reducible refine w_bm0 ?_)
local macro_rules | `(tactic| walk_at "go") => `(tactic| repeat (walk_at "go1"))
local macro_rules | `(tactic| walk_at "goI") => `(tactic| repeat ((fail_if_success (with_reducible refine w_if ?_)); walk_at "go1"))
namespace Lw
open PySem PySem.Spec PyProof.Rows L2 Bc C8
def top (i : Nat) : Stmt := PySem.Challenge.pw_baseclash_k63_counted_texts.main.body.getD i (.Pass ⟨0, 0, 0, 0⟩)
section
variable {P : Program} {w : World} {K : PySem.W.Frag} {mg : Str → Option Value} {base : Heap}

abbrev s_isint : Stmt := (top 15)
theorem sc_isint : FnScope ["thing"] ["thing"] (defScope s_isint) :=
  ⟨rfl, rfl, rfl, by decide +kernel, rfl, by decide +kernel, by decide +kernel⟩
theorem ok_isint (F : Dn K mg "is_integer" s_isint ["thing"]) (T : Bt mg) : Cal P w K mg base 1 "is_integer" (spIsInt K) [] := by
  refine F.cal sc_isint (fun vs H Q E h => ?_) (fun f cdv A outer s H vs Q E hr h => ?_)
  · obtain ⟨v, t, b1, b2, rfl, _⟩ := h
    rfl
  · obtain ⟨v, t, b1, b2, rfl, ty, k1, k2, q⟩ := h
    refine ⟨_, (pss_one (ps_ret (pe_and (pe_callB call_isi (by rfl) T.isinstance (by decide +kernel) (pa_cons (pv 0) (pa_cons (pe_bltn (v := .ty "int") (by rfl) T.int (by decide +kernel) rfl) pa_nil))) (pe_one (pe_not (pe_callB call_isi (by rfl) T.isinstance (by decide +kernel) (pa_cons (pv 0) (pa_cons (pe_bltn (v := .ty "bool") (by rfl) T.bool (by decide +kernel) rfl) pa_nil)))))))), ?_⟩
    walk_at "go"
    refine w_isi ty k1 ?_
    walk_at "go"
    cases b1 with
    | false => exact iteF q
    | true =>
      refine iteT ?_
      walk_at "go"
      refine w_isi ty k2 ?_
      walk_at "go"
      exact q
abbrev s_raised : Stmt := (top 16)
theorem sc_raised : FnScope ["factor", "power", "found", "turn"] ["factor", "power"] (defScope s_raised) :=
  ⟨rfl, rfl, rfl, by decide +kernel, rfl, by decide +kernel, by decide +kernel⟩
theorem ok_raised (F : Dn K mg "raised" s_raised ["factor", "power"]) (T : Bt mg) : Cal P w K mg base 1 "raised" spRaised [] := by
  refine F.cal sc_raised (fun vs H Q E h => ?_) (fun f cdv A outer s H vs Q E hr h => ?_)
  · obtain ⟨g, p, b, rfl, _⟩ := h
    rfl
  · obtain ⟨g, p, b, rfl, p0, p1, gb, hb, q⟩ := h
    refine ⟨_, (pss_cons (ps_set (i := 2) sc_raised.nd rfl (Or.inl rfl) pe_int)
      (pss_cons (ps_for PassesOwn.never rfl (pi_range1 (by rfl) T.range (pa_cons (pv 1) pa_nil)) (pg_name (i := 3) sc_raised.nd rfl (Or.inl rfl)) (pss_one (ps_set (i := 2) sc_raised.nd rfl (Or.inl rfl) (pe_op oMul (pv 2) (pv 0)))))
      (pss_one (ps_ret (pv 2))))), ?_⟩
    walk_at "go"
    refine for_range (lo := 0) (n := p.toNat) (fun i σ H' => ∃ (u : Option V), σ = [some (.int g), some (.int p), some (.int (g ^ i)), u] ∧ H' = H)
      ⟨none, by rw [Int.pow_zero], rfl⟩ ?_ ?_
    · rintro i σ H' hi ⟨u, rfl, rfl⟩
      walk_at "go"
      · exact ⟨_, by rw [Int.pow_succ], rfl⟩
      · refine mx_w (natAbs_pow_lt gb i) gb ?_
        have h1 : b * i ≤ b * p.toNat := Nat.mul_le_mul_left b (by omega)
        omega
    · rintro σ H' ⟨u, rfl, rfl⟩
      walk_at "go"
      exact q
abbrev s_prime : Stmt := (top 18)
theorem sc_prime : FnScope ["number", "divisor"] ["number"] (defScope s_prime) :=
  ⟨rfl, rfl, rfl, by decide +kernel, rfl, by decide +kernel, by decide +kernel⟩
theorem ok_prime (F : Dn K mg "is_prime_number" s_prime ["number"]) (T : Bt mg) : Cal P w K mg base 1 "is_prime_number" spPrime [] := by
  refine F.cal sc_prime (fun vs H Q E h => ?_) (fun f cdv A outer s H vs Q E hr h => ?_)
  · obtain ⟨n, rfl, _⟩ := h
    rfl
  · obtain ⟨n, rfl, n1, q⟩ := h
    refine ⟨_, (pss_cons (ps_set (i := 1) sc_prime.nd rfl (Or.inl rfl) pe_int)
      (pss_cons (ps_while PassesOwn.never (pt_cmpR op_le (pe_op oMul (pv 1) (pv 1)) (pv 0) (nomark _)) (pss_cons (ps_if (pt_cmpR op_eq (pe_op op_mod (pv 0) (pv 1)) pe_int (nomark _)) (pss_one (ps_ret pe_bl)) pss_nil)
      (pss_one (ps_aug (i := 1) sc_prime.nd rfl (Or.inl rfl) pe_int ip_add))))
      (pss_one (ps_ret (pe_cmpR op_gt (pv 0) pe_int (nomark _)))))), ?_⟩
    walk_at "go"
    refine while_go (fun σ H' => ∃ d : Int, σ = [some (.int n), some (.int d)] ∧ 2 ≤ d ∧ d ≤ 2 ^ 31 ∧ (∀ e : Int, 2 ≤ e → e < d → n % e ≠ 0) ∧ H' = H) (fun σ _ => match σ with | [_, some (.int d)] => (2 ^ 31 - d).toNat | _ => 0)
      ⟨2, rfl, by decide, by decide, fun e h1 h2 => by omega, rfl⟩ ?_
    rintro σ H' ⟨d, rfl, d2, d3, hd, rfl⟩
    walk_at "go"
    refine ite_d (fun h => ?_) (fun h => ?_)
    · have hd30 : d < 2 ^ 31 - 1 := by
        refine Int.not_le.mp fun z => ?_
        have h4 : (2 ^ 31 - 1) * (2 ^ 31 - 1) ≤ d * d := Int.mul_le_mul z z (by decide) (by omega)
        omega
      walk_at "go"
      refine ite_d (fun h2 => ?_) (fun h2 => ?_)
      · walk_at "go"
        have e0 : n % d = 0 := by injection h2
        exact q false ⟨(fun z => by cases z), fun z => absurd e0 (z.2 d d2 h)⟩
      · walk_at "go"
        have e0 : n % d ≠ 0 := fun z => h2 (by rw [z])
        refine ⟨?_, d + 1, rfl, by omega, by omega, fun e h3 h4 => ?_, rfl⟩
        · show (2 ^ 31 - (d + 1)).toNat < (2 ^ 31 - d).toNat
          omega
        · by_cases h5 : e = d
          · rw [h5]; exact e0
          · exact hd e h3 (by omega)
    · walk_at "go"
      refine q _ ?_
      rw [decide_eq_true_iff]
      refine ⟨fun z => ⟨z, fun e h1 h2 => ?_⟩, fun z => z.1⟩
      by_cases h5 : e < d
      · exact hd e h1 h5
      · exfalso
        have h4 : d * d ≤ e * e := Int.mul_le_mul (by omega) (by omega) (by omega) (by omega)
        omega

abbrev s_istext : Stmt := (top 20)
theorem sc_istext : FnScope ["thing", "sign", "letter"] ["thing"] (defScope s_istext) :=
  ⟨rfl, rfl, rfl, by decide +kernel, rfl, by decide +kernel, by decide +kernel⟩
theorem ok_istext (F : Dn K mg "is_text" s_istext ["thing"]) (T : Bt mg) (c_isint : Cal P w K mg base 1 "is_integer" (spIsInt K) []) : Cal P w K mg base 2 "is_text" spIsText [] := by
  refine F.cal sc_istext (fun vs H Q E h => ?_) (fun f cdv A outer s H vs Q E hr h => ?_)
  · obtain ⟨v, ls, rfl, _⟩ := h
    rfl
  · obtain ⟨v, ls, rfl, tx, k⟩ := h
    cases tx with
    | str z hz hl =>
      refine ⟨_, (pss_cons (ps_if (pt_val (pe_callB call_isi (by rfl) T.isinstance (by decide +kernel) (pa_cons (pv 0) (pa_cons (pe_bltn (v := .ty "str") (by rfl) T.str (by decide +kernel) rfl) pa_nil)))) (pss_one (ps_ret (pe_callB (cr_all rfl) (by rfl) T.all (by decide +kernel) (pa_cons (pe_lc (own := [("sign", 1)]) (g := gName 1) (tt := tYes) (te := (tChain _ _ _ (tVar 1) _)) rfl sc_istext.nd (pi_str (pv 0)) (blkOk_by (own := [("sign", 1)]) (N := ["thing", "sign", "letter"]) (sc := defScope s_istext) (by decide +kernel)) (fun _ _ _ _ _ => (pg_name (i := 1) sc_istext.nd rfl (Or.inl rfl))) (fun _ _ _ _ _ => pts_nil) (fun _ _ _ _ _ => (pe_chain oLeS oLeS pe_str (pv 1) pe_str))) pa_nil)))) pss_nil)
      (pss_one (ps_ret (pe_and (pe_callB call_isiT (by rfl) T.isinstance (by decide +kernel) (pa_cons (pv 0) (pa_cons (pe_tup (pa_cons (pe_bltn (v := .ty "list") (by rfl) T.list (by decide +kernel) rfl) (pa_cons (pe_bltn (v := .ty "tuple") (by rfl) T.tuple (by decide +kernel) rfl) pa_nil))) pa_nil))) (pe_one (pe_callB (cr_all rfl) (by rfl) T.all (by decide +kernel) (pa_cons (pe_lc (own := [("letter", 2)]) (g := gName 2) (tt := tYes) (te := (tCall _ _ _ (tCons (tVar 2) tNil))) rfl sc_istext.nd (pi_list (pv 0)) (blkOk_by (own := [("letter", 2)]) (N := ["thing", "sign", "letter"]) (sc := defScope s_istext) (by decide +kernel)) (fun _ _ _ _ _ => (pg_name (i := 2) sc_istext.nd rfl (Or.inl rfl))) (fun _ _ _ _ _ => pts_nil) (fun _ _ _ _ _ => (pe_c c_isint hr (by decide) (by rfl) (pa_cons (pv 2) pa_nil)))) pa_nil))))))), ?_⟩
      walk_at "go"
      refine w_isi (b := true) (.base (.str z)) (kit_ty (by decide +kernel)) ?_
      walk_at "go"
      refine iteT ?_
      walk_at "go"
      intro D hD
      refine lc_pure (z.cps.toList.map fun c => V.str ⟨#[c]⟩) ((z.cps.toList.map fun _ => true).map V.bl) walk_strY hD (fun _ _ => trivial) (by simp) (by simp; exact hl) (fun _ => rfl) ?_ ?_
      · intro i x y H' hx hy sm Q' q'
        obtain ⟨c, hc, rfl⟩ := get_map hx
        obtain ⟨b, hb, rfl⟩ := get_map hy
        obtain ⟨d, hd, rfl⟩ := get_map hb
        have hr := hz c (List.mem_of_getElem? hc)
        walk_at "go"
        rw [sign_lo hr.1]
        refine iteT ?_
        walk_at "go"
        rw [sign_hi hr.2]
        exact q' _ (Same.refl _)
      · intro H' sm hH
        walk_at "go"
        refine w_all (sq hH) ?_
        rw [all_true]
        exact k _ sm
    | lst a _ h l =>
      refine ⟨_, (pss_cons (ps_if (pt_val (pe_callB call_isi (by rfl) T.isinstance (by decide +kernel) (pa_cons (pv 0) (pa_cons (pe_bltn (v := .ty "str") (by rfl) T.str (by decide +kernel) rfl) pa_nil)))) (pss_one (ps_ret (pe_callB (cr_all rfl) (by rfl) T.all (by decide +kernel) (pa_cons (pe_lc (own := [("sign", 1)]) (g := gName 1) (tt := tYes) (te := (tChain _ _ _ (tVar 1) _)) rfl sc_istext.nd (pi_str (pv 0)) (blkOk_by (own := [("sign", 1)]) (N := ["thing", "sign", "letter"]) (sc := defScope s_istext) (by decide +kernel)) (fun _ _ _ _ _ => (pg_name (i := 1) sc_istext.nd rfl (Or.inl rfl))) (fun _ _ _ _ _ => pts_nil) (fun _ _ _ _ _ => (pe_chain oLeS oLeS pe_str (pv 1) pe_str))) pa_nil)))) pss_nil)
      (pss_one (ps_ret (pe_and (pe_callB call_isiT (by rfl) T.isinstance (by decide +kernel) (pa_cons (pv 0) (pa_cons (pe_tup (pa_cons (pe_bltn (v := .ty "list") (by rfl) T.list (by decide +kernel) rfl) (pa_cons (pe_bltn (v := .ty "tuple") (by rfl) T.tuple (by decide +kernel) rfl) pa_nil))) pa_nil))) (pe_one (pe_callB (cr_all rfl) (by rfl) T.all (by decide +kernel) (pa_cons (pe_lc (own := [("letter", 2)]) (g := gName 2) (tt := tYes) (te := (tCall _ _ _ (tCons (tVar 2) tNil))) rfl sc_istext.nd (pi_list (pv 0)) (blkOk_by (own := [("letter", 2)]) (N := ["thing", "sign", "letter"]) (sc := defScope s_istext) (by decide +kernel)) (fun _ _ _ _ _ => (pg_name (i := 2) sc_istext.nd rfl (Or.inl rfl))) (fun _ _ _ _ _ => pts_nil) (fun _ _ _ _ _ => (pe_c c_isint hr (by decide) (by rfl) (pa_cons (pv 2) pa_nil)))) pa_nil))))))), ?_⟩
      walk_at "go"
      refine w_isi (b := false) (.base (.lst h)) (kit_ty (by decide +kernel)) ?_
      walk_at "go"
      refine iteF ?_
      walk_at "go"
      intro p hp
      walk_at "go"
      have h1 := upd_new (o := .tup [.ty "list", .ty "tuple"]) hp h
      refine w_isi2 (b := true) upd_same (.base (.lst h1)) (kitA (by decide +kernel)) ?_
      walk_at "go"
      refine iteT ?_
      walk_at "go"
      intro D hD
      refine lc_pure (ls.map V.int) ((ls.map fun _ => true).map V.bl) walk_list hD (fun _ sm => sq (sm _ _ h1)) (by simp) (by simp; exact l) (fun _ => rfl) ?_ ?_
      · intro i x y H' hx hy sm Q' q'
        obtain ⟨c, hc, rfl⟩ := get_map hx
        obtain ⟨b, hb, rfl⟩ := get_map hy
        obtain ⟨d, hd, rfl⟩ := get_map hb
        walk_at "go"
        refine use_isInt ?_
        exact q' _ (Same.refl _)
      · intro H' sm hH
        walk_at "go"
        refine w_all (sq hH) ?_
        rw [all_true]
        exact k _ ((Same.new hp).trans sm)
    | tup a _ h l =>
      refine ⟨_, (pss_cons (ps_if (pt_val (pe_callB call_isi (by rfl) T.isinstance (by decide +kernel) (pa_cons (pv 0) (pa_cons (pe_bltn (v := .ty "str") (by rfl) T.str (by decide +kernel) rfl) pa_nil)))) (pss_one (ps_ret (pe_callB (cr_all rfl) (by rfl) T.all (by decide +kernel) (pa_cons (pe_lc (own := [("sign", 1)]) (g := gName 1) (tt := tYes) (te := (tChain _ _ _ (tVar 1) _)) rfl sc_istext.nd (pi_str (pv 0)) (blkOk_by (own := [("sign", 1)]) (N := ["thing", "sign", "letter"]) (sc := defScope s_istext) (by decide +kernel)) (fun _ _ _ _ _ => (pg_name (i := 1) sc_istext.nd rfl (Or.inl rfl))) (fun _ _ _ _ _ => pts_nil) (fun _ _ _ _ _ => (pe_chain oLeS oLeS pe_str (pv 1) pe_str))) pa_nil)))) pss_nil)
      (pss_one (ps_ret (pe_and (pe_callB call_isiT (by rfl) T.isinstance (by decide +kernel) (pa_cons (pv 0) (pa_cons (pe_tup (pa_cons (pe_bltn (v := .ty "list") (by rfl) T.list (by decide +kernel) rfl) (pa_cons (pe_bltn (v := .ty "tuple") (by rfl) T.tuple (by decide +kernel) rfl) pa_nil))) pa_nil))) (pe_one (pe_callB (cr_all rfl) (by rfl) T.all (by decide +kernel) (pa_cons (pe_lc (own := [("letter", 2)]) (g := gName 2) (tt := tYes) (te := (tCall _ _ _ (tCons (tVar 2) tNil))) rfl sc_istext.nd (pi_tup (pv 0)) (blkOk_by (own := [("letter", 2)]) (N := ["thing", "sign", "letter"]) (sc := defScope s_istext) (by decide +kernel)) (fun _ _ _ _ _ => (pg_name (i := 2) sc_istext.nd rfl (Or.inl rfl))) (fun _ _ _ _ _ => pts_nil) (fun _ _ _ _ _ => (pe_c c_isint hr (by decide) (by rfl) (pa_cons (pv 2) pa_nil)))) pa_nil))))))), ?_⟩
      walk_at "go"
      refine w_isi (b := false) (.base (.tup h)) (kit_ty (by decide +kernel)) ?_
      walk_at "go"
      refine iteF ?_
      walk_at "go"
      intro p hp
      walk_at "go"
      have h1 := upd_new (o := .tup [.ty "list", .ty "tuple"]) hp h
      refine w_isi2 (b := true) upd_same (.base (.tup h1)) (kitA (by decide +kernel)) ?_
      walk_at "go"
      refine iteT ?_
      walk_at "go"
      intro D hD
      refine lc_pure (ls.map V.int) ((ls.map fun _ => true).map V.bl) walk_tup hD (fun _ sm => sqt (sm _ _ h1)) (by simp) (by simp; exact l) (fun _ => rfl) ?_ ?_
      · intro i x y H' hx hy sm Q' q'
        obtain ⟨c, hc, rfl⟩ := get_map hx
        obtain ⟨b, hb, rfl⟩ := get_map hy
        obtain ⟨d, hd, rfl⟩ := get_map hb
        walk_at "go"
        refine use_isInt ?_
        exact q' _ (Same.refl _)
      · intro H' sm hH
        walk_at "go"
        refine w_all (sq hH) ?_
        rw [all_true]
        exact k _ ((Same.new hp).trans sm)
abbrev s_read : Stmt := (top 21)
theorem sc_read : FnScope ["text", "sign"] ["text"] (defScope s_read) :=
  ⟨rfl, rfl, rfl, by decide +kernel, rfl, by decide +kernel, by decide +kernel⟩
theorem ok_read (F : Dn K mg "read" s_read ["text"]) (T : Bt mg) : Cal P w K mg base 1 "read" spRead [] := by
  refine F.cal sc_read (fun vs H Q E h => ?_) (fun f cdv A outer s H vs Q E hr h => ?_)
  · obtain ⟨v, ls, rfl, _⟩ := h
    rfl
  · obtain ⟨v, ls, rfl, tx, k⟩ := h
    refine ⟨_, (pss_cons (ps_if (pt_val (pe_callB call_isi (by rfl) T.isinstance (by decide +kernel) (pa_cons (pv 0) (pa_cons (pe_bltn (v := .ty "str") (by rfl) T.str (by decide +kernel) rfl) pa_nil)))) (pss_one (ps_ret (pe_callTy cTupOf (by rfl) T.tuple (by decide +kernel) (pa_cons (pe_lc (own := [("sign", 1)]) (g := gName 1) (tt := tYes) (te := (tCB _ (tCons (tVar 1) tNil))) rfl sc_read.nd (pi_str (pv 0)) (blkOk_by (own := [("sign", 1)]) (N := ["text", "sign"]) (sc := defScope s_read) (by decide +kernel)) (fun _ _ _ _ _ => (pg_name (i := 1) sc_read.nd rfl (Or.inl rfl))) (fun _ _ _ _ _ => pts_nil) (fun _ _ _ _ _ => (pe_callB cOrd (by rfl) T.ord (by decide +kernel) (pa_cons (pv 1) pa_nil)))) pa_nil)))) pss_nil)
      (pss_one (ps_ret (pe_callTy cTupOf (by rfl) T.tuple (by decide +kernel) (pa_cons (pv 0) pa_nil))))), ?_⟩
    cases tx with
    | str z hz hl =>
      walk_at "go"
      refine w_isi (b := true) (.base (.str z)) (kit_ty (by decide +kernel)) ?_
      walk_at "go"
      refine iteT ?_
      walk_at "go"
      intro D hD
      refine lc_pure (z.cps.toList.map fun c => V.str ⟨#[c]⟩) ((z.cps.toList.map Int.ofNat).map V.int) walk_strY hD (fun _ _ => trivial) (by simp) (by simp; exact hl) (fun _ => rfl) ?_ ?_
      · intro i x y H' hx hy sm Q' q'
        obtain ⟨c, hc, rfl⟩ := get_map hx
        obtain ⟨b, hb, rfl⟩ := get_map hy
        obtain ⟨d, hd, rfl⟩ := get_map hb
        rw [hc] at hd
        cases hd
        walk_at "go"
        exact q' _ (Same.refl _)
      · intro H' sm hH
        walk_at "go"
        refine w_tupL (sq hH) fun t ht => ?_
        walk_at "go"
        exact k _ _ (sm.trans (Same.new ht)) upd_same
    | lst a _ h l =>
      walk_at "go"
      refine w_isi (b := false) (.base (.lst h)) (kit_ty (by decide +kernel)) ?_
      walk_at "go"
      refine iteF ?_
      walk_at "go"
      refine w_tupL (sq h) fun t ht => ?_
      walk_at "go"
      exact k _ _ (Same.new ht) upd_same
    | tup a _ h l =>
      walk_at "go"
      refine w_isi (b := false) (.base (.tup h)) (kit_ty (by decide +kernel)) ?_
      walk_at "go"
      refine iteF ?_
      walk_at "go"
      refine w_tupT (sqt h) ?_
      walk_at "go"
      exact k _ _ (Same.refl _) h
abbrev s_reqtext : Stmt := (top 22)
theorem sc_reqtext : FnScope ["thing"] ["thing"] (defScope s_reqtext) :=
  ⟨rfl, rfl, rfl, by decide +kernel, rfl, by decide +kernel, by decide +kernel⟩
theorem ok_reqtext (F : Dn K mg "require_text" s_reqtext ["thing"]) (T : Bt mg) (c_istext : Cal P w K mg base 2 "is_text" spIsText []) (c_read : Cal P w K mg base 1 "read" spRead []) : Cal P w K mg base 3 "require_text" spRead [] := by
  refine F.cal sc_reqtext (fun vs H Q E h => ?_) (fun f cdv A outer s H vs Q E hr h => ?_)
  · obtain ⟨v, ls, rfl, _⟩ := h
    rfl
  · obtain ⟨v, ls, rfl, tx, k⟩ := h
    refine ⟨_, (pss_cons (ps_if (pt_not (pt_val (pe_c c_istext hr (by decide) (by rfl) (pa_cons (pv 0) pa_nil)))) (pss_one ps_never) pss_nil)
      (pss_one (ps_ret (pe_c c_read hr (by decide) (by rfl) (pa_cons (pv 0) pa_nil))))), ?_⟩
    walk_at "go"
    refine ⟨v, ls, rfl, tx, fun H1 s1 => ?_⟩
    walk_at "go"
    refine iteF ?_
    walk_at "go"
    refine ⟨v, ls, rfl, tx.same s1, fun H2 t s2 ht => ?_⟩
    walk_at "go"
    exact k _ _ (s1.trans s2) ht

abbrev s_isfac : Stmt := (top 26)
theorem sc_isfac : FnScope ["thing", "least", "prime", "power"] ["thing", "least"] (defScope s_isfac) :=
  ⟨rfl, rfl, rfl, by decide +kernel, rfl, by decide +kernel, by decide +kernel⟩
theorem ok_isfac (F : Dn K mg "is_factor" s_isfac ["thing", "least"]) (T : Bt mg) (c_isint : Cal P w K mg base 1 "is_integer" (spIsInt K) []) (c_prime : Cal P w K mg base 1 "is_prime_number" spPrime []) : Cal P w K mg base 2 "is_factor" spIsFactor [] := by
  refine F.cal sc_isfac (fun vs H Q E h => ?_) (fun f cdv A outer s H vs Q E hr h => ?_)
  · obtain ⟨t, l, p, k, rfl, _⟩ := h
    rfl
  · obtain ⟨t, l, p, k, rfl, ht, hp, q⟩ := h
    refine ⟨_, (pss_cons (ps_if (PW.pt (pw_or (pt_not (pt_val (pe_callB call_isi (by rfl) T.isinstance (by decide +kernel) (pa_cons (pv 0) (pa_cons (pe_bltn (v := .ty "tuple") (by rfl) T.tuple (by decide +kernel) rfl) pa_nil))))) (pw_or1 (pt_cmpR op_ne (pe_callB cLen (by rfl) T.len (by decide +kernel) (pa_cons (pv 0) pa_nil)) pe_int (nomark _))))) (pss_one (ps_ret pe_bl)) pss_nil)
      (pss_cons (ps_asg (pv 0) (pg_tup rfl (pgs_cons (pg_name (i := 2) sc_isfac.nd rfl (Or.inl rfl)) (pgs_cons (pg_name (i := 3) sc_isfac.nd rfl (Or.inl rfl)) pgs_nil))))
      (pss_cons (ps_if (PW.pt (pw_or (pt_not (pt_val (pe_c c_isint hr (by decide) (by rfl) (pa_cons (pv 2) pa_nil)))) (pw_or1 (pt_not (pt_val (pe_c c_isint hr (by decide) (by rfl) (pa_cons (pv 3) pa_nil))))))) (pss_one (ps_ret pe_bl)) pss_nil)
      (pss_one (ps_ret (pe_and (pe_cmpR op_gt (pv 2) (pv 1) (nomark _)) (pe_and (pe_cmpR op_gt (pv 3) pe_int (nomark _)) (pe_one (pe_c c_prime hr (by decide) (by rfl) (pa_cons (pv 2) pa_nil)))))))))), ?_⟩
    walk_at "go"
    refine w_isi (b := true) (.base (.tup ht)) (kit_ty (by decide +kernel)) ?_
    walk_at "go"
    refine iteF ?_
    walk_at "go"
    refine iteNS rfl ?_
    walk_at "go"
    refine use_isInt ?_
    walk_at "go"
    refine iteF ?_
    walk_at "go"
    refine use_isInt ?_
    walk_at "go"
    refine iteF ?_
    walk_at "go"
    refine ite_d (fun h1 => ?_) (fun h1 => ?_)
    · walk_at "go"
      refine ite_d (fun h2 => ?_) (fun h2 => ?_)
      · walk_at "go"
        refine ⟨p, rfl, hp, fun b hb => ?_⟩
        walk_at "go"
        exact q b (hb.trans ⟨fun z => ⟨h1, h2, z⟩, fun z => z.2.2⟩)
      · walk_at "go"
        exact q false ⟨(fun z => by cases z), fun z => absurd z.2.1 h2⟩
    · walk_at "go"
      exact q false ⟨(fun z => by cases z), fun z => absurd z.1 h1⟩
abbrev s_modinit : Stmt := (inClass (top 27) 0)
theorem sc_modinit : FnScope ["self", "factors", "number", "least", "place", "factor"] ["self", "factors"] (defScope s_modinit) :=
  ⟨rfl, rfl, rfl, by decide +kernel, rfl, by decide +kernel, by decide +kernel⟩
theorem ok_modinit {c : CA} {f : Addr} {fd : FuncData} (F : FunD K "__init__" "Modulus.__init__" (defArgs s_modinit) (defBody s_modinit) (defScope s_modinit) [] [] f fd) (T : Bt mg) (X : Kx K mg c) (c_isfac : Cal P w K mg base 2 "is_factor" spIsFactor []) (c_raised : Cal P w K mg base 1 "raised" spRaised []) :
    FnOk P w K mg base L2.CX0 3 f fd ["self", "factors"] (spModInit c) := by
  refine fnD_ok F sc_modinit (fun vs H Q E h => ?_) (fun cdv A outer s H vs Q E hr h => ?_)
  · obtain ⟨x, dx, l, ts, ps, rfl, _⟩ := h
    rfl
  · obtain ⟨x, dx, l, ts, ps, rfl, hx, hl, hp, ha, hs, k⟩ := h
    refine ⟨_, (pss_cons (ps_if (pt_not (pt_val (pe_callB call_isiT (by rfl) T.isinstance (by decide +kernel) (pa_cons (pv 1) (pa_cons (pe_tup (pa_cons (pe_bltn (v := .ty "list") (by rfl) T.list (by decide +kernel) rfl) (pa_cons (pe_bltn (v := .ty "tuple") (by rfl) T.tuple (by decide +kernel) rfl) pa_nil))) pa_nil))))) (pss_one ps_never) pss_nil)
      (pss_cons (ps_set (i := 2) sc_modinit.nd rfl (Or.inl rfl) pe_int)
      (pss_cons (ps_set (i := 3) sc_modinit.nd rfl (Or.inl rfl) pe_int)
      (pss_cons (ps_for PassesOwn.never rfl (pi_enum (by rfl) T.enumerate (pa_cons (pv 1) pa_nil)) (pg_tup rfl (pgs_cons (pg_name (i := 4) sc_modinit.nd rfl (Or.inl rfl)) (pgs_cons (pg_name (i := 5) sc_modinit.nd rfl (Or.inl rfl)) pgs_nil))) (pss_cons (ps_if (pt_not (pt_val (pe_c c_isfac hr (by decide) (by rfl) (pa_cons (pv 5) (pa_cons (pv 3) pa_nil))))) (pss_one ps_never) pss_nil)
      (pss_cons (ps_set (i := 3) sc_modinit.nd rfl (Or.inl rfl) (pe_ix ix_tup (pv 5) pe_int (fun _ _ => rfl)))
      (pss_one (ps_set (i := 2) sc_modinit.nd rfl (Or.inl rfl) (pe_op oMul (pv 2) (pe_c c_raised hr (by decide) (by rfl) (pa_cons (pe_ix ix_tup (pv 5) pe_int (fun _ _ => rfl)) (pa_cons (pe_ix ix_tup (pv 5) pe_int (fun _ _ => rfl)) pa_nil)))))))))
      (pss_cons (ps_fld (pv 0) (pv 2) rfl)
      (pss_one (ps_fld (pv 0) (pe_callTy cTupOf (by rfl) T.tuple (by decide +kernel) (pa_cons (pv 1) pa_nil)) rfl))))))), ?_⟩
    walk_at "go"
    intro p np
    walk_at "go"
    have hl1 := upd_new (o := .tup [.ty "list", .ty "tuple"]) np hl
    have hx1 := upd_new (o := .tup [.ty "list", .ty "tuple"]) np hx
    refine w_isi2 (b := true) upd_same (.base (.lst hl1)) (kitA (by decide +kernel)) ?_
    walk_at "go"
    refine iteF ?_
    walk_at "go"
    refine w_enumi (sq hl1) ?_
    refine for_it (walk_enum (xs := ts.map V.ref)) (fun i σ H' => ∃ (u1 u2 : Option V), σ = [some (.ref x), some (.ref l), some (.int (num (ps.take i))), some (.int (((ps.take i).getLast?.map (·.1)).getD 0)), u1, u2] ∧ Same (upd H p (.tup [.ty "list", .ty "tuple"])) H')
      ⟨none, none, rfl, Same.refl _⟩ (fun i σ H' _ z => by obtain ⟨_, _, _, z⟩ := z; exact sq (z _ _ hl1)) ?_ ?_
    · rintro i y σ H1 H2 hi ⟨u1, u2, rfl, sm⟩ ⟨t, z1, z2, rfl, nt, rfl, e1, e2⟩
      cases e1
      obtain ⟨tt, htt, rfl⟩ := get_map e2
      obtain ⟨pr, hpr, ht⟩ := paired_get hp htt
      have s2 : Same H (upd H1 t (.tup [.int (i : Nat), .ref tt])) := (Same.new np).trans (sm.trans (Same.new nt))
      have ht2 := s2 _ _ ht
      have hsm := hs.1 pr (List.mem_of_getElem? hpr)
      have hasc := ha.at_ hpr
      refine w_gtup (sqt upd_same) rfl ?_
      walk_at "go"
      refine ⟨tt, _, pr.1, pr.2, rfl, ht2, by omega, fun b hb => ?_⟩
      have hb1 : b = true := hb.mpr hasc
      subst hb1
      walk_at "go"
      refine iteF ?_
      walk_at "go"
      refine ⟨pr.1, pr.2, 10, rfl, by omega, by omega, by show pr.1.natAbs < 1024; omega, by omega, ?_⟩
      walk_at "go"
      · refine ⟨some (.int (i : Nat)), some (.ref tt), ?_, (sm.trans (Same.new nt))⟩
        have hi2 : i < ps.length := (List.getElem?_eq_some_iff.mp hpr).1
        have e3 : (ps.take (i + 1)).getLast? = some pr := by
          rw [List.take_succ_eq_append_getElem hi2, List.getLast?_concat, (List.getElem?_eq_some_iff.mp hpr).2]
        rw [num_take hpr, e3]
        rfl
      · have hi2 : i < ps.length := (List.getElem?_eq_some_iff.mp hpr).1
        have h7 := num_bound hs i (by omega)
        refine mx_w h7.2 (natAbs_pow_lt (b := 10) (by show pr.1.natAbs < 1024; omega) pr.2.toNat) ?_
        have := hs.2
        omega
    · rintro σ H1 ⟨u1, u2, rfl, sm⟩
      have hlen : (ts.map V.ref).length = ps.length := by
        rw [List.length_map]
        exact hp.length.symm
      rw [hlen, List.take_length]
      have hx2 := sm _ _ hx1
      have hl2 := sm _ _ hl1
      walk_at "go"
      refine w_sfldi hx2 X.md.cl X.number (by decide) ?_
      walk_at "go"
      have nxl : l ≠ x := fun z => by rw [z, hx] at hl; cases hl
      refine w_tupL (sq ((upd_ne nxl).trans hl2)) fun t ht => ?_
      walk_at "go"
      have nxt : x ≠ t := fun z => by rw [z, upd_same] at ht; cases ht
      refine w_sfldi ((upd_ne nxt).trans upd_same) X.md.cl X.factors (by show 1 < 1000; decide) ?_
      walk_at "go"
      refine k _ t (fun b o nb hb => ?_) ?_ ?_
      · have hb2 := sm _ _ (Same.new np _ _ hb)
        have hbt : b ≠ t := fun z => by rw [z] at nb hb2; rw [upd_ne nb, hb2] at ht; cases ht
        rw [upd_ne nb, upd_ne hbt, upd_ne nb]
        exact hb2
      · rw [upd_same]
        show some (HO.ins c.md dx (putF "factors" (.ref t) [("number", _)])) = _
        rw [putS (by decide +kernel)]
        rfl
      · rw [upd_ne nxt.symm, upd_same]

abbrev s_reqmod : Stmt := (top 28)
theorem sc_reqmod : FnScope ["modulus"] ["modulus"] (defScope s_reqmod) :=
  ⟨rfl, rfl, rfl, by decide +kernel, rfl, by decide +kernel, by decide +kernel⟩
theorem ok_reqmod {c : CA} (F : Dn K mg "require_modulus" s_reqmod ["modulus"]) (T : Bt mg) (X : Kx K mg c) : Cal P w K mg base 1 "require_modulus" (spReqMod c) [] := by
  refine F.cal sc_reqmod (fun vs H Q E h => ?_) (fun f cdv A outer s H vs Q E hr h => ?_)
  · obtain ⟨m, dx, fs, rfl, _⟩ := h
    rfl
  · obtain ⟨m, dx, fs, rfl, hm, q⟩ := h
    refine ⟨_, (pss_one (ps_if (pt_not (pt_val (pe_callB call_isi (by rfl) T.isinstance (by decide +kernel) (pa_cons (pv 0) (pa_cons (pe_glob (v := .ref c.md) (by rfl) X.mgMd rfl) pa_nil))))) (pss_one ps_never) pss_nil)), ?_⟩
    walk_at "go"
    refine w_isiC (X.md.ty hm) kit_own ?_
    walk_at "go"
    refine iteF ?_
    walk_at "go"
    exact q
abbrev s_mkinit : Stmt := (inClass (top 30) 0)
theorem sc_mkinit : FnScope ["self", "low", "shift", "lead"] ["self", "low", "shift", "lead"] (defScope s_mkinit) :=
  ⟨rfl, rfl, rfl, by decide +kernel, rfl, by decide +kernel, by decide +kernel⟩
theorem ok_mkinit {c : CA} {f : Addr} {fd : FuncData} {kws : List (Str × V)} (F : FunD K "__init__" "Marking.__init__" (defArgs s_mkinit) (defBody s_mkinit) (defScope s_mkinit) [] kws f fd) (T : Bt mg) (X : Kx K mg c) (c_isint : Cal P w K mg base 1 "is_integer" (spIsInt K) []) :
    FnOk P w K mg base L2.CX0 2 f fd ["self", "low", "shift", "lead"] (spMkInit c) := by
  refine fnD_ok F sc_mkinit (fun vs H Q E h => ?_) (fun cdv A outer s H vs Q E hr h => ?_)
  · obtain ⟨x, dx, l, sh, d, rfl, _⟩ := h
    rfl
  · obtain ⟨x, dx, l, sh, d, rfl, hx, k⟩ := h
    refine ⟨_, (pss_cons (ps_if (pt_not (pt_val (pe_callB call_isi (by rfl) T.isinstance (by decide +kernel) (pa_cons (pv 1) (pa_cons (pe_bltn (v := .ty "bool") (by rfl) T.bool (by decide +kernel) rfl) pa_nil))))) (pss_one ps_never) pss_nil)
      (pss_cons (ps_if (pt_not (pt_val (pe_c c_isint hr (by decide) (by rfl) (pa_cons (pv 2) pa_nil)))) (pss_one ps_never) pss_nil)
      (pss_cons (ps_if (pt_not (pt_val (pe_callB call_isi (by rfl) T.isinstance (by decide +kernel) (pa_cons (pv 3) (pa_cons (pe_bltn (v := .ty "bool") (by rfl) T.bool (by decide +kernel) rfl) pa_nil))))) (pss_one ps_never) pss_nil)
      (pss_cons (ps_fld (pv 0) (pv 1) rfl)
      (pss_cons (ps_fld (pv 0) (pv 2) rfl)
      (pss_one (ps_fld (pv 0) (pv 3) rfl))))))), ?_⟩
    walk_at "go"
    refine w_isi (b := true) (.base (.bl l)) (kit_ty (by decide +kernel)) ?_
    walk_at "go"
    refine iteF ?_
    walk_at "go"
    refine use_isInt ?_
    walk_at "go"
    refine iteF ?_
    walk_at "go"
    refine w_isi (b := true) (.base (.bl d)) (kit_ty (by decide +kernel)) ?_
    walk_at "go"
    refine iteF ?_
    walk_at "go"
    refine w_sfldi hx X.kg.cl X.low (by decide) ?_
    walk_at "go"
    refine w_sfldi upd_same X.kg.cl X.shift (by show 1 < 1000; decide) ?_
    walk_at "go"
    refine w_sfldi upd_same X.kg.cl X.lead (by rw [put0, putS (by decide +kernel)]; show 2 < 1000; decide) ?_
    walk_at "go"
    refine k _ (fun b o nb hb => by rw [upd_ne nb, upd_ne nb, upd_ne nb]; exact hb) ?_
    rw [upd_same, put0, putS (by decide +kernel), put0, putS (by decide +kernel), putS (by decide +kernel)]
    rfl
abbrev s_hf : Stmt := (inClass (top 30) 2)
theorem sc_hf : FnScope ["self", "letters", "found", "letter"] ["self", "letters"] (defScope s_hf) :=
  ⟨rfl, rfl, rfl, by decide +kernel, rfl, by decide +kernel, by decide +kernel⟩
theorem ok_hf {c : CA} {f : Addr} {fd : FuncData} (F : FunD K "highest_first" "Marking.highest_first" (defArgs s_hf) (defBody s_hf) (defScope s_hf) [] [] f fd) (T : Bt mg) (X : Kx K mg c) :
    FnOk P w K mg base L2.CX0 1 f fd ["self", "letters"] (spHf c) := by
  refine fnD_ok F sc_hf (fun vs H Q E h => ?_) (fun cdv A outer s H vs Q E hr h => ?_)
  · obtain ⟨k, a, y, ls, rfl, _⟩ := h
    rfl
  · obtain ⟨k, a, y, ls, rfl, ⟨dx, hk⟩, ha, hl, q⟩ := h
    refine ⟨_, (pss_cons (ps_setLc (i := 2) (own := [("letter", 3)]) (g := gName 3) (tt := tYes) (te := (tOp _ (tVar 3) (tFld K (tVar 0) "shift"))) rfl sc_hf.nd rfl rfl (sw_true rfl rfl rfl (by decide +kernel)) (pi_tup (pv 1)) (blkOk_by (own := [("letter", 3)]) (N := ["self", "letters", "found", "letter"]) (sc := defScope s_hf) (by decide +kernel)) (fun _ _ _ _ _ => (pg_name (i := 3) sc_hf.nd rfl (Or.inl rfl))) (fun _ _ _ _ _ => pts_nil) (fun _ _ _ _ _ => (pe_op op_add (pv 3) (pe_fld (pv 0) rfl))))
      (pss_cons (ps_if (pt_val (pe_fld (pv 0) rfl)) (pss_one (ps_set (i := 2) sc_hf.nd rfl (Or.inl rfl) (pe_revL (pv 2)))) pss_nil)
      (pss_one (ps_ret (pe_op op_cat (pe_lst (pa_cons (pe_callTy cInt1 (by rfl) T.int (by decide +kernel) (pa_cons (pe_fld (pv 0) rfl) pa_nil)) pa_nil)) (pv 2)))))), ?_⟩
    walk_at "go"
    intro D hD
    refine lc_pure (ls.map V.int) ((ls.map (· + y.shift)).map V.int) walk_tup hD (fun _ sm => sqt (sm _ _ ha)) (by simp) (by simp; exact hl) (fun _ => rfl) ?_ ?_
    · intro i x z H' hx hz sm Q' q'
      obtain ⟨u, hu, rfl⟩ := get_map hx
      obtain ⟨v, hv, rfl⟩ := get_map hz
      obtain ⟨v', hv', rfl⟩ := get_map hv
      rw [hu] at hv'
      cases hv'
      walk_at "go"
      refine w_fldi (sm _ _ hk) X.kg.cl X.shift mk_shift ?_
      walk_at "go"
      exact q' _ (Same.refl _)
    · intro H1 s1 hD1
      walk_at "go"
      refine w_fldi (s1 _ _ hk) X.kg.cl X.low mk_low ?_
      walk_at "go"
      have fin : ∀ (H2 : Hp) (d : Addr), Same H1 H2 → H2 d = some (.lst ((if y.low then (ls.map (· + y.shift)).reverse else ls.map (· + y.shift)).map V.int)) →
          ∀ p, H2 p = none → ∀ r, (upd H2 p (.lst [.int (if y.lead then 1 else 0)])) r = none → Q (.ref r) (upd (upd H2 p (.lst [.int (if y.lead then 1 else 0)])) r (.lst ([V.int (if y.lead then 1 else 0)] ++ (if y.low then (ls.map (· + y.shift)).reverse else ls.map (· + y.shift)).map V.int))) := fun H2 d s2 hd p hp r hr =>
        q _ r ((s1.trans s2).trans ((Same.new hp).trans (Same.new hr))) (by rw [upd_same]; rfl)
      have hlen : (if y.low then (ls.map (· + y.shift)).reverse else ls.map (· + y.shift)).length = ls.length := by split <;> simp
      have hsz : ([V.int (if y.lead then 1 else 0)] : List V).length + ((if y.low then (ls.map (· + y.shift)).reverse else ls.map (· + y.shift)).map V.int).length ≤ sizeLine := by
        rw [List.length_map, hlen]
        have : (100001 : Nat) ≤ sizeLine := by decide
        simp only [List.length_cons, List.length_nil]
        omega
      by_cases hlow : y.low = true
      · rw [hlow]
        refine iteT ?_
        walk_at "go"
        refine w_revi (sq hD1) fun e he => ?_
        walk_at "go"
        have hk2 := upd_new (o := .lst (((ls.map (· + y.shift)).map V.int).reverse)) he (s1 _ _ hk)
        refine w_fldi hk2 X.kg.cl X.lead mk_lead ?_
        walk_at "go"
        intro p hp
        walk_at "go"
        have hd2 : upd H1 e (.lst (((ls.map (· + y.shift)).map V.int).reverse)) e = some (.lst ((if y.low then (ls.map (· + y.shift)).reverse else ls.map (· + y.shift)).map V.int)) := by
          rw [upd_same, if_pos hlow, map_rev]
        refine w_cat upd_same (upd_new hp hd2) hsz ?_
        exact fin _ e (Same.new he) hd2 p hp
      · have hlow' : y.low = false := by simpa using hlow
        rw [hlow']
        refine iteF ?_
        walk_at "go"
        refine w_fldi (s1 _ _ hk) X.kg.cl X.lead mk_lead ?_
        walk_at "go"
        intro p hp
        walk_at "go"
        have hd2 : H1 D = some (.lst ((if y.low then (ls.map (· + y.shift)).reverse else ls.map (· + y.shift)).map V.int)) := by
          rw [hD1, if_neg hlow]
        refine w_cat upd_same (upd_new hp hd2) hsz ?_
        exact fin _ D (Same.refl _) hd2 p hp
abbrev s_mkof : Stmt := (top 31)
theorem sc_mkof : FnScope ["marking"] ["marking"] (defScope s_mkof) :=
  ⟨rfl, rfl, rfl, by decide +kernel, rfl, by decide +kernel, by decide +kernel⟩
theorem ok_mkof {c : CA} (F : Dn K mg "marking_of" s_mkof ["marking"]) (T : Bt mg) (X : Kx K mg c) (c_mk0 : Mak P w K mg base 2 "Marking" c.kg (spMkInit c) [.bl false, .int 0, .bl false]) : Cal P w K mg base 4 "marking_of" (spMkOf c) [] := by
  refine F.cal sc_mkof (fun vs H Q E h => ?_) (fun f cdv A outer s H vs Q E hr h => ?_)
  · obtain ⟨v, y, rfl, _⟩ := h
    rfl
  · obtain ⟨v, y, rfl, hv, q⟩ := h
    refine ⟨_, (pss_cons (ps_if (pt_cmpR op_isN1 (pv 0) pe_non (nomark _)) (pss_one (ps_ret (pe_mk0 c_mk0 hr (by decide) (by rfl)))) pss_nil)
      (pss_cons (ps_if (pt_not (pt_val (pe_callB call_isi (by rfl) T.isinstance (by decide +kernel) (pa_cons (pv 0) (pa_cons (pe_glob (v := .ref c.kg) (by rfl) X.mgMk rfl) pa_nil))))) (pss_one ps_never) pss_nil)
      (pss_one (ps_ret (pv 0))))), ?_⟩
    rcases hv with ⟨rfl, rfl⟩ | ⟨k, rfl, hk⟩
    · walk_at "go"
      refine iteT ?_
      walk_at "go"
      refine use_mk fun m H' _ s1 hm => ?_
      walk_at "go"
      exact q _ _ s1 hm
    · walk_at "go"
      refine iteF ?_
      walk_at "go"
      obtain ⟨dx, hk1⟩ := id hk
      refine w_isiC (X.kg.ty hk1) kit_own ?_
      walk_at "go"
      refine iteF ?_
      walk_at "go"
      exact q _ _ (Same.refl _) hk
abbrev s_restat : Stmt := (top 32)
theorem sc_restat : FnScope ["coefficients", "base", "number", "found", "coefficient"] ["coefficients", "base", "number"] (defScope s_restat) :=
  ⟨rfl, rfl, rfl, by decide +kernel, rfl, by decide +kernel, by decide +kernel⟩
theorem ok_restat (F : Dn K mg "rest_at" s_restat ["coefficients", "base", "number"]) (T : Bt mg) : Cal P w K mg base 1 "rest_at" spRestAt [] := by
  refine F.cal sc_restat (fun vs H Q E h => ?_) (fun f cdv A outer s H vs Q E hr h => ?_)
  · obtain ⟨a, cs, b, n, B, rfl, _⟩ := h
    rfl
  · obtain ⟨a, cs, b, n, B, rfl, ha, b0, bn, hB, hB2, q⟩ := h
    refine ⟨_, (pss_cons (ps_set (i := 3) sc_restat.nd rfl (Or.inl rfl) pe_int)
      (pss_cons (ps_for PassesOwn.never rfl (pi_list (pv 0)) (pg_name (i := 4) sc_restat.nd rfl (Or.inl rfl)) (pss_one (ps_set (i := 3) sc_restat.nd rfl (Or.inl rfl) (pe_op op_mod (pe_op op_add (pe_op oMul (pv 3) (pv 1)) (pv 4)) (pv 2)))))
      (pss_one (ps_ret (pv 3))))), ?_⟩
    walk_at "go"
    refine for_list (K := K) (a := a) (xs := cs.map V.int) (fun i σ H' => ∃ (u : Option V), σ = [some (.ref a), some (.int b), some (.int n), some (.int (restAt (cs.take i) b n)), u] ∧ H' = H)
      ⟨none, rfl, rfl⟩ (fun i σ H' _ z => by obtain ⟨_, _, rfl⟩ := z; exact sq ha) ?_ ?_
    · rintro i x σ H' hi ⟨u, rfl, rfl⟩
      obtain ⟨v, hv, rfl⟩ := get_map hi
      have hr := rest_range (b := b) (show 0 < n by omega) (cs.take i)
      walk_at "go"
      · exact ⟨_, by rw [rest_take hv], rfl⟩
      · exact mx_w (a := B) (b := B) (wide_le hr.1 (Int.le_of_lt hr.2) hB) (wide_le b0 (Int.le_of_lt bn) hB) (by omega)
    · rintro σ H' ⟨u, rfl, rfl⟩
      rw [List.length_map, List.take_length]
      walk_at "go"
      exact q
abbrev s_wayinit : Stmt := (inClass (top 33) 0)
theorem sc_wayinit : FnScope ["self", "base", "modulus", "marking"] ["self", "base", "modulus", "marking"] (defScope s_wayinit) :=
  ⟨rfl, rfl, rfl, by decide +kernel, rfl, by decide +kernel, by decide +kernel⟩
theorem ok_wayinit {c : CA} {f : Addr} {fd : FuncData} {dvs : List V} (F : FunD K "__init__" "Way.__init__" (defArgs s_wayinit) (defBody s_wayinit) (defScope s_wayinit) dvs [] f fd) (T : Bt mg) (X : Kx K mg c) (c_isint : Cal P w K mg base 1 "is_integer" (spIsInt K) [])
    (c_reqmod : Cal P w K mg base 1 "require_modulus" (spReqMod c) []) (c_mkof : Cal P w K mg base 4 "marking_of" (spMkOf c) []) :
    FnOk P w K mg base L2.CX0 5 f fd ["self", "base", "modulus", "marking"] (spWayInit c) := by
  refine fnD_ok F sc_wayinit (fun vs H Q E h => ?_) (fun cdv A outer s H vs Q E hr h => ?_)
  · obtain ⟨x, dx, m, b, mv, ps, y, rfl, _⟩ := h
    rfl
  · obtain ⟨x, dx, m, b, mv, ps, y, rfl, hx, hm, hk, q⟩ := h
    obtain ⟨dm, t, ts, hm1, hm2, hm3, hm4, hm5⟩ := id hm
    have hn := num_pos hm5
    have nmx : m ≠ x := fun z => by
      rw [z, hx] at hm1
      have := Option.some.inj hm1
      injection this with _ _ e
      cases e
    refine ⟨_, (pss_cons (ps_if (pt_not (pt_val (pe_c c_isint hr (by decide) (by rfl) (pa_cons (pv 1) pa_nil)))) (pss_one ps_never) pss_nil)
      (pss_cons (ps_expr (pe_c c_reqmod hr (by decide) (by rfl) (pa_cons (pv 2) pa_nil)))
      (pss_cons (ps_fld (pv 0) (pe_c c_mkof hr (by decide) (by rfl) (pa_cons (pv 3) pa_nil)) rfl)
      (pss_cons (ps_fld (pv 0) (pv 2) rfl)
      (pss_cons (ps_fld (pv 0) (pe_fld (pv 2) rfl) rfl)
      (pss_one (ps_fld (pv 0) (pe_op op_mod (pv 1) (pe_fld (pv 2) rfl)) rfl))))))), ?_⟩
    walk_at "go"
    refine use_isInt ?_
    walk_at "go"
    refine iteF ?_
    walk_at "go"
    refine ⟨m, dm, _, rfl, hm1, ?_⟩
    walk_at "go"
    refine ⟨mv, y, rfl, hk, fun H1 k s1 hk1 => ?_⟩
    obtain ⟨dk, hk2⟩ := id hk1
    walk_at "go"
    have nkx : k ≠ x := fun z => by
      rw [z, s1 _ _ hx] at hk2
      have := Option.some.inj hk2
      injection this with _ _ e
      cases e
    refine w_sfldi (s1 _ _ hx) X.wy.cl X.marking (by decide) ?_
    walk_at "go"
    refine w_sfldi upd_same X.wy.cl X.modulus (by show 1 < 1000; decide) ?_
    walk_at "go"
    have e1 : putF "modulus" (.ref m) (putF "marking" (.ref k) []) = ([("marking", V.ref k), ("modulus", .ref m)] : List (Str × V)) := by
      rw [put0, putS (by decide +kernel)]
      rfl
    rw [e1]
    have hmA : ∀ (o1 o2 : HO), upd (upd H1 x o1) x o2 m = some (.ins c.md dm (mdF (num ps) t)) := fun o1 o2 => by rw [upd_ne nmx, upd_ne nmx]; exact s1 _ _ hm1
    refine w_fldi (hmA _ _) X.md.cl X.number md_number ?_
    walk_at "go"
    refine w_sfldi upd_same X.wy.cl X.wnumber (by show 2 < 1000; decide) ?_
    walk_at "go"
    refine w_fldi (by rw [upd_ne nmx]; exact hmA _ _) X.md.cl X.number md_number ?_
    walk_at "go"
    have e2 : putF "number" (.int (num ps)) [("marking", V.ref k), ("modulus", .ref m)] = ([("marking", V.ref k), ("modulus", .ref m), ("number", .int (num ps))] : List (Str × V)) := by
      rw [putS (by decide +kernel), putS (by decide +kernel)]
      rfl
    rw [e2]
    refine w_sfldi upd_same X.wy.cl X.base (by show 3 < 1000; decide) ?_
    walk_at "go"
    have e3 : putF "base" (.int (b % num ps)) [("marking", V.ref k), ("modulus", .ref m), ("number", .int (num ps))] = wyF k m (num ps) (b % num ps) := by
      rw [putS (by decide +kernel), putS (by decide +kernel), putS (by decide +kernel)]
      rfl
    rw [e3]
    refine q _ k (fun b o nb hb => by rw [upd_ne nb, upd_ne nb, upd_ne nb, upd_ne nb]; exact s1 _ _ hb) upd_same ⟨dk, ?_⟩
    rw [upd_ne nkx, upd_ne nkx, upd_ne nkx, upd_ne nkx]
    exact hk2
abbrev s_ofl : Stmt := (inClass (top 33) 2)
theorem sc_ofl : FnScope ["self", "letters"] ["self", "letters"] (defScope s_ofl) :=
  ⟨rfl, rfl, rfl, by decide +kernel, rfl, by decide +kernel, by decide +kernel⟩
theorem ok_ofl {c : CA} {f : Addr} {fd : FuncData} (F : FunD K "of_letters" "Way.of_letters" (defArgs s_ofl) (defBody s_ofl) (defScope s_ofl) [] [] f fd) (T : Bt mg) (X : Kx K mg c) (c_restat : Cal P w K mg base 1 "rest_at" spRestAt []) (c_hf : Met P w K mg base 1 c.kg "highest_first" (spHf c) []) :
    FnOk P w K mg base L2.CX0 2 f fd ["self", "letters"] (spOfLetters c) := by
  refine fnD_ok F sc_ofl (fun vs H Q E h => ?_) (fun cdv A outer s H vs Q E hr h => ?_)
  · obtain ⟨x, a, b, ps, y, ls, rfl, _⟩ := h
    rfl
  · obtain ⟨x, a, b, ps, y, ls, rfl, ⟨dx, m, k, hx, hm, ⟨dk, hk⟩, b0, bn⟩, ha, hl, q⟩ := h
    obtain ⟨_, _, _, _, _, _, _, hs⟩ := id hm
    refine ⟨_, (pss_one (ps_ret (pe_c c_restat hr (by decide) (by rfl) (pa_cons (pe_mt c_hf hr (by decide) (pe_fld (pv 0) rfl) (pa_cons (pv 1) pa_nil)) (pa_cons (pe_fld (pv 0) rfl) (pa_cons (pe_fld (pv 0) rfl) pa_nil)))))), ?_⟩
    walk_at "go"
    refine w_fldi hx X.wy.cl X.marking wy_marking ?_
    refine w_methi hk (mk_no (by decide +kernel) (by decide +kernel) (by decide +kernel)) ?_
    walk_at "go"
    refine ⟨k, a, y, ls, rfl, ⟨dk, hk⟩, ha, hl, fun H1 l s1 hl1 => ?_⟩
    walk_at "go"
    refine w_fldi (s1 _ _ hx) X.wy.cl X.base wy_base ?_
    walk_at "go"
    refine w_fldi (s1 _ _ hx) X.wy.cl X.wnumber wy_number ?_
    walk_at "go"
    refine ⟨l, hf y ls, b, num ps, 70000, rfl, hl1, b0, bn, num_lt hs, by decide, ?_⟩
    walk_at "go"
    exact q _ s1

abbrev s_mixed : Stmt := (top 45)
theorem sc_mixed : FnScope ["_law_cell", "_law_k", "_law_stirred"] ["_law_cell", "_law_k"] (defScope s_mixed) :=
  ⟨rfl, rfl, rfl, by decide +kernel, rfl, by decide +kernel, by decide +kernel⟩
theorem ok_mixed (F : Dn K mg "_law_mixed" s_mixed ["_law_cell", "_law_k"]) (T : Bt mg) : Cal P w K mg base 1 "_law_mixed" spMixed [] := by
  refine F.cal sc_mixed (fun vs H Q E h => ?_) (fun f cdv A outer s H vs Q E hr h => ?_)
  · obtain ⟨a, b, rfl, _⟩ := h
    rfl
  · obtain ⟨a, b, rfl, a0, a1, b0, b1, k⟩ := h
    refine ⟨_, (pss_cons (ps_set (i := 2) sc_mixed.nd rfl (Or.inl rfl) (pe_op op_mod (pe_callTy cInt1 (by rfl) T.int (by decide +kernel) (pa_cons (pe_op op_add (pe_op op_add (pe_op op_add (pe_op oMul (pv 0) pe_int) (pe_op oMul (pe_op oMul pe_int (pv 1)) (pv 1))) (pe_op oMul pe_int (pv 1))) pe_int) pa_nil)) pe_int))
      (pss_one (ps_ret (pe_op op_fdivW (pe_op op_mod (pe_callTy cInt1 (by rfl) T.int (by decide +kernel) (pa_cons (pe_op op_add (pe_op op_add (pe_op oMul (pv 2) (pv 2)) (pe_op oMul pe_int (pv 2))) pe_int) pa_nil)) pe_int) pe_int)))), ?_⟩
    walk_at "go"
    · exact k _ (by omega) (by omega)
abbrev s_purse : Stmt := (top 46)
theorem sc_purse : FnScope ["_law_cells", "_law_at", "_law_cell"] ["_law_cells", "_law_at"] (defScope s_purse) :=
  ⟨rfl, rfl, rfl, by decide +kernel, rfl, by decide +kernel, by decide +kernel⟩
theorem ok_purse (F : Dn K mg "_law_purse" s_purse ["_law_cells", "_law_at"]) (T : Bt mg) : Cal P w K mg base 1 "_law_purse" (spPurse K) [] := by
  refine F.cal sc_purse (fun vs H Q E h => ?_) (fun f cdv A outer s H vs Q E hr h => ?_)
  · obtain ⟨a, ns, i, rfl, _⟩ := h
    rfl
  · obtain ⟨a, ns, i, rfl, hS, i0, hl, k⟩ := h
    have e1 : CPowW 10 18 := ⟨by decide, by decide +kernel⟩
    have e2 : CPowW 10 60 := ⟨by decide, by decide +kernel⟩
    have e3 : CPowW (10 ^ Int.toNat 60) 8 := ⟨by decide, by decide +kernel⟩
    have e4 : (0 : Int) < (10 ^ Int.toNat 60) ^ Int.toNat 8 := by decide +kernel
    have e5 : ((10 : Int) ^ Int.toNat 60) ^ Int.toNat 8 < 2 ^ 1600 := by decide +kernel
    generalize e6 : ((10 : Int) ^ Int.toNat 60) ^ Int.toNat 8 = g at e4 e5
    have fin : ∀ c : Int, Q = Q → ∀ p, H p = none → Q (.ref p) (upd H p (.lst [.int ((if 0 > c - 10 ^ Int.toNat 18 then 0 else c - 10 ^ Int.toNat 18) % g), .int (c % 2147483647), .int (1000 * i)])) := fun c _ p np =>
      k p _ np (Same.new np) ⟨_, _, _, upd_same, Int.emod_nonneg _ (by omega), Int.lt_trans (Int.emod_lt_of_pos _ e4) e5, by omega, by omega, by omega, by omega⟩
    refine ⟨_, (pss_cons (ps_set (i := 2) sc_purse.nd rfl (Or.inl rfl) pe_int)
      (pss_cons (ps_if (pt_cmpR op_lt (pv 1) (pe_callB cLen (by rfl) T.len (by decide +kernel) (pa_cons (pv 0) pa_nil)) (nomark _)) (pss_one (ps_set (i := 2) sc_purse.nd rfl (Or.inl rfl) (pe_ix ix_list (pv 0) (pv 1) (fun _ _ => rfl)))) pss_nil)
      (pss_one (ps_ret (pe_lst (pa_cons (pe_op op_mod (pe_callTy cInt1 (by rfl) T.int (by decide +kernel) (pa_cons (pe_callB (cMax2 rfl) (by rfl) T.max (by decide +kernel) (pa_cons (pe_op op_sub (pv 2) (pe_op oPowW pe_int pe_int)) (pa_cons pe_int pa_nil))) pa_nil)) (pe_op oPowW (pe_op oPowW pe_int pe_int) pe_int)) (pa_cons (pe_op op_mod (pe_callTy cInt1 (by rfl) T.int (by decide +kernel) (pa_cons (pv 2) pa_nil)) pe_int) (pa_cons (pe_op oMul pe_int (pv 1)) pa_nil)))))))), ?_⟩
    walk_at "go"
    refine ite_d (fun h => ?_) (fun h => ?_)
    · walk_at "go"
      refine w_ixL hS (atI_ints i0 h) ?_
      walk_at "go"
      rw [e6]
      exact fin _ rfl
    · walk_at "go"
      rw [e6]
      exact fin _ rfl
abbrev s_draw : Stmt := (top 47)
theorem sc_draw : FnScope ["_law_purse_here", "_law_out_of", "_law_drawn"] ["_law_purse_here", "_law_out_of"] (defScope s_draw) :=
  ⟨rfl, rfl, rfl, by decide +kernel, rfl, by decide +kernel, by decide +kernel⟩
theorem ok_draw (F : Dn K mg "_law_draw" s_draw ["_law_purse_here", "_law_out_of"]) (T : Bt mg) (c_mixed : Cal P w K mg base 1 "_law_mixed" spMixed []) : Cal P w K mg base 2 "_law_draw" spDraw [] := by
  refine F.cal sc_draw (fun vs H Q E h => ?_) (fun f cdv A outer s H vs Q E hr h => ?_)
  · obtain ⟨a, n, c, rfl, _⟩ := h
    rfl
  · obtain ⟨a, n, c, rfl, n0, n1, hc, ⟨x, y, z, hp, x0, x1, y0, y1, z0, z1⟩, k⟩ := h
    refine ⟨_, (pss_cons (ps_if (pt_cmpR op_gt (pe_ix ix_list (pv 0) pe_int (fun _ _ => rfl)) pe_int (nomark _)) (pss_cons (ps_set (i := 2) sc_draw.nd rfl (Or.inl rfl) (pe_op op_mod (pe_callTy cInt1 (by rfl) T.int (by decide +kernel) (pa_cons (pe_ix ix_list (pv 0) pe_int (fun _ _ => rfl)) pa_nil)) (pv 1)))
      (pss_cons (ps_asg (pe_op op_fdivW (pe_ix ix_list (pv 0) pe_int (fun _ _ => rfl)) (pv 1)) (pg_sub (pv 0) pe_int set_list))
      (pss_one (ps_ret (pv 2))))) pss_nil)
      (pss_cons (ps_asg (pe_op op_add (pe_ix ix_list (pv 0) pe_int (fun _ _ => rfl)) pe_int) (pg_sub (pv 0) pe_int set_list))
      (pss_one (ps_ret (pe_op op_mod (pe_callTy cInt1 (by rfl) T.int (by decide +kernel) (pa_cons (pe_c c_mixed hr (by decide) (by rfl) (pa_cons (pe_ix ix_list (pv 0) pe_int (fun _ _ => rfl)) (pa_cons (pe_ix ix_list (pv 0) pe_int (fun _ _ => rfl)) pa_nil))) pa_nil)) (pv 1)))))), ?_⟩
    walk_at "go"
    refine ite_d (fun h => ?_) (fun h => ?_)
    · walk_at "go"
      exact k _ _ (Int.emod_nonneg _ (by omega)) (Int.emod_lt_of_pos _ n0) Keep.refl.upd ⟨_, _, _, upd_same, Int.ediv_nonneg x0 (by omega), Int.lt_of_le_of_lt (Int.ediv_le_self _ x0) x1, y0, y1, z0, by omega⟩
    · walk_at "go"
      refine ⟨_, _, rfl, y0, y1, (by omega), (by omega), fun r r0 r1 => ?_⟩
      walk_at "go"
      exact k _ _ (Int.emod_nonneg _ (by omega)) (Int.emod_lt_of_pos _ n0) Keep.refl.upd ⟨_, _, _, upd_same, x0, x1, y0, y1, by omega, by omega⟩
abbrev s_great : Stmt := (top 48)
theorem sc_great : FnScope ["_law_purse_here", "_law_figures", "_law_found", "_law_turn"] ["_law_purse_here", "_law_figures"] (defScope s_great) :=
  ⟨rfl, rfl, rfl, by decide +kernel, rfl, by decide +kernel, by decide +kernel⟩
theorem ok_great (F : Dn K mg "_law_great" s_great ["_law_purse_here", "_law_figures"]) (T : Bt mg) (c_draw : Cal P w K mg base 2 "_law_draw" spDraw []) : Cal P w K mg base 3 "_law_great" spGreat [] := by
  refine F.cal sc_great (fun vs H Q E h => ?_) (fun f cdv A outer s H vs Q E hr h => ?_)
  · obtain ⟨a, n, c, rfl, _⟩ := h
    rfl
  · obtain ⟨a, n, c, rfl, n0, n1, hc, p, k⟩ := h
    refine ⟨_, (pss_cons (ps_set (i := 2) sc_great.nd rfl (Or.inl rfl) pe_int)
      (pss_cons (ps_for PassesOwn.never rfl (pi_range1 (by rfl) T.range (pa_cons (pv 1) pa_nil)) (pg_name (i := 3) sc_great.nd rfl (Or.inl rfl)) (pss_one (ps_set (i := 2) sc_great.nd rfl (Or.inl rfl) (pe_op op_add (pe_op oMul pe_int (pv 2)) (pe_c c_draw hr (by decide) (by rfl) (pa_cons (pv 0) (pa_cons pe_int pa_nil)))))))
      (pss_one (ps_ret (pv 2))))), ?_⟩
    walk_at "go"
    refine for_range (lo := 0) (n := n.toNat) (fun i σ H' => ∃ (v : Int) (u : Option V), σ = [some (.ref a), some (.int n), some (.int v), u] ∧ 0 ≤ v ∧ v < 10 ^ i ∧ Keep a H H' ∧ Purse H' a (c + i))
      ⟨0, none, rfl, by decide, by decide, Keep.refl, p.le (by omega)⟩ ?_ ?_
    · rintro i σ H' hi ⟨v, u, rfl, v0, v1, kp, pu⟩
      walk_at "go"
      refine use_draw pu (by decide) (by decide) (by omega) (fun r H2 r0 r1 k2 p2 => ?_)
      walk_at "go"
      refine ⟨_, _, rfl, by omega, ?_, kp.trans k2, p2.le (by omega)⟩
      rw [Int.pow_succ]
      omega
    · rintro σ H' ⟨v, u, rfl, v0, v1, kp, pu⟩
      walk_at "go"
      exact k _ _ v0 v1 kp (pu.le (by omega))

abbrev s_style : Stmt := (top 49)
theorem sc_style : FnScope ["_law_purse_here", "_law_moved"] ["_law_purse_here"] (defScope s_style) :=
  ⟨rfl, rfl, rfl, by decide +kernel, rfl, by decide +kernel, by decide +kernel⟩
theorem ok_style (F : Dn K mg "_law_style" s_style ["_law_purse_here"]) (T : Bt mg) (c_draw : Cal P w K mg base 2 "_law_draw" spDraw []) (c_great : Cal P w K mg base 3 "_law_great" spGreat []) : Cal P w K mg base 4 "_law_style" spStyle [] := by
  refine F.cal sc_style (fun vs H Q E h => ?_) (fun f cdv A outer s H vs Q E hr h => ?_)
  · obtain ⟨a, c, rfl, _⟩ := h
    rfl
  · obtain ⟨a, c, rfl, hc, p, k⟩ := h
    refine ⟨_, (pss_cons (ps_set (i := 1) sc_style.nd rfl (Or.inl rfl) (pe_ix ix_list (pe_lst (pa_cons pe_int (pa_cons pe_int (pa_cons pe_int (pa_cons (pe_op op_sub pe_int pe_int) (pa_cons (pe_c c_great hr (by decide) (by rfl) (pa_cons (pv 0) (pa_cons (pe_op op_add pe_int (pe_c c_draw hr (by decide) (by rfl) (pa_cons (pv 0) (pa_cons pe_int pa_nil)))) pa_nil))) pa_nil)))))) (pe_c c_draw hr (by decide) (by rfl) (pa_cons (pv 0) (pa_cons pe_int pa_nil))) (fun _ _ => rfl)))
      (pss_one (ps_ret (pe_lst (pa_cons (pe_cmpR op_eq (pe_c c_draw hr (by decide) (by rfl) (pa_cons (pv 0) (pa_cons pe_int pa_nil))) pe_int (nomark _)) (pa_cons (pv 1) (pa_cons (pe_cmpR op_eq (pe_c c_draw hr (by decide) (by rfl) (pa_cons (pv 0) (pa_cons pe_int pa_nil))) pe_int (nomark _)) pa_nil))))))), ?_⟩
    walk_at "go"
    refine use_draw p (by decide) (by decide) (by omega) (fun r1 H1 r10 r11 k1 p1 => ?_)
    walk_at "go"
    refine use_great p1 (by omega) (by omega) (by omega) (fun g H2 g0 g1 k2 p2 => ?_)
    walk_at "go"
    intro q1 f1
    have s1 : Same H2 (upd H2 q1 (.lst (([0, 0, 1, 0 - 97, g] : List Int).map V.int))) := Same.new f1
    have m1 := p2.fresh f1
    walk_at "go"
    refine use_draw (p2.same s1) (by decide) (by decide) (by omega) (fun r2 H3 r20 r21 k3 p3 => ?_)
    have h1 := k3.at_ m1 (upd_same (H := H2) (a := q1) (o := .lst (([0, 0, 1, 0 - 97, g] : List Int).map V.int)))
    refine w_ixL (xs := ([0, 0, 1, 0 - 97, g] : List Int).map V.int) (sq h1) (atI_ints r20 (by simpa using r21)) ?_
    have hb : (([0, 0, 1, 0 - 97, g] : List Int).getD r2.toNat 0).natAbs < 10 ^ 31 := by
      have hg : g.natAbs < 10 ^ 31 := by
        have h2 : (10 : Int) ^ (1 + r1).toNat ≤ 10 ^ 30 := by
          have e : (10 : Int) ^ (1 + r1).toNat = ((10 ^ (1 + r1).toNat : Nat) : Int) := by rw [Int.natCast_pow]; rfl
          have e2 : 10 ^ (1 + r1).toNat ≤ 10 ^ 30 := Nat.pow_le_pow_right (by decide) (by omega)
          rw [e]
          omega
        omega
      have hr : r2 = 0 ∨ r2 = 1 ∨ r2 = 2 ∨ r2 = 3 ∨ r2 = 4 := by omega
      rcases hr with rfl | rfl | rfl | rfl | rfl
      · show (0 : Int).natAbs < 10 ^ 31; decide
      · show (0 : Int).natAbs < 10 ^ 31; decide
      · show (1 : Int).natAbs < 10 ^ 31; decide
      · show (0 - 97 : Int).natAbs < 10 ^ 31; decide
      · exact hg
    generalize ([0, 0, 1, 0 - 97, g] : List Int).getD r2.toNat 0 = sh at hb
    walk_at "go"
    refine use_draw p3 (by decide) (by decide) (by omega) (fun r4 H4 r40 r41 k4 p4 => ?_)
    walk_at "go"
    refine use_draw p4 (by decide) (by decide) (by omega) (fun r5 H5 r50 r51 k5 p5 => ?_)
    walk_at "go"
    intro q2 f2
    walk_at "go"
    have kp : Keep a H H5 := k1.trans (k2.trans ((Keep.of s1).trans (k3.trans (k4.trans k5))))
    have g2 : H q2 = none := by
      cases e : H q2 with
      | none => rfl
      | some o =>
        by_cases z : q2 = a
        · rw [z] at f2
          obtain ⟨_, _, _, e2, _⟩ := p5
          rw [e2] at f2
          cases f2
        · rw [kp _ _ z e] at f2
          cases f2
    exact k q2 _ ⟨_, sh, _⟩ g2 (kp.trans (Keep.of (Same.new f2))) ((p5.same (Same.new f2)).le (by omega)) upd_same hb
abbrev s_marking : Stmt := (top 50)
theorem sc_marking : FnScope ["_law_given"] ["_law_given"] (defScope s_marking) :=
  ⟨rfl, rfl, rfl, by decide +kernel, rfl, by decide +kernel, by decide +kernel⟩
theorem ok_marking {ca : CA} (F : Dn K mg "_law_marking" s_marking ["_law_given"]) (T : Bt mg) (c_mk3 : MakK P w K mg base 2 "Marking" ca.kg ["low", "shift", "lead"] (spMkInit ca) (fun vs zs => vs ++ zs)) : Cal P w K mg base 4 "_law_marking" (spMarking ca) [] := by
  refine F.cal sc_marking (fun vs H Q E h => ?_) (fun f cdv A outer s H vs Q E hr h => ?_)
  · obtain ⟨g, y, rfl, _⟩ := h
    rfl
  · obtain ⟨g, y, rfl, hg, q⟩ := h
    refine ⟨_, (pss_one (ps_ret (pe_mkK0 c_mk3 hr (by decide) (by rfl) (pk_cons (pe_ix ix_list (pv 0) pe_int (fun _ _ => rfl)) (pk_cons (pe_ix ix_list (pv 0) pe_int (fun _ _ => rfl)) (pk_cons (pe_ix ix_list (pv 0) pe_int (fun _ _ => rfl)) pk_nil)))))), ?_⟩
    walk_at "go"
    refine ⟨rfl, rfl, use_mk fun m H' nm s1 hm => ?_⟩
    walk_at "go"
    exact q _ _ nm s1 hm
abbrev s_root : Stmt := (top 52)
theorem sc_root : FnScope ["_law_purse_here", "_law_size", "_law_some"] ["_law_purse_here", "_law_size"] (defScope s_root) :=
  ⟨rfl, rfl, rfl, by decide +kernel, rfl, by decide +kernel, by decide +kernel⟩
theorem ok_root (F : Dn K mg "_law_root" s_root ["_law_purse_here", "_law_size"]) (T : Bt mg) (c_draw : Cal P w K mg base 2 "_law_draw" spDraw []) (c_great : Cal P w K mg base 3 "_law_great" spGreat []) : Cal P w K mg base 4 "_law_root" spRoot [] := by
  refine F.cal sc_root (fun vs H Q E h => ?_) (fun f cdv A outer s H vs Q E hr h => ?_)
  · obtain ⟨a, n, c, rfl, _⟩ := h
    rfl
  · obtain ⟨a, n, c, rfl, n0, hc, p, k⟩ := h
    refine ⟨_, (pss_cons (ps_set (i := 2) sc_root.nd rfl (Or.inl rfl) (pe_lst (pa_cons (pe_c c_draw hr (by decide) (by rfl) (pa_cons (pv 0) (pa_cons pe_int pa_nil))) (pa_cons (pe_op op_sub pe_int (pe_c c_draw hr (by decide) (by rfl) (pa_cons (pv 0) (pa_cons pe_int pa_nil)))) (pa_cons (pv 1) (pa_cons (pe_op op_sub (pv 1) pe_int) (pa_cons (pe_op op_fdivW (pv 1) pe_int) (pa_cons (pe_c c_great hr (by decide) (by rfl) (pa_cons (pv 0) (pa_cons pe_int pa_nil))) pa_nil))))))))
      (pss_one (ps_ret (pe_ix ix_list (pv 2) (pe_c c_draw hr (by decide) (by rfl) (pa_cons (pv 0) (pa_cons pe_int pa_nil))) (fun _ _ => rfl))))), ?_⟩
    walk_at "go"
    refine use_draw p (by decide) (by decide) (by omega) (fun r1 H1 r10 r11 k1 p1 => ?_)
    walk_at "go"
    refine use_draw p1 (by decide) (by decide) (by omega) (fun r2 H2 r20 r21 k2 p2 => ?_)
    walk_at "go"
    refine use_great p2 (by omega) (by omega) (by omega) (fun g H3 g0 g1 k3 p3 => ?_)
    walk_at "go"
    intro q1 f1
    have s1 : Same H3 (upd H3 q1 (.lst (([r1, 0 - r2, n, n - 1, n / 2, g] : List Int).map V.int))) := Same.new f1
    have m1 := p3.fresh f1
    walk_at "go"
    refine use_draw (p3.same s1) (by decide) (by decide) (by omega) (fun r3 H4 r30 r31 k4 p4 => ?_)
    have h1 := k4.at_ m1 (upd_same (H := H3) (a := q1) (o := .lst (([r1, 0 - r2, n, n - 1, n / 2, g] : List Int).map V.int)))
    refine w_ixL (xs := ([r1, 0 - r2, n, n - 1, n / 2, g] : List Int).map V.int) (sq h1) (atI_ints r30 (by simpa using r31)) ?_
    walk_at "go"
    refine k _ _ ?_ (k1.trans (k2.trans (k3.trans ((Keep.of s1).trans k4)))) (p4.le (by omega))
    have hg : g < 10 ^ 40 := g1
    have hr : r3 = 0 ∨ r3 = 1 ∨ r3 = 2 ∨ r3 = 3 ∨ r3 = 4 ∨ r3 = 5 := by omega
    rcases hr with rfl | rfl | rfl | rfl | rfl | rfl
    · show r1.natAbs ≤ _; omega
    · show (0 - r2).natAbs ≤ _; omega
    · show n.natAbs ≤ _; omega
    · show (n - 1).natAbs ≤ _; omega
    · show (n / 2).natAbs ≤ _; omega
    · show g.natAbs ≤ _; omega

abbrev s_call : Stmt := (inClass (top 33) 3)
theorem sc_call : FnScope ["self", "text"] ["self", "text"] (defScope s_call) :=
  ⟨rfl, rfl, rfl, by decide +kernel, rfl, by decide +kernel, by decide +kernel⟩
theorem ok_call {c : CA} {f : Addr} {fd : FuncData} (F : FunD K "__call__" "Way.__call__" (defArgs s_call) (defBody s_call) (defScope s_call) [] [] f fd) (T : Bt mg) (X : Kx K mg c) (c_reqtext : Cal P w K mg base 3 "require_text" spRead []) (c_ofl : Met P w K mg base 2 c.wy "of_letters" (spOfLetters c) []) :
    FnOk P w K mg base L2.CX0 4 f fd ["self", "text"] (spMarkOf c) := by
  refine fnD_ok F sc_call (fun vs H Q E h => ?_) (fun cdv A outer s H vs Q E hr h => ?_)
  · obtain ⟨x, v, b, ps, y, ls, rfl, _⟩ := h
    rfl
  · obtain ⟨x, v, b, ps, y, ls, rfl, hw, tv, q⟩ := h
    obtain ⟨dx, m, k, hx, r⟩ := id hw
    refine ⟨_, (pss_one (ps_ret (pe_mt c_ofl hr (by decide) (pv 0) (pa_cons (pe_c c_reqtext hr (by decide) (by rfl) (pa_cons (pv 1) pa_nil)) pa_nil)))), ?_⟩
    walk_at "go"
    refine w_methi hx (wy_no (by decide +kernel) (by decide +kernel) (by decide +kernel) (by decide +kernel)) ?_
    walk_at "go"
    refine ⟨v, ls, rfl, tv, fun H1 t1 s1 h1 => ?_⟩
    walk_at "go"
    refine ⟨x, t1, b, ps, y, ls, rfl, hw.same s1, h1, tv.len, fun H3 s3 => ?_⟩
    walk_at "go"
    exact q _ (s1.trans s3)
abbrev s_reqway : Stmt := (top 34)
theorem sc_reqway : FnScope ["way"] ["way"] (defScope s_reqway) :=
  ⟨rfl, rfl, rfl, by decide +kernel, rfl, by decide +kernel, by decide +kernel⟩
theorem ok_reqway {c : CA} (F : Dn K mg "require_way" s_reqway ["way"]) (T : Bt mg) (X : Kx K mg c) : Cal P w K mg base 1 "require_way" (spReqWay c) [] := by
  refine F.cal sc_reqway (fun vs H Q E h => ?_) (fun f cdv A outer s H vs Q E hr h => ?_)
  · obtain ⟨m, dx, fs, rfl, _⟩ := h
    rfl
  · obtain ⟨m, dx, fs, rfl, hm, q⟩ := h
    refine ⟨_, (pss_one (ps_if (pt_not (pt_val (pe_callB call_isi (by rfl) T.isinstance (by decide +kernel) (pa_cons (pv 0) (pa_cons (pe_glob (v := .ref c.wy) (by rfl) X.mgWy rfl) pa_nil))))) (pss_one ps_never) pss_nil)), ?_⟩
    walk_at "go"
    refine w_isiC (X.wy.ty hm) kit_own ?_
    walk_at "go"
    refine iteF ?_
    walk_at "go"
    exact q

abbrev s_reqstock : Stmt := (top 24)
theorem sc_reqstock : FnScope ["stock"] ["stock"] (defScope s_reqstock) :=
  ⟨rfl, rfl, rfl, by decide +kernel, rfl, by decide +kernel, by decide +kernel⟩
theorem ok_reqstock (F : Dn K mg "require_stock" s_reqstock ["stock"]) (T : Bt mg) (c_isint : Cal P w K mg base 1 "is_integer" (spIsInt K) []) : Cal P w K mg base 2 "require_stock" spReqStock [] := by
  refine F.cal sc_reqstock (fun vs H Q E h => ?_) (fun f cdv A outer s H vs Q E hr h => ?_)
  · obtain ⟨n, rfl, _⟩ := h
    rfl
  · obtain ⟨n, rfl, n1, q⟩ := h
    refine ⟨_, (pss_one (ps_if (PW.pt (pw_or (pt_not (pt_val (pe_c c_isint hr (by decide) (by rfl) (pa_cons (pv 0) pa_nil)))) (pw_or1 (pt_cmpR op_lt (pv 0) pe_int (nomark _))))) (pss_one ps_never) pss_nil)), ?_⟩
    walk_at "go"
    refine use_isInt ?_
    walk_at "go"
    refine iteF ?_
    walk_at "go"
    refine ite_d (fun h => by omega) (fun h => ?_)
    walk_at "go"
    exact q

abbrev s_power : Stmt := (top 17)
theorem sc_power : FnScope ["base", "exponent", "number", "found", "factor"] ["base", "exponent", "number"] (defScope s_power) :=
  ⟨rfl, rfl, rfl, by decide +kernel, rfl, by decide +kernel, by decide +kernel⟩
theorem ok_power (F : Dn K mg "power_rest" s_power ["base", "exponent", "number"]) (T : Bt mg) : Cal P w K mg base 1 "power_rest" spPower [] := by
  refine F.cal sc_power (fun vs H Q E h => ?_) (fun f cdv A outer s H vs Q E hr h => ?_)
  · obtain ⟨b, e, n, B, rfl, _⟩ := h
    rfl
  · obtain ⟨b, e, n, B, rfl, e0, e1, hn, hB, hB2, q⟩ := h
    refine ⟨_, (pss_cons (ps_set (i := 3) sc_power.nd rfl (Or.inl rfl) (pe_op op_mod pe_int (pv 2)))
      (pss_cons (ps_set (i := 4) sc_power.nd rfl (Or.inl rfl) (pe_op op_mod (pv 0) (pv 2)))
      (pss_cons (ps_while PassesOwn.never (pt_cmpR op_gt (pv 1) pe_int (nomark _)) (pss_cons (ps_if (pt_cmpR op_eq (pe_op op_mod (pe_callTy cInt1 (by rfl) T.int (by decide +kernel) (pa_cons (pv 1) pa_nil)) pe_int) pe_int (nomark _)) (pss_one (ps_set (i := 3) sc_power.nd rfl (Or.inl rfl) (pe_op op_mod (pe_op oMul (pv 3) (pv 4)) (pv 2)))) pss_nil)
      (pss_cons (ps_set (i := 4) sc_power.nd rfl (Or.inl rfl) (pe_op op_mod (pe_op oMul (pv 4) (pv 4)) (pv 2)))
      (pss_one (ps_set (i := 1) sc_power.nd rfl (Or.inl rfl) (pe_op op_fdivW (pv 1) pe_int))))))
      (pss_one (ps_ret (pv 3)))))), ?_⟩
    walk_at "go"
    refine while_go (fun σ H' => ∃ g h x : Int, σ = [some (.int b), some (.int x), some (.int n), some (.int g), some (.int h)] ∧ (0 ≤ g ∧ g < n) ∧ (0 ≤ h ∧ h < n) ∧ (0 ≤ x ∧ x < 2 ^ 60) ∧ g * h ^ x.toNat % n = b ^ e.toNat % n ∧ H' = H) (fun σ _ => match σ with | [_, some (.int x), _, _, _] => x.toNat | _ => 0)
      ⟨_, _, e, rfl, ⟨Int.emod_nonneg _ (by omega), Int.emod_lt_of_pos _ hn⟩, ⟨Int.emod_nonneg _ (by omega), Int.emod_lt_of_pos _ hn⟩, ⟨e0, e1⟩, ?_, rfl⟩ ?_
    · have hp : ∀ k : Nat, (b % n) ^ k % n = b ^ k % n := fun k => by
        induction k with
        | zero => rw [Int.pow_zero, Int.pow_zero]
        | succ k ih => rw [Int.pow_succ, Int.pow_succ, Int.mul_emod, ih, Int.emod_emod_of_dvd _ (Int.dvd_refl n), ← Int.mul_emod]
      rw [Int.mul_emod, hp, Int.emod_emod_of_dvd _ (Int.dvd_refl n), ← Int.mul_emod, Int.one_mul]
    · rintro σ H' ⟨g, h, x, rfl, ⟨g0, g1⟩, ⟨h0, h1⟩, ⟨x0, x1⟩, hi, rfl⟩
      have bg := wide_le g0 (Int.le_of_lt g1) hB
      have bh := wide_le h0 (Int.le_of_lt h1) hB
      have m1 : CMx g h := mx_w bg bh (by omega)
      have m2 : CMx h h := mx_w bh bh (by omega)
      walk_at "go"
      refine ite_d (fun hx => ?_) (fun hx => ?_)
      · have hp := half_pow h x hx
        walk_at "go"
        rw [decI]
        refine ite_d (fun hodd => ?_) (fun hodd => ?_)
        · walk_at "go"
          refine ⟨?_, _, _, _, rfl, ⟨Int.emod_nonneg _ (by omega), Int.emod_lt_of_pos _ hn⟩, ⟨Int.emod_nonneg _ (by omega), Int.emod_lt_of_pos _ hn⟩, by omega, ?_, rfl⟩
          · show (x / 2).toNat < x.toNat
            omega
          · rw [← hi, hp, if_pos hodd, cg]
            have hq : ∀ k : Nat, (h * h % n) ^ k % n = (h * h) ^ k % n := fun k => by
              induction k with
              | zero => rw [Int.pow_zero, Int.pow_zero]
              | succ k ih => rw [Int.pow_succ, Int.pow_succ, Int.mul_emod, ih, Int.emod_emod_of_dvd _ (Int.dvd_refl n), ← Int.mul_emod]
            obtain ⟨k1, e1⟩ := cg.mp (hq (x / 2).toNat)
            obtain ⟨k2, e2⟩ := self_mod n (g * h)
            rw [e1, e2]
            generalize (h * h) ^ (x / 2).toNat = z
            exact ⟨g * h * k1 + k2 * z + n * k1 * k2, by grind⟩
        · walk_at "go"
          refine ⟨?_, _, _, _, rfl, ⟨g0, g1⟩, ⟨Int.emod_nonneg _ (by omega), Int.emod_lt_of_pos _ hn⟩, by omega, ?_, rfl⟩
          · show (x / 2).toNat < x.toNat
            omega
          · rw [← hi, hp, if_neg hodd, cg]
            have hq : ∀ k : Nat, (h * h % n) ^ k % n = (h * h) ^ k % n := fun k => by
              induction k with
              | zero => rw [Int.pow_zero, Int.pow_zero]
              | succ k ih => rw [Int.pow_succ, Int.pow_succ, Int.mul_emod, ih, Int.emod_emod_of_dvd _ (Int.dvd_refl n), ← Int.mul_emod]
            obtain ⟨k1, e1⟩ := cg.mp (hq (x / 2).toNat)
            rw [e1]
            generalize (h * h) ^ (x / 2).toNat = z
            exact ⟨g * k1, by grind⟩
      · have ex : x = 0 := by omega
        subst ex
        walk_at "go"
        have hi2 : g * 1 % n = b ^ e.toNat % n := by rw [← hi, show (0 : Int).toNat = 0 from rfl, Int.pow_zero]
        rw [Int.mul_one, Int.emod_eq_of_lt g0 g1] at hi2
        rw [hi2]
        exact q
abbrev s_reqmark : Stmt := (top 35)
theorem sc_reqmark : FnScope ["way", "mark"] ["way", "mark"] (defScope s_reqmark) :=
  ⟨rfl, rfl, rfl, by decide +kernel, rfl, by decide +kernel, by decide +kernel⟩
theorem ok_reqmark {c : CA} (F : Dn K mg "require_mark" s_reqmark ["way", "mark"]) (T : Bt mg) (X : Kx K mg c) (c_isint : Cal P w K mg base 1 "is_integer" (spIsInt K) []) : Cal P w K mg base 2 "require_mark" (spReqMark c) [] := by
  refine F.cal sc_reqmark (fun vs H Q E h => ?_) (fun f cdv A outer s H vs Q E hr h => ?_)
  · obtain ⟨x, m, b, ps, y, rfl, _⟩ := h
    rfl
  · obtain ⟨x, m, b, ps, y, rfl, hw, m0, m1, q⟩ := h
    obtain ⟨dx, mm, k, hx, r⟩ := id hw
    refine ⟨_, (pss_one (ps_if (PW.pt (pw_or (pt_not (pt_val (pe_c c_isint hr (by decide) (by rfl) (pa_cons (pv 1) pa_nil)))) (pw_or1 (pt_not (pt_chain op_le op_lt pe_int (pv 1) (pe_fld (pv 0) rfl)))))) (pss_one ps_never) pss_nil)), ?_⟩
    walk_at "go"
    refine use_isInt ?_
    walk_at "go"
    refine iteF ?_
    walk_at "go"
    refine ite_d (fun _ => ?_) (fun h => absurd m0 h)
    walk_at "go"
    rw [decide_eq_true m1]
    refine iteF ?_
    walk_at "go"
    exact q
abbrev s_reqlen : Stmt := (top 23)
theorem sc_reqlen : FnScope ["thing"] ["thing"] (defScope s_reqlen) :=
  ⟨rfl, rfl, rfl, by decide +kernel, rfl, by decide +kernel, by decide +kernel⟩
theorem ok_reqlen (F : Dn K mg "require_length" s_reqlen ["thing"]) (T : Bt mg) (c_isint : Cal P w K mg base 1 "is_integer" (spIsInt K) []) : Cal P w K mg base 2 "require_length" spReqLen [] := by
  refine F.cal sc_reqlen (fun vs H Q E h => ?_) (fun f cdv A outer s H vs Q E hr h => ?_)
  · obtain ⟨n, rfl, _⟩ := h
    rfl
  · obtain ⟨n, rfl, n0, q⟩ := h
    refine ⟨_, (pss_one (ps_if (PW.pt (pw_or (pt_not (pt_val (pe_c c_isint hr (by decide) (by rfl) (pa_cons (pv 0) pa_nil)))) (pw_or1 (pt_cmpR op_lt (pv 0) pe_int (nomark _))))) (pss_one ps_never) pss_nil)), ?_⟩
    walk_at "go"
    refine use_isInt ?_
    walk_at "go"
    refine iteF ?_
    walk_at "go"
    refine ite_d (fun h => by omega) (fun h => ?_)
    walk_at "go"
    exact q
abbrev s_mod2 : Stmt := (top 54)
theorem sc_mod2 : FnScope ["_law_purse_here", "_law_most", "_law_found", "_law_size", "_law_prime", "_law_power"] ["_law_purse_here", "_law_most"] (defScope s_mod2) :=
  ⟨rfl, rfl, rfl, by decide +kernel, rfl, by decide +kernel, by decide +kernel⟩
theorem ok_mod2 (F : Dn K mg "_law_modulus" s_mod2 ["_law_purse_here", "_law_most"]) (T : Bt mg) (c_draw : Cal P w K mg base 2 "_law_draw" spDraw []) : Cal P w K mg base 3 "_law_modulus" spMod2 [] := by
  refine F.cal sc_mod2 (fun vs H Q E h => ?_) (fun f cdv A outer s H vs Q E hr h => ?_)
  · obtain ⟨a, n, c, rfl, _⟩ := h
    rfl
  · obtain ⟨a, n, c, rfl, n0, n1, hc, pu, q⟩ := h
    refine ⟨_, (pss_cons (ps_set (i := 2) sc_mod2.nd rfl (Or.inl rfl) (pe_lst pa_nil))
      (pss_cons (ps_set (i := 3) sc_mod2.nd rfl (Or.inl rfl) pe_int)
      (pss_cons (ps_for PassesOwn.never rfl (pi_list (pe_lst (pa_cons pe_int (pa_cons pe_int (pa_cons pe_int (pa_cons pe_int (pa_cons pe_int (pa_cons pe_int (pa_cons pe_int (pa_cons pe_int (pa_cons pe_int (pa_cons pe_int pa_nil)))))))))))) (pg_name (i := 4) sc_mod2.nd rfl (Or.inl rfl)) (pss_cons (ps_set (i := 5) sc_mod2.nd rfl (Or.inl rfl) pe_int)
      (pss_cons (ps_while PassesOwn.never (PW.pt (pw_and (pt_cmpR op_eq (pe_c c_draw hr (by decide) (by rfl) (pa_cons (pv 0) (pa_cons pe_int pa_nil))) pe_int (nomark _)) (pw_and1 (pt_cmpR op_le (pe_op oMul (pv 3) (pv 4)) (pv 1) (nomark _))))) (pss_cons (ps_set (i := 5) sc_mod2.nd rfl (Or.inl rfl) (pe_op op_add (pv 5) pe_int))
      (pss_one (ps_set (i := 3) sc_mod2.nd rfl (Or.inl rfl) (pe_op oMul (pv 3) (pv 4))))))
      (pss_one (ps_if (pt_cmpR op_gt (pv 5) pe_int (nomark _)) (pss_one (ps_expr (pe_bm PySem.F.plainAttrs_list PySem.F.slot_list_append PySem.F.type_list_append mt_append (pv 2) (pa_cons (pe_tup (pa_cons (pv 4) (pa_cons (pv 5) pa_nil))) pa_nil)))) pss_nil)))))
      (pss_one (ps_ret (pe_lst (pa_cons (pv 2) (pa_cons (pv 3) pa_nil)))))))), ?_⟩
    walk_at "go"
    refine alR pu fun fa H1 s1 u1 h1 m1 => ?_
    walk_at "go"
    refine alR u1 fun la H2 s2 u2 h2 m2 => ?_
    walk_at "go"
    have hla : rm fa (rm a H2) la = some (.lst (PL2.map V.int)) := rm_of (fun e => by rw [e, h1] at m2; cases m2) h2
    refine for_list (K := K) (a := la) (xs := PL2.map V.int) (fun i σ H' => ∃ (ts : List Addr) (ps : List (Int × Int)) (v4 v5 : Option V), σ = [some (.ref a), some (.int n), some (.ref fa), some (.int (num ps)), v4, v5] ∧ Same (rm a H) (rm fa (rm a H')) ∧ rm fa (rm a H') la = some (.lst (PL2.map V.int)) ∧ Purse H' a (c + i + num ps) ∧
        rm a H' fa = some (.lst (ts.map V.ref)) ∧ Paired (Tp (rm fa (rm a H'))) ps ts ∧ Asc 0 ps ∧ (ps.getLast?.map (·.1)).getD 0 < PL2.getD i 10000 ∧ (∀ q ∈ ps, 0 < q.1 ∧ q.1 < 1024 ∧ 0 < q.2 ∧ q.2 ≤ 100) ∧ ps.length ≤ i ∧ 1 ≤ num ps ∧ num ps ≤ n)
      ⟨[], [], none, none, rfl, rm_in m1 (by walk_at "same"), hla, u2.le (by show c ≤ c + ((0 : Nat) : Int) + 1; omega), hpL h1 (by walk_at "same"), .nil, trivial, by decide, (fun q hq => by cases hq), by simp, by decide, by show (1 : Int) ≤ n; omega⟩
      (fun i σ H' _ z => by obtain ⟨_, _, _, _, _, _, z, _⟩ := z; exact sq (rm_le _ _ (rm_le _ _ z))) ?_ ?_
    · rintro i x σ H3 hi ⟨ts, ps, v4, v5, rfl, s3, hla3, u3, hf3, hp, ha, hlast, hsm, hlen, hn1, hn2⟩
      obtain ⟨p, hpi, rfl⟩ := get_map hi
      have hi10 : i < 10 := (List.getElem?_eq_some_iff.mp hpi).1
      have hP := PL2_pr ⟨i, hi10⟩
      have ep : PL2.getD i 0 = p := by rw [List.getD_eq_getElem?_getD, hpi]; rfl
      have ep2 : PL2.getD i 10000 = p := by rw [List.getD_eq_getElem?_getD, hpi]; rfl
      dsimp only at hP
      rw [ep] at hP
      rw [ep2] at hlast
      obtain ⟨hpr, hp2, hp3, hnx⟩ := hP
      walk_at "go"
      refine while_m (fun m σ H' => ∃ (k : Nat), σ = [some (.ref a), some (.int n), some (.ref fa), some (.int (num ps * p ^ k)), some (.int p), some (.int k)] ∧ Same (rm a H3) (rm a H') ∧ Purse H' a (c + i + num ps * p ^ k) ∧ 1 ≤ num ps * p ^ k ∧ num ps * p ^ k ≤ n ∧ m = (n - num ps * p ^ k).toNat) _
        ⟨0, by rw [Int.pow_zero, Int.mul_one]; rfl, Same.refl _, u3.le (by rw [Int.pow_zero, Int.mul_one]; exact Int.le_refl _), by rw [Int.pow_zero, Int.mul_one]; exact hn1, by rw [Int.pow_zero, Int.mul_one]; exact hn2, rfl⟩ ?_
      rintro m σ H4 ⟨k, rfl, s4, u4, b1, b2, rfl⟩
      have hk10 := pow_small hp2 hn1 b2 n1
      walk_at "go"
      refine use_drawR u4 (by decide) (by decide) (by omega) fun r H5 r0 r1 s5 u5 => ?_
      walk_at "go"
      rw [decI]
      refine ite_d (fun hr => ?_) (fun hr => ?_)
      walk_at "go"
      refine ite_d (fun hs => ?_) (fun hs => ?_)
      · walk_at "go"
        have hgrow : num ps * p ^ k + 1 ≤ num ps * p ^ k * p := by
          have := Int.mul_le_mul_of_nonneg_left hp2 (show 0 ≤ num ps * p ^ k by omega)
          omega
        refine ⟨_, ?_, k + 1, by rw [Int.pow_succ, ← Int.mul_assoc]; rfl, by walk_at "same", u5.le ?_, ?_, ?_, rfl⟩
        · rw [Int.pow_succ, ← Int.mul_assoc]
          omega
        · rw [Int.pow_succ, ← Int.mul_assoc]
          omega
        · rw [Int.pow_succ, ← Int.mul_assoc]
          omega
        · rw [Int.pow_succ, ← Int.mul_assoc]
          exact hs
      all_goals
        try refine iteF ?_
        walk_at "go"
        refine ite_d (fun hk => ?_) (fun hk => ?_)
        · walk_at "go"
          refine alR u5 fun tq H6 s6 u6 h6 n6 => ?_
          walk_at "go"
          have h5f : rm a H5 fa = some (.lst (ts.map V.ref)) := by walk_at "hp"
          have ntq : tq ≠ fa := fun e => by rw [e, h5f] at n6; cases n6
          have hl2 : ps.length = ts.length := hp.length
          refine w_appendR u6 (xs := ts.map V.ref) (by walk_at "hp") (by rw [List.length_map]; have : (100000 : Nat) < sizeLine := (by decide); omega) fun H7 s7 u7 h7 => ?_
          walk_at "go"
          have hq7 : rm fa (rm a H7) tq = some (.tup [.int p, .int k]) := hpL (rm_of ntq h6) (by walk_at "same")
          have sG : Same (rm fa (rm a H3)) (rm fa (rm a H7)) := by walk_at "same"
          have en : num (ps ++ [(p, (k : Int))]) = num ps * p ^ k := by rw [num_snoc]; rfl
          refine ⟨ts ++ [tq], ps ++ [(p, (k : Int))], _, _, by rw [en], s3.trans sG, sG _ _ hla3, u7.le (by rw [en]; omega), by rw [h7, List.map_append]; rfl, Paired.snoc (paired_imp (fun _ _ z => sG _ _ z) hp) hq7, ha.snoc hlast (by show (0 : Int) < k; omega) hpr, ?_, ?_, ?_, by rw [en]; exact b1, by rw [en]; exact b2⟩
          · rw [List.getLast?_concat]
            exact hnx
          · intro q hq
            rcases List.mem_append.mp hq with h | h
            · exact hsm q h
            · have e : q = (p, (k : Int)) := by simpa using h
              subst e
              exact ⟨by show 0 < p; omega, hp3, by show (0 : Int) < k; omega, by show (k : Int) ≤ 100; omega⟩
          · rw [List.length_append]
            simp only [List.length_cons, List.length_nil]
            omega
        · have ek : k = 0 := by omega
          subst ek
          walk_at "go"
          rw [Int.pow_zero, Int.mul_one] at u5
          have sG : Same (rm fa (rm a H3)) (rm fa (rm a H5)) := by walk_at "same"
          exact ⟨ts, ps, _, _, by rw [Int.pow_zero, Int.mul_one], s3.trans sG, sG _ _ hla3, u5.le (by omega), by walk_at "hp", paired_imp (fun _ _ z => sG _ _ z) hp, ha, Int.lt_trans hlast hnx, hsm, by omega, hn1, hn2⟩
    · rintro σ H3 ⟨ts, ps, v4, v5, rfl, s3, hla3, u3, hf3, hp, ha, hlast, hsm, hlen, hn1, hn2⟩
      walk_at "go"
      refine alR u3 fun r H4 s4 u4 h4 n4 => ?_
      walk_at "go"
      have e10 : (PL2.map V.int).length = 10 := rfl
      rw [e10] at u4 hlen
      refine q r fa H4 ps (by walk_at "same") (u4.le (by omega)) h4 ⟨ts, by walk_at "hp", paired_imp (fun _ _ z => hpL z (by walk_at "same")) hp⟩ ha ⟨hsm, by omega⟩ hn2

abbrev s_sum : Stmt := (top 51)
theorem sc_sum : FnScope ["_law_letters", "_law_root_here", "_law_given", "_law_found", "_law_letter"] ["_law_letters", "_law_root_here", "_law_given"] (defScope s_sum) :=
  ⟨rfl, rfl, rfl, by decide +kernel, rfl, by decide +kernel, by decide +kernel⟩
theorem ok_sum (F : Dn K mg "_law_sum" s_sum ["_law_letters", "_law_root_here", "_law_given"]) (T : Bt mg) : Cal P w K mg base 1 "_law_sum" spSum [] := by
  refine F.cal sc_sum (fun vs H Q E h => ?_) (fun f cdv A outer s H vs Q E hr h => ?_)
  · obtain ⟨l, g, r, ls, y, rfl, _⟩ := h
    rfl
  · obtain ⟨l, g, r, ls, y, rfl, hl, hg, hlen, hr4, hls, hs, q⟩ := h
    have hfb := hf_bits (y := y) (R := 4000) (by decide) hls hs
    refine ⟨_, (pss_cons (ps_set (i := 3) sc_sum.nd rfl (Or.inl rfl) (pe_callTy cInt1 (by rfl) T.int (by decide +kernel) (pa_cons (pe_ix ix_list (pv 2) pe_int (fun _ _ => rfl)) pa_nil)))
      (pss_cons (ps_for PassesOwn.never rfl (pi_list (pe_ifExp (pt_val (pe_ix ix_list (pv 2) pe_int (fun _ _ => rfl))) (pe_revL (pv 0)) (pv 0))) (pg_name (i := 4) sc_sum.nd rfl (Or.inl rfl)) (pss_one (ps_set (i := 3) sc_sum.nd rfl (Or.inl rfl) (pe_op op_add (pe_op op_add (pe_op oMul (pv 3) (pv 1)) (pv 4)) (pe_ix ix_list (pv 2) pe_int (fun _ _ => rfl))))))
      (pss_one (ps_ret (pv 3))))), ?_⟩
    walk_at "go"
    obtain ⟨cs, ecs, hcl, rev⟩ : ∃ cs : List Int, hf y ls = Bc.ld y :: cs.map (· + y.shift) ∧ cs.length = ls.length ∧ (if y.low then ls.reverse else ls) = cs := ⟨if y.low then ls.reverse else ls, by unfold hf Bc.ld; cases y.low <;> simp, by cases y.low <;> simp, rfl⟩
    rcases Bool.eq_false_or_eq_true y.low with hlow | hlow
    rw [hlow] at rev ⊢
    simp only [if_true] at rev
    refine iteT ?_
    walk_at "go"
    refine w_revx (sq hl) (al fun p H1 n1 s1 h1 => ?_)
    rw [map_rev, rev] at h1
    rotate_left
    rw [hlow] at rev ⊢
    simp only [Bool.false_eq_true, if_false] at rev
    refine iteF ?_
    walk_at "go"
    have h1 : H l = some (.lst (cs.map V.int)) := by rw [← rev]; exact hl
    have s1 := Same.refl H
    all_goals
      walk_at "go"
      refine for_list (K := K) (xs := cs.map V.int) (fun i σ H' => ∃ (u : Option V), σ = [some (.ref l), some (.int r), some (.ref g), some (.int (hv ((hf y ls).take (i + 1)) r)), u] ∧ H' = _)
        ⟨none, by rw [ecs]; simp [hv]; rfl, rfl⟩ (fun i σ H' _ z => by obtain ⟨_, _, rfl⟩ := z; exact sq h1) ?_ ?_
      · rintro i x σ H' hi ⟨u, rfl, rfl⟩
        obtain ⟨z, hz, rfl⟩ := get_map hi
        have hil : i < cs.length := (List.getElem?_eq_some_iff.mp hz).1
        have hc : (hf y ls)[i + 1]? = some (z + y.shift) := by rw [ecs, List.getElem?_cons_succ, List.getElem?_map, hz]; rfl
        have hm : CMx (hv ((hf y ls).take (i + 1)) r) r := mx_w (hv_bits hr4 hfb (i + 1)) hr4 (by omega)
        walk_at "go"
        exact ⟨_, by rw [hv_take hc, Int.add_assoc], rfl⟩
      · rintro σ H' ⟨u, rfl, rfl⟩
        walk_at "go"
        have e : (hf y ls).take ((cs.map V.int).length + 1) = hf y ls := List.take_of_length_le (by rw [ecs]; simp)
        rw [e]
        exact q _ s1

abbrev s_countsof : Stmt := (top 37)
theorem sc_countsof : FnScope ["way", "stock", "length", "found", "turn", "ahead", "rest", "count", "letter"] ["way", "stock", "length"] (defScope s_countsof) :=
  ⟨rfl, rfl, rfl, by decide +kernel, rfl, by decide +kernel, by decide +kernel⟩
theorem ok_countsof {c : CA} (F : Dn K mg "counts_of" s_countsof ["way", "stock", "length"]) (T : Bt mg) (X : Kx K mg c) : Cal P w K mg base 1 "counts_of" (spCounts c) [] := by
  refine F.cal sc_countsof (fun vs H Q E h => ?_) (fun f cdv A outer s H vs Q E hr h => ?_)
  · obtain ⟨x, A, n, b, ps, y, rfl, _⟩ := h
    rfl
  · obtain ⟨x, A, n, b, ps, y, rfl, hw, hN2, A1, A2, n0, n1, q⟩ := h
    have hN := num_pos hw.facs.2
    have hb0 : 0 ≤ b ∧ b < num ps := by
      obtain ⟨_, _, _, _, _, _, h1, h2⟩ := hw
      exact ⟨h1, h2⟩
    have ix := fun z : Int => ix_lt hN z
    refine ⟨_, (pss_cons (ps_set (i := 3) sc_countsof.nd rfl (Or.inl rfl) (pe_op op_rep (pe_lst (pa_cons pe_int pa_nil)) (pe_fld (pv 0) rfl)))
      (pss_cons (ps_asg pe_int (pg_sub (pv 3) (pe_op op_mod (pe_callTy cInt1 (by rfl) T.int (by decide +kernel) (pa_cons (pe_fld (pe_fld (pv 0) rfl) rfl) pa_nil)) (pe_fld (pv 0) rfl)) set_list))
      (pss_cons (ps_for PassesOwn.never rfl (pi_range1 (by rfl) T.range (pa_cons (pv 2) pa_nil)) (pg_name (i := 4) sc_countsof.nd rfl (Or.inl rfl)) (pss_cons (ps_set (i := 5) sc_countsof.nd rfl (Or.inl rfl) (pe_op op_rep (pe_lst (pa_cons pe_int pa_nil)) (pe_fld (pv 0) rfl)))
      (pss_cons (ps_for PassesOwn.never rfl (pi_enum (by rfl) T.enumerate (pa_cons (pv 3) pa_nil)) (pg_tup rfl (pgs_cons (pg_name (i := 6) sc_countsof.nd rfl (Or.inl rfl)) (pgs_cons (pg_name (i := 7) sc_countsof.nd rfl (Or.inl rfl)) pgs_nil))) (pss_one (ps_for PassesOwn.never rfl (pi_range1 (by rfl) T.range (pa_cons (pv 1) pa_nil)) (pg_name (i := 8) sc_countsof.nd rfl (Or.inl rfl)) (pss_one (ps_augS (pv 5) (pe_op op_mod (pe_op op_add (pe_op op_add (pe_op oMul (pv 6) (pe_fld (pv 0) rfl)) (pv 8)) (pe_fld (pe_fld (pv 0) rfl) rfl)) (pe_fld (pv 0) rfl)) get_list (pv 7) ip_add set_list)))))
      (pss_one (ps_set (i := 3) sc_countsof.nd rfl (Or.inl rfl) (pv 5))))))
      (pss_one (ps_ret (pv 3)))))), ?_⟩
    walk_at "go"
    refine al fun p0 H0 _ s0 h0 => ?_
    walk_at "go"
    refine w_rep (xs := [.int 0]) h0 ⟨by omega, by omega, sz (by simp only [List.length_cons, List.length_nil]; omega)⟩ (al fun D H1 n1' s1 h1 => ?_)
    rw [rep00] at h1
    have nD : H D = none := s0.free n1'
    have S1 : Same H H1 := s0.trans s1
    clear s0 s1 n1' h0
    walk_at "go"
    refine w_setL (j := ((if y.lead = true then 1 else 0 : Int) % num ps).toNat) h1 ?_ ?_
    · have h3 := ix (if y.lead = true then 1 else 0)
      have h4 := Int.emod_nonneg (if y.lead = true then 1 else 0 : Int) (show num ps ≠ 0 by omega)
      unfold ixN
      rw [if_pos h4, List.length_map, List.length_replicate, if_pos (by omega)]
    walk_at "go"
    refine for_range (lo := 0) (n := n.toNat) (fun i σ H' => ∃ (D : Addr) (v4 v5 v6 v7 v8 : Option V), σ = [some (.ref x), some (.int A), some (.int n), some (.ref D), v4, v5, v6, v7, v8] ∧ H D = none ∧ Same H H' ∧ H' D = some (.lst ((cnt (num ps) b y.shift (ld y) A.toNat i).map V.int)))
      ⟨D, _, _, _, _, _, rfl, nD, same_apC nD S1, by rw [L2.upd_same, Bc.cnt, List.map_set]; rfl⟩ ?_ ?_
    · rintro i σ H2 hi ⟨D, v4, v5, v6, v7, v8, rfl, nD, s2, h2⟩
      have hxl := cnt_len (num ps) b y.shift (ld y) A.toNat i
      have ecnt : cnt (num ps) b y.shift (ld y) A.toNat (i + 1) = cOut (num ps) b y.shift A.toNat (cnt (num ps) b y.shift (ld y) A.toNat i) (num ps).toNat := rfl
      generalize cnt (num ps) b y.shift (ld y) A.toNat i = xs at h2 hxl ecnt
      walk_at "go"
      refine al fun p3 H3 _ s3 h3 => ?_
      walk_at "go"
      refine w_rep (xs := [.int 0]) h3 ⟨by omega, by omega, sz (by simp only [List.length_cons, List.length_nil]; omega)⟩ (al fun B H4 n4 s4 h4 => ?_)
      rw [rep00] at h4
      have S4 : Same H2 H4 := s3.trans s4
      have nB : H2 B = none := s3.free n4
      clear s3 s4 n4 h3
      walk_at "go"
      refine w_enumi (sq (S4 _ _ h2)) ?_
      refine for_it (walk_enum (xs := xs.map V.int)) (fun r σ H' => ∃ (v6 v7 v8 : Option V), σ = [some (.ref x), some (.int A), some (.int n), some (.ref D), some (.int (0 + (i : Int))), some (.ref B), v6, v7, v8] ∧ Same H2 H' ∧ H' B = some (.lst ((cOut (num ps) b y.shift A.toNat xs r).map V.int)))
        ⟨_, _, _, rfl, S4, h4⟩ (fun i σ H' _ z => by obtain ⟨_, _, _, _, z, _⟩ := z; exact sq (z _ _ h2)) ?_ ?_
      · rintro r yv σ H5 H6 hr5 ⟨v6, v7, v8, rfl, s5, h5⟩ ⟨t, z1, z2, rfl, nt, rfl, g1, g2⟩
        cases g1
        obtain ⟨z, hz, rfl⟩ := get_map g2
        rw [List.length_map] at hr5
        refine w_gtup (sqt upd_same) rfl ?_
        have s6 : Same H5 (upd H5 t (.tup [.int (r : Nat), .int z])) := Same.new nt
        generalize upd H5 t (.tup [.int (r : Nat), .int z]) = H6 at s6 ⊢
        have S6 := s5.trans s6
        have h6 := s6 _ _ h5
        clear s6 s5 h5
        have eout := cOut_succ (num ps) b y.shift A.toNat xs r
        have hol := cOut_len (num ps) b y.shift A.toNat xs r
        have ez : xs.getD r 0 = z := by rw [List.getD_eq_getElem?_getD, hz]; rfl
        rw [ez] at eout
        generalize cOut (num ps) b y.shift A.toNat xs r = ys at h6 eout hol
        walk_at "go"
        refine for_range (lo := 0) (n := A.toNat) (fun l σ H' => ∃ (v8 : Option V), σ = [some (.ref x), some (.int A), some (.int n), some (.ref D), some (.int (0 + (i : Int))), some (.ref B), some (.int (r : Nat)), some (.int z), v8] ∧ Same H2 H' ∧ H' B = some (.lst ((cIn (num ps) b y.shift r z l ys).map V.int)))
          ⟨_, rfl, S6, h6⟩ ?_ ?_
        · rintro l σ H7 hl ⟨v8, rfl, s7, h7⟩
          have ein := cIn_succ (num ps) b y.shift r z l ys
          have hil := cIn_len (num ps) b y.shift r z ys l
          generalize cIn (num ps) b y.shift r z l ys = us at h7 ein hil
          have hw7 := hw.same (s2.trans s7)
          have h3 := ix ((r : Int) * b + l + y.shift)
          have h4 := Int.emod_nonneg ((r : Int) * b + l + y.shift) (show num ps ≠ 0 by omega)
          have hul : ((r : Int) * b + l + y.shift) % num ps < us.length := by omega
          rw [show ((r : Nat) : Int) * b + (l : Int) + y.shift = (r : Nat) * b + (0 + (l : Int)) + y.shift by omega] at h3 h4 hul ein
          walk_at "go"
          refine w_ixL (xs := us.map V.int) (sq h7) (atI_map (x := us.getD ((((r : Nat) * b + (0 + (l : Int)) + y.shift) % num ps).toNat) 0) h4 ?_) ?_
          · rw [List.getD_eq_getElem?_getD, List.getElem?_eq_getElem (by omega)]
            rfl
          walk_at "go"
          refine w_setL (j := (((r : Nat) * b + (0 + (l : Int)) + y.shift) % num ps).toNat) h7 ?_ ?_
          · unfold ixN
            rw [if_pos h4, List.length_map, if_pos hul]
          walk_at "go"
          refine ⟨_, rfl, same_apC nB s7, ?_⟩
          rw [upd_same, ein, Bc.bump, List.map_set]
        · rintro σ H7 ⟨v8, rfl, s7, h7⟩
          walk_at "go"
          exact ⟨_, _, _, rfl, s7, by rw [eout]; exact h7⟩
      · rintro σ H5 ⟨v6, v7, v8, rfl, s5, h5⟩
        walk_at "go"
        rw [List.length_map, hxl, ← ecnt] at h5
        exact ⟨B, _, _, _, _, _, rfl, s2.free nB, s2.trans s5, h5⟩
    · rintro σ H2 ⟨D, v4, v5, v6, v7, v8, rfl, nD, s2, h2⟩
      walk_at "go"
      exact q H2 D nD s2 h2
abbrev s_wtsof : Stmt := (top 40)
theorem sc_wtsof : FnScope ["way", "length", "found", "place"] ["way", "length"] (defScope s_wtsof) :=
  ⟨rfl, rfl, rfl, by decide +kernel, rfl, by decide +kernel, by decide +kernel⟩
theorem ok_wtsof {c : CA} (F : Dn K mg "weights_of" s_wtsof ["way", "length"]) (T : Bt mg) (X : Kx K mg c) (c_power : Cal P w K mg base 1 "power_rest" spPower []) : Cal P w K mg base 2 "weights_of" (spWts c) [] := by
  refine F.cal sc_wtsof (fun vs H Q E h => ?_) (fun f cdv A outer s H vs Q E hr h => ?_)
  · obtain ⟨x, n, b, ps, y, rfl, _⟩ := h
    rfl
  · obtain ⟨x, n, b, ps, y, rfl, hw, hN2, hn, q⟩ := h
    have hN := num_pos hw.facs.2
    refine ⟨_, (pss_cons (ps_setLc (i := 2) (own := [("place", 3)]) (g := gName 3) (tt := tYes) (te := (tCall _ _ _ (tCons (tFld K (tVar 0) "base") (tCons (tVar 3) (tCons (tFld K (tVar 0) "number") tNil))))) rfl sc_wtsof.nd rfl rfl (sw_true rfl rfl rfl (by decide +kernel)) (pi_range1 (by rfl) T.range (pa_cons (pv 1) pa_nil)) (blkOk_by (own := [("place", 3)]) (N := ["way", "length", "found", "place"]) (sc := defScope s_wtsof) (by decide +kernel)) (fun _ _ _ _ _ => (pg_name (i := 3) sc_wtsof.nd rfl (Or.inl rfl))) (fun _ _ _ _ _ => pts_nil) (fun _ _ _ _ _ => (pe_c c_power hr (by decide) (by rfl) (pa_cons (pe_fld (pv 0) rfl) (pa_cons (pv 3) (pa_cons (pe_fld (pv 0) rfl) pa_nil))))))
      (pss_one (ps_ret (pe_ifExp (pt_val (pe_fld (pe_fld (pv 0) rfl) rfl)) (pv 2) (pe_revL (pv 2)))))), ?_⟩
    walk_at "go"
    intro D hD
    refine lc_pure ((List.range (n : Int).toNat).map fun i : Nat => V.int (0 + (i : Int))) (((List.range n).map fun i : Nat => b ^ i % num ps).map V.int) walk_rangeY hD (fun _ _ => trivial) (by simp) (by simp; omega) (fun _ => rfl) ?_ ?_
    · intro i u z H' hu hz sm Q' q'
      have hi : i < n := by
        have := (List.getElem?_eq_some_iff.mp hu).1
        rw [List.length_map, List.length_range] at this
        omega
      rw [List.getElem?_map, List.getElem?_range (by omega)] at hu
      rw [List.map_map, List.getElem?_map, List.getElem?_range hi] at hz
      cases hu
      cases hz
      walk_at "go"
      refine ⟨_, _, _, 11, rfl, by omega, by omega, hN, by omega, by omega, ?_⟩
      rw [show (0 + (i : Int)).toNat = i by omega]
      exact q' _ (Same.refl _)
    · intro H1 s1 hD1
      walk_at "go"
      cases hlow : y.low with
      | true =>
        refine iteT ?_
        walk_at "go"
        refine q H1 D s1 ?_
        unfold wts
        rw [hlow, if_pos rfl]
        exact hD1
      | false =>
        refine iteF ?_
        walk_at "go"
        refine w_revi (sq hD1) fun e he => ?_
        walk_at "go"
        refine q _ e (s1.trans (Same.new he)) ?_
        unfold wts
        rw [hlow, if_neg (by decide), L2.upd_same, map_rev]
abbrev s_summ : Stmt := (inClass (top 41) 1)
theorem sc_summ : FnScope ["self", "weight", "letter"] ["self", "weight", "letter"] (defScope s_summ) :=
  ⟨rfl, rfl, rfl, by decide +kernel, rfl, by decide +kernel, by decide +kernel⟩
theorem ok_summ {c : CA} {Cs : Addr} {f : Addr} {fd : FuncData} (F : FunD K "summand" "Sorted.summand" (defArgs s_summ) (defBody s_summ) (defScope s_summ) [] [] f fd) (T : Bt mg) (X : Kx K mg c) (S : Ks K mg Cs) :
    FnOk P w K mg base L2.CX0 1 f fd ["self", "weight", "letter"] (spSummand c Cs) := by
  refine fnD_ok F sc_summ (fun vs H Q E h => ?_) (fun cdv A outer s H vs Q E hr h => ?_)
  · obtain ⟨o, dx, x, fs, w, l, b, ps, y, rfl, _⟩ := h
    rfl
  · obtain ⟨o, dx, x, fs, w, l, b, ps, y, rfl, ho, hway, hw, hN2, w0, w1, q⟩ := h
    have hN := num_pos hw.facs.2
    refine ⟨_, (pss_one (ps_ret (pe_op op_mod (pe_op oMul (pe_op op_add (pv 2) (pe_fld (pe_fld (pe_fld (pv 0) rfl) rfl) rfl)) (pv 1)) (pe_fld (pe_fld (pv 0) rfl) rfl)))), ?_⟩
    walk_at "go"
    refine w_fldi ho S.cl.cl S.way hway ?_
    walk_at "go"
    refine w_fldi ho S.cl.cl S.way hway ?_
    walk_at "go"
    exact q
abbrev s_ahead : Stmt := (inClass (top 41) 2)
theorem sc_ahead : FnScope ["self", "weight", "counts", "found", "letter", "added", "rest", "count"] ["self", "weight", "counts"] (defScope s_ahead) :=
  ⟨rfl, rfl, rfl, by decide +kernel, rfl, by decide +kernel, by decide +kernel⟩
theorem ok_ahead {c : CA} {Cs : Addr} {f : Addr} {fd : FuncData} (F : FunD K "counted_ahead" "Sorted.counted_ahead" (defArgs s_ahead) (defBody s_ahead) (defScope s_ahead) [] [] f fd) (T : Bt mg) (X : Kx K mg c) (S : Ks K mg Cs) (c_summ : Met P w K mg base 1 Cs "summand" (spSummand c Cs) []) :
    FnOk P w K mg base L2.CX0 2 f fd ["self", "weight", "counts"] (spAhead c Cs) := by
  refine fnD_ok F sc_ahead (fun vs H Q E h => ?_) (fun cdv A outer s H vs Q E hr h => ?_)
  · obtain ⟨o, dx, x, p, fs, w, A, b, ps, y, ws, rfl, _⟩ := h
    rfl
  · obtain ⟨o, dx, x, p, fs, w, A, b, ps, y, ws, rfl, ho, hway, hstock, hsum, hw, hN2, A1, A2, w0, w1, ⟨xs, hp, hxl, hxs⟩, q⟩ := h
    have hN := num_pos hw.facs.2
    have ix := fun z : Int => ix_lt hN z
    refine ⟨_, (pss_cons (ps_set (i := 3) sc_ahead.nd rfl (Or.inl rfl) (pe_op op_rep (pe_lst (pa_cons pe_int pa_nil)) (pe_fld (pe_fld (pv 0) rfl) rfl)))
      (pss_cons (ps_for PassesOwn.never rfl (pi_range1 (by rfl) T.range (pa_cons (pe_fld (pv 0) rfl) pa_nil)) (pg_name (i := 4) sc_ahead.nd rfl (Or.inl rfl)) (pss_cons (ps_set (i := 5) sc_ahead.nd rfl (Or.inl rfl) (pe_mt c_summ hr (by decide) (pv 0) (pa_cons (pv 1) (pa_cons (pv 4) pa_nil))))
      (pss_one (ps_for PassesOwn.never rfl (pi_enum (by rfl) T.enumerate (pa_cons (pv 2) pa_nil)) (pg_tup rfl (pgs_cons (pg_name (i := 6) sc_ahead.nd rfl (Or.inl rfl)) (pgs_cons (pg_name (i := 7) sc_ahead.nd rfl (Or.inl rfl)) pgs_nil))) (pss_one (ps_augS (pv 3) (pe_op op_mod (pe_op op_add (pv 6) (pv 5)) (pe_fld (pe_fld (pv 0) rfl) rfl)) get_list (pv 7) ip_add set_list))))))
      (pss_one (ps_ret (pv 3))))), ?_⟩
    walk_at "go"
    refine al fun p0 H0 _ s0 h0 => ?_
    walk_at "go"
    refine w_fldi (s0 _ _ ho) S.cl.cl S.way hway ?_
    walk_at "go"
    refine w_rep (xs := [.int 0]) h0 ⟨by omega, by omega, sz (by simp only [List.length_cons, List.length_nil]; omega)⟩ (al fun D H1 n1 s1 h1 => ?_)
    rw [rep00] at h1
    have nD : H D = none := s0.free n1
    have S1 : Same H H1 := s0.trans s1
    clear s0 s1 n1 h0
    walk_at "go"
    refine w_fldi (S1 _ _ ho) S.cl.cl S.stock hstock ?_
    walk_at "go"
    refine for_range (lo := 0) (n := A.toNat) (fun l σ H' => ∃ (ys : List Int) (v4 v5 v6 v7 : Option V), σ = [some (.ref o), some (.int w), some (.ref p), some (.ref D), v4, v5, v6, v7] ∧ Same H H' ∧ H' D = some (.lst (ys.map V.int)) ∧ ys.length = (num ps).toNat ∧ ∀ i, i < (num ps).toNat → ys.getD i 0 = sig l fun k => Gw (num ps) A.toNat y.shift ws ((i : Int) - ((k : Int) + y.shift) * w))
      ⟨_, none, none, none, none, rfl, S1, h1, by rw [List.length_replicate], fun i _ => by rw [getD_rep]; rfl⟩ ?_ ?_
    · rintro l σ H2 hl ⟨ys, v4, v5, v6, v7, rfl, s2, h2, hyl, hys⟩
      walk_at "go"
      refine w_methi (s2 _ _ ho) hsum ?_
      walk_at "go"
      refine ⟨o, dx, x, fs, w, _, b, ps, y, rfl, s2 _ _ ho, hway, by walk_at "hp", hN2, w0, w1, ?_⟩
      have hadd0 := Int.emod_nonneg ((0 + (l : Int) + y.shift) * w) (show num ps ≠ 0 by omega)
      obtain ⟨ad, had⟩ : ∃ ad, ad = (0 + (l : Int) + y.shift) * w % num ps := ⟨_, rfl⟩
      rw [← had] at hadd0 ⊢
      walk_at "go"
      refine w_enumi (sq (s2 _ _ hp)) ?_
      refine for_it (walk_enum (xs := xs.map V.int)) (fun r σ H' => ∃ (us : List Int) (v6 v7 : Option V), σ = [some (.ref o), some (.int w), some (.ref p), some (.ref D), some (.int (0 + (l : Int))), some (.int ad), v6, v7] ∧ Same H H' ∧ H' D = some (.lst (us.map V.int)) ∧ us.length = (num ps).toNat ∧ ∀ i, us.getD i 0 = ys.getD i 0 + sig r fun k => if (((k : Int) + ad) % num ps).toNat = i then xs.getD k 0 else 0)
        ⟨ys, _, _, rfl, s2, h2, hyl, fun i => by rw [sig, Int.add_zero]⟩ (fun i σ H' _ z => by obtain ⟨_, _, _, _, z, _⟩ := z; exact sq (z _ _ hp)) ?_ ?_
      · rintro r yv σ H5 H6 hr5 ⟨us, v6, v7, rfl, s5, h5, hul, hus⟩ ⟨t, z1, z2, rfl, nt, rfl, g1, g2⟩
        cases g1
        obtain ⟨z, hz, rfl⟩ := get_map g2
        rw [List.length_map] at hr5
        refine w_gtup (sqt upd_same) rfl ?_
        have s6 : Same H5 (upd H5 t (.tup [.int (r : Nat), .int z])) := Same.new nt
        generalize upd H5 t (.tup [.int (r : Nat), .int z]) = H6 at s6 ⊢
        have S6 := s5.trans s6
        have h6 := s6 _ _ h5
        clear s6 s5 h5
        have ez : xs.getD r 0 = z := by rw [List.getD_eq_getElem?_getD, hz]; rfl
        have h3 := ix ((r : Int) + ad)
        have h4 := Int.emod_nonneg ((r : Int) + ad) (show num ps ≠ 0 by omega)
        walk_at "go"
        refine w_fldi (S6 _ _ ho) S.cl.cl S.way hway ?_
        walk_at "go"
        refine w_ixL (xs := us.map V.int) (sq h6) (atI_map (x := us.getD (((r : Int) + ad) % num ps).toNat 0) h4 ?_) ?_
        · rw [List.getD_eq_getElem?_getD, List.getElem?_eq_getElem (by omega)]
          rfl
        walk_at "go"
        refine w_setL (j := (((r : Int) + ad) % num ps).toNat) h6 ?_ ?_
        · unfold ixN
          rw [if_pos h4, List.length_map, if_pos (by omega)]
        walk_at "go"
        refine ⟨Bc.bump us (((r : Int) + ad) % num ps).toNat z, _, _, rfl, same_apC nD S6, ?_, by rw [bump_len]; exact hul, fun i => ?_⟩
        · rw [upd_same, Bc.bump, List.map_set]
        · rw [bump_get (by omega), hus, sig, ez, Int.add_assoc]
      · rintro σ H5 ⟨us, v6, v7, rfl, s5, h5, hul, hus⟩
        walk_at "go"
        refine ⟨us, _, _, _, _, rfl, s5, h5, hul, fun i hi => ?_⟩
        rw [hus, hys i hi, sig, List.length_map, hxl, sig_row hN xs ad hi, hxs _ (ix _), Int.toNat_of_nonneg (Int.emod_nonneg _ (by omega)), had, sub_mod, per_mod (Gw_per ws), Int.zero_add]
    · rintro σ H2 ⟨ys, v4, v5, v6, v7, rfl, s2, h2, hyl, hys⟩
      walk_at "go"
      refine q H2 D nD s2 ⟨ys, h2, hyl, fun i hi => ?_⟩
      rw [hys i hi]
      rfl
abbrev s_srinit : Stmt := (inClass (top 41) 0)
theorem sc_srinit : FnScope ["self", "way", "stock", "length", "last", "weight"] ["self", "way", "stock", "length"] (defScope s_srinit) :=
  ⟨rfl, rfl, rfl, by decide +kernel, rfl, by decide +kernel, by decide +kernel⟩
theorem ok_srinit {c : CA} {Cs : Addr} {f : Addr} {fd : FuncData} (F : FunD K "__init__" "Sorted.__init__" (defArgs s_srinit) (defBody s_srinit) (defScope s_srinit) [] [] f fd) (T : Bt mg) (X : Kx K mg c) (S : Ks K mg Cs) (c_power : Cal P w K mg base 1 "power_rest" spPower []) (c_wtsof : Cal P w K mg base 2 "weights_of" (spWts c) []) (c_ahead : Met P w K mg base 2 Cs "counted_ahead" (spAhead c Cs) []) :
    FnOk P w K mg base L2.CX0 3 f fd ["self", "way", "stock", "length"] (spSrInit c Cs) := by
  refine fnD_ok F sc_srinit (fun vs H Q E h => ?_) (fun cdv A outer s H vs Q E hr h => ?_)
  · obtain ⟨o, dx, x, A, b, n, ps, y, rfl, _⟩ := h
    rfl
  · obtain ⟨o, dx, x, A, b, n, ps, y, rfl, ho, hw, hN2, A1, A2, hn, q⟩ := h
    have hN := num_pos hw.facs.2
    have hwo := hw.out ho
    refine ⟨_, (pss_cons (ps_fld (pv 0) (pv 1) rfl)
      (pss_cons (ps_fld (pv 0) (pv 2) rfl)
      (pss_cons (ps_fld (pv 0) (pe_c c_wtsof hr (by decide) (by rfl) (pa_cons (pv 1) (pa_cons (pv 3) pa_nil))) rfl)
      (pss_cons (ps_fld (pv 0) (pe_op oMul (pe_callTy cInt1 (by rfl) T.int (by decide +kernel) (pa_cons (pe_fld (pe_fld (pv 1) rfl) rfl) pa_nil)) (pe_c c_power hr (by decide) (by rfl) (pa_cons (pe_fld (pv 1) rfl) (pa_cons (pv 3) (pa_cons (pe_fld (pv 1) rfl) pa_nil))))) rfl)
      (pss_cons (ps_set (i := 4) sc_srinit.nd rfl (Or.inl rfl) (pe_op op_rep (pe_lst (pa_cons pe_int pa_nil)) (pe_fld (pv 1) rfl)))
      (pss_cons (ps_asg pe_int (pg_sub (pv 4) pe_int set_list))
      (pss_cons (ps_fld (pv 0) (pe_lst (pa_cons (pv 4) pa_nil)) rfl)
      (pss_cons (ps_for PassesOwn.never rfl (pi_list (pe_revL (pe_fld (pv 0) rfl))) (pg_name (i := 5) sc_srinit.nd rfl (Or.inl rfl)) (pss_one (ps_expr (pe_bm PySem.F.plainAttrs_list PySem.F.slot_list_append PySem.F.type_list_append mt_append (pe_fld (pv 0) rfl) (pa_cons (pe_mt c_ahead hr (by decide) (pv 0) (pa_cons (pv 5) (pa_cons (pe_ix ix_list (pe_fld (pv 0) rfl) (pe_un un_neg pe_int) (fun _ _ => rfl)) pa_nil))) pa_nil)))))
      (pss_one (ps_fld (pv 0) (pe_revL (pe_fld (pv 0) rfl)) rfl)))))))))), ?_⟩
    walk_at "go"
    refine w_sfldi ho S.cl.cl S.way (by decide) ?_
    walk_at "go"
    refine w_sfldi upd_same S.cl.cl S.stock (by show 1 < 1000; decide) ?_
    have e1 : putF "stock" (.int A) (putF "way" (.ref x) []) = ([("way", V.ref x), ("stock", .int A)] : List (Str × V)) := by
      rw [put0, putS (by decide +kernel)]
      rfl
    rw [e1]
    have r2 : rm o (upd (upd H o (.ins Cs dx (putF "way" (.ref x) []))) o (.ins Cs dx [("way", V.ref x), ("stock", .int A)])) = rm o H := by rw [rm_updS, rm_updS]
    have k2 : ∀ a ob, a ≠ o → H a = some ob → upd (upd H o (.ins Cs dx (putF "way" (.ref x) []))) o (.ins Cs dx [("way", V.ref x), ("stock", .int A)]) a = some ob := fun a ob na e => by rw [upd_ne na, upd_ne na]; exact e
    have h2 : upd (upd H o (.ins Cs dx (putF "way" (.ref x) []))) o (.ins Cs dx [("way", V.ref x), ("stock", .int A)]) o = some (.ins Cs dx [("way", V.ref x), ("stock", .int A)]) := upd_same
    generalize upd (upd H o (.ins Cs dx (putF "way" (.ref x) []))) o (.ins Cs dx [("way", V.ref x), ("stock", .int A)]) = H2 at r2 k2 h2 ⊢
    have hw2 : WayAt c H2 x b ps y := WayAt.same (H := rm o H2) (by rw [r2]; exact hwo) rm_le
    walk_at "go"
    refine ⟨x, n, b, ps, y, rfl, hw2, hN2, hn, fun H3 sc s3 hsc => ?_⟩
    walk_at "go"
    refine w_sfldi (s3 _ _ h2) S.cl.cl S.scales (by show 2 < 1000; decide) ?_
    have e3 : putF "scales" (.ref sc) [("way", V.ref x), ("stock", .int A)] = ([("way", V.ref x), ("stock", .int A), ("scales", .ref sc)] : List (Str × V)) := by
      rw [putS (by decide +kernel), putS (by decide +kernel)]
      rfl
    rw [e3]
    have nsc : sc ≠ o := fun e => by
      have := s3 _ _ h2
      rw [← e, hsc] at this
      cases this
    have r4 : Same (rm o H) (rm o (upd H3 o (.ins Cs dx [("way", V.ref x), ("stock", .int A), ("scales", .ref sc)]))) := by rw [rm_updS, ← r2]; exact s3.rm
    have h4 : upd H3 o (.ins Cs dx [("way", V.ref x), ("stock", .int A), ("scales", .ref sc)]) o = some (.ins Cs dx [("way", V.ref x), ("stock", .int A), ("scales", .ref sc)]) := upd_same
    have hsc4 : upd H3 o (.ins Cs dx [("way", V.ref x), ("stock", .int A), ("scales", .ref sc)]) sc = some (.lst ((wts b (num ps) y.low n).map V.int)) := by rw [upd_ne nsc]; exact hsc
    have k4 : ∀ a ob, a ≠ o → H a = some ob → upd H3 o (.ins Cs dx [("way", V.ref x), ("stock", .int A), ("scales", .ref sc)]) a = some ob := fun a ob na e => by rw [upd_ne na]; exact s3 _ _ (k2 _ _ na e)
    generalize upd H3 o (.ins Cs dx [("way", V.ref x), ("stock", .int A), ("scales", .ref sc)]) = H4 at r4 k4 h4 hsc4 ⊢
    clear k2 r2 h2 s3 hsc
    have hw4 : WayAt c H4 x b ps y := (hwo.same r4).same rm_le
    have hpw0 := Int.emod_nonneg (b ^ n) (show num ps ≠ 0 by omega)
    have hpw1 := Int.emod_lt_of_pos (b ^ n) hN
    have hm : CMx (if y.lead = true then 1 else 0) (b ^ n % num ps) := mx_r ⟨by omega, by omega⟩
    walk_at "go"
    refine ⟨_, _, _, 11, rfl, by omega, by omega, hN, by omega, by omega, ?_⟩
    rw [Int.toNat_natCast]
    walk_at "go"
    refine w_sfldi h4 S.cl.cl S.lead (by show 3 < 1000; decide) ?_
    obtain ⟨kk, hkk⟩ : ∃ kk, (if y.lead = true then 1 else 0) * (b ^ n % num ps) = ld y * b ^ n + num ps * kk := by
      have := Int.mul_ediv_add_emod (b ^ n) (num ps)
      have e : ld y = if y.lead = true then 1 else 0 := rfl
      rw [← e]
      refine ⟨-(ld y * (b ^ n / num ps)), ?_⟩
      have h9 : ld y * b ^ n = ld y * (num ps * (b ^ n / num ps) + b ^ n % num ps) := by rw [this]
      rw [Int.mul_add, Int.mul_left_comm] at h9
      rw [Int.mul_neg]
      omega
    rw [hkk]
    obtain ⟨L, hL⟩ : ∃ L, L = ld y * b ^ n + num ps * kk := ⟨_, rfl⟩
    rw [← hL]
    have e5 : putF "lead" (.int L) [("way", V.ref x), ("stock", .int A), ("scales", .ref sc)] = ([("way", V.ref x), ("stock", .int A), ("scales", .ref sc), ("lead", .int L)] : List (Str × V)) := by
      rw [putS (by decide +kernel), putS (by decide +kernel), putS (by decide +kernel)]
      rfl
    rw [e5]
    have r5 : Same (rm o H) (rm o (upd H4 o (.ins Cs dx [("way", V.ref x), ("stock", .int A), ("scales", .ref sc), ("lead", .int L)]))) := by rw [rm_updS]; exact r4
    have h5 : upd H4 o (.ins Cs dx [("way", V.ref x), ("stock", .int A), ("scales", .ref sc), ("lead", .int L)]) o = some (.ins Cs dx [("way", V.ref x), ("stock", .int A), ("scales", .ref sc), ("lead", .int L)]) := upd_same
    have hsc5 : upd H4 o (.ins Cs dx [("way", V.ref x), ("stock", .int A), ("scales", .ref sc), ("lead", .int L)]) sc = some (.lst ((wts b (num ps) y.low n).map V.int)) := by rw [upd_ne nsc]; exact hsc4
    generalize upd H4 o (.ins Cs dx [("way", V.ref x), ("stock", .int A), ("scales", .ref sc), ("lead", .int L)]) = H5 at r5 h5 hsc5 ⊢
    clear k4 r4 h4 hsc4 hw4
    have hw5 : WayAt c H5 x b ps y := (hwo.same r5).same rm_le
    walk_at "go"
    refine al fun p6 H6 _ s6 h6 => ?_
    walk_at "go"
    refine w_rep (xs := [.int 0]) h6 ⟨by omega, by omega, sz (by simp only [List.length_cons, List.length_nil]; omega)⟩ (al fun D H7 n7 s7 h7 => ?_)
    rw [rep00] at h7
    have nD : H5 D = none := s6.free n7
    have S7 : Same H5 H7 := s6.trans s7
    clear s6 s7 n7 h6
    walk_at "go"
    refine w_setL (j := 0) h7 ?_ ?_
    · unfold ixN
      rw [if_pos (by decide), List.length_map, List.length_replicate, if_pos (by omega)]
      rfl
    have S8 : Same H5 (upd H7 D (.lst (((List.replicate (num ps).toNat (0 : Int)).map V.int).set 0 (.int 1)))) := same_apC nD S7
    have row8 : RowAt (num ps) A.toNat y.shift (upd H7 D (.lst (((List.replicate (num ps).toNat (0 : Int)).map V.int).set 0 (.int 1)))) [] D := by
      refine ⟨(List.replicate (num ps).toNat (0 : Int)).set 0 1, by rw [upd_same, List.map_set], by rw [List.length_set, List.length_replicate], fun i hi => ?_⟩
      rw [Bc.Gw, chi, Int.emod_eq_of_lt (by omega) (by omega), List.getD_eq_getElem?_getD, List.getElem?_set, List.length_replicate, if_pos (by omega : 0 < (num ps).toNat)]
      by_cases e : 0 = i
      · rw [if_pos e, if_pos (by omega)]
        rfl
      · rw [if_neg e, if_neg (by omega), List.getElem?_replicate, if_pos hi]
        rfl
    generalize upd H7 D (.lst (((List.replicate (num ps).toNat (0 : Int)).map V.int).set 0 (.int 1))) = H8 at S8 row8 ⊢
    clear h7 S7
    walk_at "go"
    refine al fun ct H9 n9 s9 h9 => ?_
    walk_at "go"
    have nct : ct ≠ o := fun e => by
      have := S8 _ _ h5
      rw [← e, n9] at this
      cases this
    refine w_sfldi (s9 _ _ (S8 _ _ h5)) S.cl.cl S.counts (by show 4 < 1000; decide) ?_
    have e6 : putF "counts" (.ref ct) [("way", V.ref x), ("stock", .int A), ("scales", .ref sc), ("lead", .int L)] = srF x A sc L ct := by
      rw [putS (by decide +kernel), putS (by decide +kernel), putS (by decide +kernel), putS (by decide +kernel)]
      rfl
    rw [e6]
    have S9 : Same H5 H9 := S8.trans s9
    have r10 : Same (rm o H) (rm o (upd H9 o (.ins Cs dx (srF x A sc L ct)))) := by rw [rm_updS]; exact r5.trans S9.rm
    have h10 : upd H9 o (.ins Cs dx (srF x A sc L ct)) o = some (.ins Cs dx (srF x A sc L ct)) := upd_same
    have hsc10 : upd H9 o (.ins Cs dx (srF x A sc L ct)) sc = some (.lst ((wts b (num ps) y.low n).map V.int)) := by rw [upd_ne nsc]; exact S9 _ _ hsc5
    have hct10 : upd H9 o (.ins Cs dx (srF x A sc L ct)) ct = some (.lst (([D] : List Addr).map V.ref)) := by rw [upd_ne nct]; exact h9
    have row10 : RowAt (num ps) A.toNat y.shift (upd H9 o (.ins Cs dx (srF x A sc L ct))) [] D := (row8.same s9).ins (S9 _ _ h5)
    have nct0 : rm o H ct = none := r5.free (rm_none (S8.free n9))
    generalize upd H9 o (.ins Cs dx (srF x A sc L ct)) = H10 at r10 h10 hsc10 hct10 row10 ⊢
    clear S8 s9 S9 n9 h9 row8 r5 h5 hsc5 hw5 nD e6
    have hwl := wts_len b (num ps) y.low n
    have hwlt := wts_lt (b := b) hN y.low n
    obtain ⟨ws, hws⟩ : ∃ ws, ws = wts b (num ps) y.low n := ⟨_, rfl⟩
    rw [← hws] at hsc10 hwl hwlt
    walk_at "go"
    refine w_fldi h10 S.cl.cl S.scales sr_scales ?_
    walk_at "go"
    refine w_revi (sq hsc10) fun R hR => ?_
    walk_at "go"
    have s11 : Same H10 (upd H10 R (.lst ((ws.map V.int).reverse))) := Same.new hR
    have hR11 : upd H10 R (.lst ((ws.map V.int).reverse)) R = some (.lst (ws.reverse.map V.int)) := by rw [upd_same, map_rev]
    have nRc : R ≠ ct := fun e => by rw [e, hct10] at hR; cases hR
    generalize upd H10 R (.lst ((ws.map V.int).reverse)) = H11 at s11 hR11 ⊢
    refine for_list (K := K) (a := R) (xs := ws.reverse.map V.int) (fun i σ H' => ∃ (cs : List Addr) (v5 : Option V), σ = [some (.ref o), some (.ref x), some (.int A), some (.int (n : Nat)), some (.ref D), v5] ∧ H' o = some (.ins Cs dx (srF x A sc L ct)) ∧ H' ct = some (.lst (cs.map V.ref)) ∧ cs.length = i + 1 ∧ H' sc = some (.lst (ws.map V.int)) ∧ H' R = some (.lst (ws.reverse.map V.int)) ∧ Same (rm o H) (rm o H') ∧
        ∀ (j : Nat) (p : Addr), cs[j]? = some p → RowAt (num ps) A.toNat y.shift H' (ws.drop (n - j)) p)
      ⟨[D], none, rfl, s11 _ _ h10, s11 _ _ hct10, rfl, s11 _ _ hsc10, hR11, r10.trans s11.rm, fun j p hj => ?_⟩ (fun i σ H' _ z => by obtain ⟨_, _, _, _, _, _, _, z, _⟩ := z; exact sq z) ?_ ?_
    · have hj0 : j = 0 := by
        have := (List.getElem?_eq_some_iff.mp hj).1
        simp at this
        exact this
      subst hj0
      cases hj
      rw [Nat.sub_zero, ← hwl, List.drop_length]
      exact row10.same s11
    · rintro i yv σ H' hi ⟨cs, v5, rfl, ho', hct', hcl, hsc', hR', r', rows⟩
      obtain ⟨w, hwi, rfl⟩ := get_map hi
      have hin : i < n := by
        have := (List.getElem?_eq_some_iff.mp hwi).1
        rw [List.length_reverse] at this
        omega
      rw [List.getElem?_reverse (by omega)] at hwi
      have hwb := hwlt w (List.mem_of_getElem? hwi)
      have hw' : WayAt c H' x b ps y := (hwo.same r').same rm_le
      obtain ⟨cs', last, hcs⟩ : ∃ cs' last, cs = cs' ++ [last] := by
        rcases List.eq_nil_or_concat cs with e | ⟨cs', last, e⟩
        · rw [e] at hcl; simp at hcl
        · exact ⟨cs', last, by rw [e, List.concat_eq_append]⟩
      have hcl2 : cs'.length = i := by rw [hcs, List.length_append] at hcl; simp at hcl; exact hcl
      have rl := rows i last (by rw [hcs, ← hcl2]; simp)
      walk_at "go"
      refine w_fldi ho' S.cl.cl S.counts sr_counts ?_
      walk_at "go"
      refine w_methi ho' (sr_no (by decide +kernel) (by decide +kernel) (by decide +kernel) (by decide +kernel) (by decide +kernel)) ?_
      walk_at "go"
      refine w_fldi ho' S.cl.cl S.counts sr_counts ?_
      walk_at "go"
      refine w_ixL (xs := cs.map V.ref) (v := .ref last) (sq hct') (by rw [hcs, List.map_append]; exact L2.atI_last _ _) ?_
      walk_at "go"
      refine ⟨o, dx, x, last, _, w, A, b, ps, y, ws.drop (n - i), rfl, ho', sr_way, sr_stock, sr_no (by decide +kernel) (by decide +kernel) (by decide +kernel) (by decide +kernel) (by decide +kernel), hw', hN2, A1, A2, hwb.1, hwb.2, rl, fun H2 l nl sl hl => ?_⟩
      walk_at "go"
      have hcne : cs ≠ [] := fun e => by rw [e] at hcl; simp at hcl
      refine w_append (sl _ _ hct') (by rw [List.length_map]; have : (100000 : Nat) < sizeLine := (by decide); omega) ?_
      walk_at "go"
      have nRl : ∀ {p : Addr} {xs : List Int}, H2 p = some (.lst (xs.map V.int)) → p ≠ ct := fun h => lst_ne hcne h (sl _ _ hct')
      refine ⟨cs ++ [l], _, rfl, by rw [upd_ne nct.symm]; exact sl _ _ ho', by rw [upd_same, List.map_append]; rfl, by rw [List.length_append, hcl]; rfl, by rw [upd_ne (nRl (sl _ _ hsc'))]; exact sl _ _ hsc', by rw [upd_ne (nRl (sl _ _ hR'))]; exact sl _ _ hR', ?_, fun j p hj => ?_⟩
      · rw [rm_upd nct]
        exact same_apC nct0 (r'.trans sl.rm)
      · rw [List.getElem?_append] at hj
        by_cases c : j < cs.length
        · rw [if_pos c] at hj
          exact ((rows j p hj).same sl).up hcne (sl _ _ hct')
        · rw [if_neg c] at hj
          have hj1 : j = i + 1 := by
            have := (List.getElem?_eq_some_iff.mp hj).1
            simp at this
            omega
          subst hj1
          rw [show i + 1 - cs.length = 0 by omega] at hj
          cases hj
          have hd : ws.drop (n - (i + 1)) = w :: ws.drop (n - i) := by
            rw [List.drop_eq_getElem_cons (by omega), show n - (i + 1) + 1 = n - i by omega]
            congr 1
            have e2 : ws[ws.length - 1 - i]? = ws[n - (i + 1)]? := by congr 1; omega
            rw [e2] at hwi
            exact (List.getElem?_eq_some_iff.mp hwi).2
          rw [hd]
          exact hl.up hcne (sl _ _ hct')
    · rintro σ H' ⟨cs, v5, rfl, ho', hct', hcl, hsc', hR', r', rows⟩
      rw [List.length_map, List.length_reverse, hwl] at hcl
      walk_at "go"
      refine w_fldi ho' S.cl.cl S.counts sr_counts ?_
      walk_at "go"
      refine w_revi (sq hct') fun p hp => ?_
      walk_at "go"
      have npo : p ≠ o := fun e => by rw [e, ho'] at hp; cases hp
      have sP : Same H' (upd H' p (.lst ((cs.map V.ref).reverse))) := Same.new hp
      have hpP : upd H' p (.lst ((cs.map V.ref).reverse)) p = some (.lst (cs.reverse.map V.ref)) := by rw [upd_same, List.map_reverse]
      generalize upd H' p (.lst ((cs.map V.ref).reverse)) = HP at sP hpP ⊢
      refine w_sfldi (sP _ _ ho') S.cl.cl S.counts (by show 5 < 1000; decide) ?_
      rw [sr_put]
      have rF : Same (rm o H) (rm o (upd HP o (.ins Cs dx (srF x A sc L p)))) := by rw [rm_updS]; exact r'.trans sP.rm
      walk_at "go"
      refine q _ (fun a ob na e => rm_le _ _ (rF _ _ (rm_of na e))) ⟨dx, sc, p, cs.reverse, kk, by rw [L2.upd_same, hL], (hwo.same rF).same rm_le, ?_, ?_, by rw [List.length_reverse]; exact hcl, fun i r hr => ?_⟩
      · rw [upd_ne nsc, ← hws]
        exact sP _ _ hsc'
      · rw [upd_ne npo]
        exact hpP
      · have hi : i < cs.length := by
          have := (List.getElem?_eq_some_iff.mp hr).1
          rwa [List.length_reverse] at this
        rw [List.getElem?_reverse hi] at hr
        have := rows _ _ hr
        rw [show n - (cs.length - 1 - i) = i by omega] at this
        rw [← hws]
        exact (this.same sP).ins (sP _ _ ho')

abbrev s_textat : Stmt := (inClass (top 41) 3)
theorem sc_textat : FnScope ["self", "mark", "number", "left", "found", "place", "weight", "letter", "behind"] ["self", "mark", "number"] (defScope s_textat) :=
  ⟨rfl, rfl, rfl, by decide +kernel, rfl, by decide +kernel, by decide +kernel⟩
theorem ok_textat {c : CA} {Cs : Addr} {f : Addr} {fd : FuncData} (F : FunD K "text_at" "Sorted.text_at" (defArgs s_textat) (defBody s_textat) (defScope s_textat) [] [] f fd) (T : Bt mg) (X : Kx K mg c) (S : Ks K mg Cs) (c_summ : Met P w K mg base 1 Cs "summand" (spSummand c Cs) []) :
    FnOk P w K mg base L2.CX0 2 f fd ["self", "mark", "number"] (spTextAt c Cs) := by
  refine fnD_ok F sc_textat (fun vs H Q E h => ?_) (fun cdv A outer s H vs Q E hr h => ?_)
  · obtain ⟨o, x, m, k, A, b, n, ps, y, rfl, _⟩ := h
    rfl
  · obtain ⟨o, x, m, k, A, b, n, ps, y, rfl, hsr, hN2, A1, A2, hn, k0, k1, q⟩ := h
    obtain ⟨dx, sc, ct, cs, kk, ho, hw, hsc, hct, hcl, hrow⟩ := hsr
    have hN := num_pos hw.facs.2
    have hwl := wts_len b (num ps) y.low n
    have hwlt := wts_lt (b := b) hN y.low n
    generalize wts b (num ps) y.low n = ws at hsc hrow k1 q hwl hwlt
    obtain ⟨z0, hz0⟩ : ∃ z0, z0 = m - ld y * b ^ n := ⟨_, rfl⟩
    rw [← hz0] at k1 q
    refine ⟨_, (pss_cons (ps_set (i := 3) sc_textat.nd rfl (Or.inl rfl) (pe_op op_mod (pe_op op_sub (pv 1) (pe_fld (pv 0) rfl)) (pe_fld (pe_fld (pv 0) rfl) rfl)))
      (pss_cons (ps_set (i := 4) sc_textat.nd rfl (Or.inl rfl) (pe_lst pa_nil))
      (pss_cons (ps_for PassesOwn.never rfl (pi_enum (by rfl) T.enumerate (pa_cons (pe_fld (pv 0) rfl) pa_nil)) (pg_tup rfl (pgs_cons (pg_name (i := 5) sc_textat.nd rfl (Or.inl rfl)) (pgs_cons (pg_name (i := 6) sc_textat.nd rfl (Or.inl rfl)) pgs_nil))) (pss_cons (ps_set (i := 7) sc_textat.nd rfl (Or.inl rfl) pe_int)
      (pss_cons (ps_set (i := 8) sc_textat.nd rfl (Or.inl rfl) (pe_ix ix_list (pe_fld (pv 0) rfl) (pe_op op_add (pv 5) pe_int) (fun _ _ => rfl)))
      (pss_cons (ps_while PassesOwn.never (pt_cmpR op_ge (pv 2) (pe_ix ix_list (pv 8) (pe_op op_mod (pe_op op_sub (pv 3) (pe_mt c_summ hr (by decide) (pv 0) (pa_cons (pv 6) (pa_cons (pv 7) pa_nil)))) (pe_fld (pe_fld (pv 0) rfl) rfl)) (fun _ _ => rfl)) (nomark _)) (pss_cons (ps_aug (i := 2) sc_textat.nd rfl (Or.inl rfl) (pe_ix ix_list (pv 8) (pe_op op_mod (pe_op op_sub (pv 3) (pe_mt c_summ hr (by decide) (pv 0) (pa_cons (pv 6) (pa_cons (pv 7) pa_nil)))) (pe_fld (pe_fld (pv 0) rfl) rfl)) (fun _ _ => rfl)) ip_sub)
      (pss_one (ps_aug (i := 7) sc_textat.nd rfl (Or.inl rfl) pe_int ip_add))))
      (pss_cons (ps_set (i := 3) sc_textat.nd rfl (Or.inl rfl) (pe_op op_mod (pe_op op_sub (pv 3) (pe_mt c_summ hr (by decide) (pv 0) (pa_cons (pv 6) (pa_cons (pv 7) pa_nil)))) (pe_fld (pe_fld (pv 0) rfl) rfl)))
      (pss_one (ps_expr (pe_bm PySem.F.plainAttrs_list PySem.F.slot_list_append PySem.F.type_list_append mt_append (pv 4) (pa_cons (pv 7) pa_nil)))))))))
      (pss_one (ps_ret (pe_callTy cTupOf (by rfl) T.tuple (by decide +kernel) (pa_cons (pv 4) pa_nil))))))), ?_⟩
    walk_at "go"
    refine w_fldi ho S.cl.cl S.lead sr_lead ?_
    walk_at "go"
    refine w_fldi ho S.cl.cl S.way sr_way ?_
    walk_at "go"
    obtain ⟨zs, hzs, hzs0, hzs1⟩ : ∃ zs, zs = (m - (ld y * b ^ n + num ps * kk)) % num ps ∧ 0 ≤ zs ∧ zs < num ps := ⟨_, rfl, Int.emod_nonneg _ (by omega), Int.emod_lt_of_pos _ hN⟩
    rw [← hzs]
    obtain ⟨kz, hkz⟩ : ∃ kz, zs = z0 + num ps * kz := by
      have := Int.mul_ediv_add_emod (m - (ld y * b ^ n + num ps * kk)) (num ps)
      refine ⟨-kk - (m - (ld y * b ^ n + num ps * kk)) / num ps, ?_⟩
      rw [Int.mul_sub, Int.mul_neg]
      omega
    refine al fun D H1 nD s1 h1 => ?_
    walk_at "go"
    refine w_fldi (s1 _ _ ho) S.cl.cl S.scales sr_scales ?_
    walk_at "go"
    refine w_enumi (sq (s1 _ _ hsc)) ?_
    refine for_it (walk_enum (xs := ws.map V.int)) (fun i σ H' => ∃ (ts : List Int) (z k' : Int) (v5 v6 v7 v8 : Option V), σ = [some (.ref o), some (.int m), some (.int k'), some (.int z), some (.ref D), v5, v6, v7, v8] ∧ Same H H' ∧ H' D = some (.lst (ts.map V.int)) ∧ ts.length = i ∧ 0 ≤ z ∧ z < num ps ∧ 0 ≤ k' ∧ k' < Gw (num ps) A.toNat y.shift (ws.drop i) z ∧
        ∀ us, Gd (num ps) A.toNat y.shift (ws.drop i) z us → Gd (num ps) A.toNat y.shift ws z0 (ts ++ us) ∧ Rk (num ps) A.toNat y.shift ws z0 (ts ++ us) = k - k' + Rk (num ps) A.toNat y.shift (ws.drop i) z us)
      ⟨[], zs, k, none, none, none, none, rfl, s1, h1, rfl, hzs0, hzs1, k0, ?_, fun us g => ?_⟩ (fun i σ H' _ z => by obtain ⟨_, _, _, _, _, _, _, _, z, _⟩ := z; exact sq (z _ _ hsc)) ?_ ?_
    · rw [List.drop_zero, hkz]
      rw [show Gw (num ps) A.toNat y.shift ws (z0 + num ps * kz) = Gw (num ps) A.toNat y.shift ws z0 from (Gw_per ws).mul _ _]
      exact k1
    · rw [List.drop_zero] at g ⊢
      rw [List.nil_append]
      refine ⟨?_, by rw [hkz, Rk_per]; omega⟩
      have := g.move (-kz)
      rwa [show zs + num ps * -kz = z0 by rw [Int.mul_neg]; omega] at this
    · rintro i yv σ H5 H6 hi5 ⟨ts, z, k', v5, v6, v7, v8, rfl, s5, h5, htl, z0', z1', k0', k1', hrest⟩ ⟨t, t1, t2, rfl, nt, rfl, g1, g2⟩
      cases g1
      obtain ⟨w, hwi, rfl⟩ := get_map g2
      rw [List.length_map] at hi5
      have hwb := hwlt w (List.mem_of_getElem? hwi)
      refine w_gtup (sqt upd_same) rfl ?_
      have s6 : Same H5 (upd H5 t (.tup [.int (i : Nat), .int w])) := Same.new nt
      generalize upd H5 t (.tup [.int (i : Nat), .int w]) = H6 at s6 ⊢
      have S6 := s5.trans s6
      have h6 := s6 _ _ h5
      clear s6 s5 h5
      have hdrop : ws.drop i = w :: ws.drop (i + 1) := by rw [List.drop_eq_getElem_cons hi5, (List.getElem?_eq_some_iff.mp hwi).2]
      rw [hdrop] at k1' hrest
      have hci : i + 1 < cs.length := by omega
      have hcg : cs[i + 1]? = some cs[i + 1] := List.getElem?_eq_getElem hci
      generalize cs[i + 1] = rp at hcg
      have hrp := (hrow _ _ hcg).same S6
      generalize ws.drop (i + 1) = vs at k1' hrest hrp
      have ho6 := S6 _ _ ho
      have hw6 := hw.same S6
      walk_at "go"
      refine w_fldi ho6 S.cl.cl S.counts sr_counts ?_
      walk_at "go"
      refine w_ixL (xs := cs.map V.ref) (sq (S6 _ _ hct)) (atI_map (x := rp) (by omega) (by rw [show ((i : Int) + 1).toNat = i + 1 by omega]; exact hcg)) ?_
      walk_at "go"
      refine while_m (fun mm σ H' => ∃ (l : Nat) (kl : Int), σ = [some (.ref o), some (.int m), some (.int kl), some (.int z), some (.ref D), some (.int (i : Nat)), some (.int w), some (.int l), some (.ref rp)] ∧ H' = H6 ∧ l < A.toNat ∧ 0 ≤ kl ∧ k' = kl + (sig l fun j => Gw (num ps) A.toNat y.shift vs (z - ((j : Int) + y.shift) * w)) ∧ mm = A.toNat - l) _
        ⟨0, k', rfl, rfl, by omega, k0', by rw [sig, Int.add_zero], rfl⟩ ?_
      rintro mm σ H' ⟨l, kl, rfl, rfl, hl, kl0, hkl, rfl⟩
      walk_at "go"
      refine w_methi ho6 (sr_no (by decide +kernel) (by decide +kernel) (by decide +kernel) (by decide +kernel) (by decide +kernel)) ?_
      walk_at "go"
      refine ⟨o, dx, x, _, w, _, b, ps, y, rfl, ho6, sr_way, hw6, hN2, hwb.1, hwb.2, ?_⟩
      walk_at "go"
      refine w_fldi ho6 S.cl.cl S.way sr_way ?_
      walk_at "go"
      rw [sub_mod]
      refine row_read hN hrp ?_
      walk_at "go"
      obtain ⟨gv, hgv⟩ : ∃ gv, gv = Gw (num ps) A.toNat y.shift vs (z - ((l : Int) + y.shift) * w) := ⟨_, rfl⟩
      rw [← hgv]
      refine ite_d (fun c1 => ?_) (fun c1 => ?_)
      · walk_at "go"
        refine w_methi ho6 (sr_no (by decide +kernel) (by decide +kernel) (by decide +kernel) (by decide +kernel) (by decide +kernel)) ?_
        walk_at "go"
        refine ⟨o, dx, x, _, w, _, b, ps, y, rfl, ho6, sr_way, hw6, hN2, hwb.1, hwb.2, ?_⟩
        walk_at "go"
        refine w_fldi ho6 S.cl.cl S.way sr_way ?_
        walk_at "go"
        rw [sub_mod]
        refine row_read hN hrp ?_
        rw [← hgv]
        walk_at "go"
        have hl2 : l + 1 < A.toNat := by
          refine Nat.lt_of_not_le fun c => ?_
          have hA : A.toNat = l + 1 := by omega
          have : Gw (num ps) A.toNat y.shift (w :: vs) z = sig A.toNat fun j => Gw (num ps) A.toNat y.shift vs (z - ((j : Int) + y.shift) * w) := rfl
          rw [this] at k1'
          have e2 : (sig A.toNat fun j => Gw (num ps) A.toNat y.shift vs (z - ((j : Int) + y.shift) * w)) = (sig l fun j => Gw (num ps) A.toNat y.shift vs (z - ((j : Int) + y.shift) * w)) + gv := by
            rw [hgv]
            generalize hAn : A.toNat = An
            rw [hAn] at hA
            subst hA
            rfl
          omega
        refine ⟨_, ?_, l + 1, kl - gv, by rw [Int.natCast_succ]; rfl, rfl, hl2, by omega, ?_, rfl⟩
        · omega
        · rw [sig, ← hgv]
          omega
      · walk_at "go"
        refine w_methi ho6 (sr_no (by decide +kernel) (by decide +kernel) (by decide +kernel) (by decide +kernel) (by decide +kernel)) ?_
        walk_at "go"
        refine ⟨o, dx, x, _, w, _, b, ps, y, rfl, ho6, sr_way, hw6, hN2, hwb.1, hwb.2, ?_⟩
        walk_at "go"
        refine w_fldi ho6 S.cl.cl S.way sr_way ?_
        walk_at "go"
        rw [sub_mod]
        refine w_append h6 (by rw [List.length_map]; have : (100000 : Nat) < sizeLine := (by decide); omega) ?_
        walk_at "go"
        have hz2 := Int.emod_nonneg (z - ((l : Int) + y.shift) * w) (show num ps ≠ 0 by omega)
        have hz3 := Int.emod_lt_of_pos (z - ((l : Int) + y.shift) * w) hN
        have hz4 := Int.mul_ediv_add_emod (z - ((l : Int) + y.shift) * w) (num ps)
        refine ⟨ts ++ [(l : Int)], (z - ((l : Int) + y.shift) * w) % num ps, kl, _, _, _, _, rfl, same_apC nD S6, by rw [L2.upd_same, List.map_append]; rfl, by rw [List.length_append, htl]; rfl, hz2, hz3, kl0, ?_, fun us g => ?_⟩
        · rw [per_mod (Gw_per vs), ← hgv]
          omega
        · have g2 := g.move ((z - ((l : Int) + y.shift) * w) / num ps)
          have e3 : (z - ((l : Int) + y.shift) * w) % num ps + num ps * ((z - ((l : Int) + y.shift) * w) / num ps) = z - ((l : Int) + y.shift) * w := by omega
          rw [e3] at g2
          have g3 := Gd.cons (w := w) (l := (l : Int)) (z := z) (by omega) (by omega) g2
          obtain ⟨r1, r2⟩ := hrest _ g3
          rw [List.append_assoc]
          refine ⟨r1, ?_⟩
          show Rk (num ps) A.toNat y.shift ws z0 (ts ++ (l : Int) :: us) = _
          rw [r2, Rk, Int.toNat_natCast]
          have := Rk_per (N := num ps) (A := A.toNat) (s := y.shift) vs ((z - ((l : Int) + y.shift) * w) % num ps) ((z - ((l : Int) + y.shift) * w) / num ps) us
          rw [e3] at this
          rw [this]
          omega
    · rintro σ H5 ⟨ts, z, k', v5, v6, v7, v8, rfl, s5, h5, htl, z0', z1', k0', k1', hrest⟩
      rw [List.length_map] at htl k1' hrest
      rw [List.drop_length] at k1' hrest
      have hz : z % num ps = 0 ∧ k' = 0 := by
        rw [Bc.Gw, chi] at k1'
        by_cases c : z % num ps = 0
        · rw [if_pos c] at k1'
          exact ⟨c, by omega⟩
        · rw [if_neg c] at k1'
          omega
      obtain ⟨r1, r2⟩ := hrest [] ⟨rfl, (fun t h => by cases h), by rw [show wsum y.shift [] [] = 0 from rfl, Int.sub_zero]; exact hz.1⟩
      rw [List.append_nil] at r1 r2
      walk_at "go"
      refine w_tupL (sq h5) (al fun p H6 n6 s6 h6 => ?_)
      refine q H6 p ts (s5.free n6) (s5.trans s6) h6 r1 ?_
      rw [r2, hz.2, show Rk (num ps) A.toNat y.shift [] z [] = 0 from rfl]
      omega
abbrev s_numm : Stmt := (inClass (top 41) 4)
theorem sc_numm : FnScope ["self", "text", "left", "found", "place", "weight", "letter"] ["self", "text"] (defScope s_numm) :=
  ⟨rfl, rfl, rfl, by decide +kernel, rfl, by decide +kernel, by decide +kernel⟩
theorem ok_numm {c : CA} {Cs : Addr} {f : Addr} {fd : FuncData} (F : FunD K "number_of" "Sorted.number_of" (defArgs s_numm) (defBody s_numm) (defScope s_numm) [] [] f fd) (T : Bt mg) (X : Kx K mg c) (S : Ks K mg Cs) (c_ofl : Met P w K mg base 2 c.wy "of_letters" (spOfLetters c) []) (c_summ : Met P w K mg base 1 Cs "summand" (spSummand c Cs) []) :
    FnOk P w K mg base L2.CX0 3 f fd ["self", "text"] (spNumM c Cs) := by
  refine fnD_ok F sc_numm (fun vs H Q E h => ?_) (fun cdv A outer s H vs Q E hr h => ?_)
  · obtain ⟨o, x, p, A, b, ts, ps, y, rfl, _⟩ := h
    rfl
  · obtain ⟨o, x, p, A, b, ts, ps, y, rfl, hsr, hN2, A1, A2, hn, hp, hts, q⟩ := h
    obtain ⟨dx, sc, ct, cs, kk, ho, hw, hsc, hct, hcl, hrow⟩ := hsr
    have hN := num_pos hw.facs.2
    have hwl := wts_len b (num ps) y.low ts.length
    have hwlt := wts_lt (b := b) hN y.low ts.length
    generalize wts b (num ps) y.low ts.length = ws at hsc hrow q hwl hwlt
    refine ⟨_, (pss_cons (ps_set (i := 2) sc_numm.nd rfl (Or.inl rfl) (pe_op op_mod (pe_op op_sub (pe_mt c_ofl hr (by decide) (pe_fld (pv 0) rfl) (pa_cons (pv 1) pa_nil)) (pe_fld (pv 0) rfl)) (pe_fld (pe_fld (pv 0) rfl) rfl)))
      (pss_cons (ps_set (i := 3) sc_numm.nd rfl (Or.inl rfl) pe_int)
      (pss_cons (ps_for PassesOwn.never rfl (pi_enum (by rfl) T.enumerate (pa_cons (pe_fld (pv 0) rfl) pa_nil)) (pg_tup rfl (pgs_cons (pg_name (i := 4) sc_numm.nd rfl (Or.inl rfl)) (pgs_cons (pg_name (i := 5) sc_numm.nd rfl (Or.inl rfl)) pgs_nil))) (pss_cons (ps_for PassesOwn.never rfl (pi_range1 (by rfl) T.range (pa_cons (pe_ix ix_tup (pv 1) (pv 4) (fun _ _ => rfl)) pa_nil)) (pg_name (i := 6) sc_numm.nd rfl (Or.inl rfl)) (pss_one (ps_aug (i := 3) sc_numm.nd rfl (Or.inl rfl) (pe_ix ix_list (pe_ix ix_list (pe_fld (pv 0) rfl) (pe_op op_add (pv 4) pe_int) (fun _ _ => rfl)) (pe_op op_mod (pe_op op_sub (pv 2) (pe_mt c_summ hr (by decide) (pv 0) (pa_cons (pv 5) (pa_cons (pv 6) pa_nil)))) (pe_fld (pe_fld (pv 0) rfl) rfl)) (fun _ _ => rfl)) ip_add)))
      (pss_one (ps_set (i := 2) sc_numm.nd rfl (Or.inl rfl) (pe_op op_mod (pe_op op_sub (pv 2) (pe_mt c_summ hr (by decide) (pv 0) (pa_cons (pv 5) (pa_cons (pe_ix ix_tup (pv 1) (pv 4) (fun _ _ => rfl)) pa_nil)))) (pe_fld (pe_fld (pv 0) rfl) rfl))))))
      (pss_one (ps_ret (pv 3)))))), ?_⟩
    walk_at "go"
    refine w_fldi ho S.cl.cl S.way sr_way ?_
    walk_at "go"
    obtain ⟨dw, mw, kw, hx, rx⟩ := id hw
    refine w_methi hx (wy_no (by decide +kernel) (by decide +kernel) (by decide +kernel) (by decide +kernel)) ?_
    walk_at "go"
    refine ⟨x, p, b, ps, y, ts, rfl, hw, hp, by omega, fun H1 s1 => ?_⟩
    clear hx rx
    walk_at "go"
    refine w_fldi (s1 _ _ ho) S.cl.cl S.lead sr_lead ?_
    walk_at "go"
    refine w_fldi (s1 _ _ ho) S.cl.cl S.way sr_way ?_
    walk_at "go"
    have q2 := fun H' => q H'
    clear q
    generalize mark y b (num ps) ts = m at q2 ⊢
    obtain ⟨z0, hz0⟩ : ∃ z0, z0 = m - ld y * b ^ ts.length := ⟨_, rfl⟩
    rw [← hz0] at q2
    obtain ⟨zs, hzs, hzs0, hzs1⟩ : ∃ zs, zs = (m - (ld y * b ^ ts.length + num ps * kk)) % num ps ∧ 0 ≤ zs ∧ zs < num ps := ⟨_, rfl, Int.emod_nonneg _ (by omega), Int.emod_lt_of_pos _ hN⟩
    rw [← hzs]
    obtain ⟨kz, hkz⟩ : ∃ kz, zs = z0 + num ps * kz := by
      have := Int.mul_ediv_add_emod (m - (ld y * b ^ ts.length + num ps * kk)) (num ps)
      refine ⟨-kk - (m - (ld y * b ^ ts.length + num ps * kk)) / num ps, ?_⟩
      rw [Int.mul_sub, Int.mul_neg]
      omega
    refine w_fldi (s1 _ _ ho) S.cl.cl S.scales sr_scales ?_
    walk_at "go"
    refine w_enumi (sq (s1 _ _ hsc)) ?_
    refine for_it (walk_enum (xs := ws.map V.int)) (fun i σ H' => ∃ (z fo : Int) (v4 v5 v6 : Option V), σ = [some (.ref o), some (.ref p), some (.int z), some (.int fo), v4, v5, v6] ∧ Same H H' ∧ 0 ≤ z ∧ z < num ps ∧ Rk (num ps) A.toNat y.shift ws z0 ts = fo + Rk (num ps) A.toNat y.shift (ws.drop i) z (ts.drop i))
      ⟨zs, 0, none, none, none, rfl, s1, hzs0, hzs1, by rw [List.drop_zero, List.drop_zero, hkz, Rk_per, Int.zero_add]⟩ (fun i σ H' _ z => by obtain ⟨_, _, _, _, _, _, z, _⟩ := z; exact sq (z _ _ hsc)) ?_ ?_
    · rintro i yv σ H5 H6 hi5 ⟨z, fo, v4, v5, v6, rfl, s5, z0', z1', hrk⟩ ⟨t, t1, t2, rfl, nt, rfl, g1, g2⟩
      cases g1
      obtain ⟨w, hwi, rfl⟩ := get_map g2
      rw [List.length_map] at hi5
      have hwb := hwlt w (List.mem_of_getElem? hwi)
      refine w_gtup (sqt upd_same) rfl ?_
      have s6 : Same H5 (upd H5 t (.tup [.int (i : Nat), .int w])) := Same.new nt
      generalize upd H5 t (.tup [.int (i : Nat), .int w]) = H6 at s6 ⊢
      have S6 := s5.trans s6
      clear s6 s5
      have hit : i < ts.length := by omega
      have hti : ts[i]? = some ts[i] := List.getElem?_eq_getElem hit
      have hdt : ts.drop i = ts[i] :: ts.drop (i + 1) := List.drop_eq_getElem_cons hit
      generalize ts[i] = tv at hti hdt
      obtain ⟨tv0, tv1⟩ := hts tv (List.mem_of_getElem? hti)
      have hdrop : ws.drop i = w :: ws.drop (i + 1) := by rw [List.drop_eq_getElem_cons hi5, (List.getElem?_eq_some_iff.mp hwi).2]
      rw [hdrop, hdt, Rk] at hrk
      have hci : i + 1 < cs.length := by omega
      have hcg : cs[i + 1]? = some cs[i + 1] := List.getElem?_eq_getElem hci
      generalize cs[i + 1] = rp at hcg
      have hrp := (hrow _ _ hcg).same S6
      generalize ws.drop (i + 1) = vs at hrk hrp ⊢
      have ho6 := S6 _ _ ho
      have hw6 := hw.same S6
      walk_at "go"
      refine w_ixT (xs := ts.map V.int) (sqt (S6 _ _ hp)) (atI_map (x := tv) (by omega) (by rw [Int.toNat_natCast]; exact hti)) ?_
      walk_at "go"
      refine for_range (lo := 0) (n := tv.toNat) (fun l σ H' => ∃ (v6 : Option V), σ = [some (.ref o), some (.ref p), some (.int z), some (.int (fo + (sig l fun j => Gw (num ps) A.toNat y.shift vs (z - ((j : Int) + y.shift) * w)))), some (.int (i : Nat)), some (.int w), v6] ∧ H' = H6)
        ⟨_, by rw [sig, Int.add_zero]; rfl, rfl⟩ ?_ ?_
      · rintro l σ H' hl ⟨v6, rfl, rfl⟩
        walk_at "go"
        refine w_fldi ho6 S.cl.cl S.counts sr_counts ?_
        walk_at "go"
        refine w_ixL (xs := cs.map V.ref) (sq (S6 _ _ hct)) (atI_map (x := rp) (by omega) (by rw [show ((i : Int) + 1).toNat = i + 1 by omega]; exact hcg)) ?_
        walk_at "go"
        refine w_methi ho6 (sr_no (by decide +kernel) (by decide +kernel) (by decide +kernel) (by decide +kernel) (by decide +kernel)) ?_
        walk_at "go"
        refine ⟨o, dx, x, _, w, _, b, ps, y, rfl, ho6, sr_way, hw6, hN2, hwb.1, hwb.2, ?_⟩
        walk_at "go"
        refine w_fldi ho6 S.cl.cl S.way sr_way ?_
        walk_at "go"
        rw [sub_mod]
        refine row_read hN hrp ?_
        walk_at "go"
        exact ⟨_, by rw [sig, Int.zero_add, Int.add_assoc]; rfl, rfl⟩
      · rintro σ H' ⟨v6, rfl, rfl⟩
        walk_at "go"
        refine w_methi ho6 (sr_no (by decide +kernel) (by decide +kernel) (by decide +kernel) (by decide +kernel) (by decide +kernel)) ?_
        walk_at "go"
        refine w_ixT (xs := ts.map V.int) (sqt (S6 _ _ hp)) (atI_map (x := tv) (by omega) (by rw [Int.toNat_natCast]; exact hti)) ?_
        walk_at "go"
        refine ⟨o, dx, x, _, w, _, b, ps, y, rfl, ho6, sr_way, hw6, hN2, hwb.1, hwb.2, ?_⟩
        walk_at "go"
        refine w_fldi ho6 S.cl.cl S.way sr_way ?_
        walk_at "go"
        rw [sub_mod]
        have hz4 := Int.mul_ediv_add_emod (z - (tv + y.shift) * w) (num ps)
        refine ⟨(z - (tv + y.shift) * w) % num ps, _, _, _, _, rfl, S6, Int.emod_nonneg _ (by omega), Int.emod_lt_of_pos _ hN, ?_⟩
        rw [hrk]
        have := Rk_per (N := num ps) (A := A.toNat) (s := y.shift) vs ((z - (tv + y.shift) * w) % num ps) ((z - (tv + y.shift) * w) / num ps) (ts.drop (i + 1))
        rw [show (z - (tv + y.shift) * w) % num ps + num ps * ((z - (tv + y.shift) * w) / num ps) = z - (tv + y.shift) * w by omega] at this
        rw [this]
        omega
    · rintro σ H5 ⟨z, fo, v4, v5, v6, rfl, s5, z0', z1', hrk⟩
      rw [List.length_map, List.drop_length, show ∀ us, Rk (num ps) A.toNat y.shift [] z us = 0 from fun us => by simp [Rk], Int.add_zero] at hrk
      walk_at "go"
      have := q2 H5 s5
      rw [hrk] at this
      exact this

abbrev s_cntm : Stmt := (top 39)
theorem sc_cntm : FnScope ["way", "stock", "length", "mark"] ["way", "stock", "length", "mark"] (defScope s_cntm) :=
  ⟨rfl, rfl, rfl, by decide +kernel, rfl, by decide +kernel, by decide +kernel⟩
theorem ok_cntm {c : CA} {f : Addr} {fd : FuncData} (F : FunD K "count_marked" "count_marked" (defArgs s_cntm) (defBody s_cntm) (defScope s_cntm) [] [] f fd) (T : Bt mg) (X : Kx K mg c) (c_reqway : Cal P w K mg base 1 "require_way" (spReqWay c) []) (c_reqstock : Cal P w K mg base 2 "require_stock" spReqStock []) (c_reqlen : Cal P w K mg base 2 "require_length" spReqLen []) (c_reqmark : Cal P w K mg base 2 "require_mark" (spReqMark c) []) (c_countsof : Cal P w K mg base 1 "counts_of" (spCounts c) []) :
    FnOk P w K mg base L2.CX0 3 f fd ["way", "stock", "length", "mark"] (spCountM c) := by
  refine fnD_ok F sc_cntm (fun vs H Q E h => ?_) (fun cdv A outer s H vs Q E hr h => ?_)
  · obtain ⟨x, A, m, b, n, ps, y, rfl, _⟩ := h
    rfl
  · obtain ⟨x, A, m, b, n, ps, y, rfl, hw, hN2, A1, A2, hn, m0, m1, q⟩ := h
    refine ⟨_, (pss_cons (ps_expr (pe_c c_reqway hr (by decide) (by rfl) (pa_cons (pv 0) pa_nil)))
      (pss_cons (ps_expr (pe_c c_reqstock hr (by decide) (by rfl) (pa_cons (pv 1) pa_nil)))
      (pss_cons (ps_expr (pe_c c_reqlen hr (by decide) (by rfl) (pa_cons (pv 2) pa_nil)))
      (pss_cons (ps_expr (pe_c c_reqmark hr (by decide) (by rfl) (pa_cons (pv 0) (pa_cons (pv 3) pa_nil))))
      (pss_one (ps_ret (pe_ix ix_list (pe_c c_countsof hr (by decide) (by rfl) (pa_cons (pv 0) (pa_cons (pv 1) (pa_cons (pv 2) pa_nil)))) (pv 3) (fun _ _ => rfl)))))))), ?_⟩
    walk_at "go"
    refine use_reqway hw ?_
    walk_at "go"
    refine ⟨A, rfl, A1, ?_⟩
    walk_at "go"
    refine ⟨n, rfl, by omega, ?_⟩
    walk_at "go"
    refine ⟨x, m, b, ps, y, rfl, hw, m0, m1, ?_⟩
    walk_at "go"
    refine ⟨x, A, n, b, ps, y, rfl, hw, hN2, A1, A2, by omega, by omega, fun H1 l n1 s1 h1 => ?_⟩
    rw [Int.toNat_natCast] at h1
    have hl := cnt_len (num ps) b y.shift (ld y) A.toNat n
    walk_at "go"
    refine w_ixL (xs := (cnt (num ps) b y.shift (ld y) A.toNat n).map V.int) (sq h1) (atI_map (x := (cnt (num ps) b y.shift (ld y) A.toNat n).getD m.toNat 0) m0 ?_) ?_
    · rw [List.getD_eq_getElem?_getD, List.getElem?_eq_getElem (by omega)]
      rfl
    exact q H1 s1
abbrev s_mkdt : Stmt := (top 42)
theorem sc_mkdt : FnScope ["way", "stock", "length", "mark", "number", "count"] ["way", "stock", "length", "mark", "number"] (defScope s_mkdt) :=
  ⟨rfl, rfl, rfl, by decide +kernel, rfl, by decide +kernel, by decide +kernel⟩
theorem ok_mkdt {c : CA} {Cs : Addr} {f : Addr} {fd : FuncData} (F : FunD K "marked_text" "marked_text" (defArgs s_mkdt) (defBody s_mkdt) (defScope s_mkdt) [] [] f fd) (T : Bt mg) (X : Kx K mg c) (c_isint : Cal P w K mg base 1 "is_integer" (spIsInt K) []) (c_cntm : Cal P w K mg base 3 "count_marked" (spCountM c) []) (c_srt : Mak P w K mg base 3 "Sorted" Cs (spSrInit c Cs) []) (c_textat : Met P w K mg base 2 Cs "text_at" (spTextAt c Cs) []) :
    FnOk P w K mg base L2.CX0 5 f fd ["way", "stock", "length", "mark", "number"] (spMarkedT c) := by
  refine fnD_ok F sc_mkdt (fun vs H Q E h => ?_) (fun cdv A outer s H vs Q E hr h => ?_)
  · obtain ⟨x, A, m, k, b, n, ps, y, rfl, _⟩ := h
    rfl
  · obtain ⟨x, A, m, k, b, n, ps, y, rfl, hw, hN2, A1, A2, hn, m0, m1, k0, k1, q⟩ := h
    have hN := num_pos hw.facs.2
    refine ⟨_, (pss_cons (ps_set (i := 5) sc_mkdt.nd rfl (Or.inl rfl) (pe_c c_cntm hr (by decide) (by rfl) (pa_cons (pv 0) (pa_cons (pv 1) (pa_cons (pv 2) (pa_cons (pv 3) pa_nil))))))
      (pss_cons (ps_if (PW.pt (pw_or (pt_not (pt_val (pe_c c_isint hr (by decide) (by rfl) (pa_cons (pv 4) pa_nil)))) (pw_or1 (pt_cmpR op_lt (pv 4) pe_int (nomark _))))) (pss_one ps_never) pss_nil)
      (pss_cons (ps_if (pt_cmpR op_ge (pv 4) (pv 5) (nomark _)) (pss_one ps_never) pss_nil)
      (pss_one (ps_ret (pe_mt c_textat hr (by decide) (pe_mk c_srt hr (by decide) (by rfl) (pa_cons (pv 0) (pa_cons (pv 1) (pa_cons (pv 2) pa_nil)))) (pa_cons (pv 3) (pa_cons (pv 4) pa_nil)))))))), ?_⟩
    walk_at "go"
    refine ⟨x, A, m, b, n, ps, y, rfl, hw, hN2, A1, A2, hn, m0, m1, fun H1 s1 => ?_⟩
    walk_at "go"
    refine use_isInt ?_
    walk_at "go"
    refine iteF ?_
    walk_at "go"
    refine ite_d (fun h => by omega) (fun _ => ?_)
    walk_at "go"
    refine ite_d (fun h => by omega) (fun _ => ?_)
    walk_at "go"
    refine use_sr (hw.same s1) hN2 A1 A2 hn fun o H2 no s2 hso => ?_
    obtain ⟨dx, sc, ct, cs, kk, ho, ro⟩ := id hso
    refine w_methi ho (sr_no (by decide +kernel) (by decide +kernel) (by decide +kernel) (by decide +kernel) (by decide +kernel)) ?_
    clear ho ro
    walk_at "go"
    refine ⟨o, x, m, k, A, b, n, ps, y, rfl, hso, hN2, A1, A2, hn, k0, ?_, fun H3 p ts n3 s3 h3 g r => ?_⟩
    · have e := cnt_Gw (b := b) (s := y.shift) (d := ld y) (A := A.toNat) hN y.low n (x := m.toNat) (by omega)
      rw [Int.toNat_of_nonneg m0] at e
      rw [← e]
      exact k1
    exact q H3 p ts (s1.free (s2.free n3)) (s1.trans (s2.trans s3)) h3 ⟨g, r⟩
abbrev s_numof : Stmt := (top 43)
theorem sc_numof : FnScope ["way", "stock", "text", "read_letters", "letter"] ["way", "stock", "text"] (defScope s_numof) :=
  ⟨rfl, rfl, rfl, by decide +kernel, rfl, by decide +kernel, by decide +kernel⟩
theorem ok_numof {c : CA} {Cs : Addr} {f : Addr} {fd : FuncData} (F : FunD K "number_of" "number_of" (defArgs s_numof) (defBody s_numof) (defScope s_numof) [] [] f fd) (T : Bt mg) (X : Kx K mg c) (c_reqway : Cal P w K mg base 1 "require_way" (spReqWay c) []) (c_reqstock : Cal P w K mg base 2 "require_stock" spReqStock []) (c_reqtext : Cal P w K mg base 3 "require_text" spRead []) (c_srt : Mak P w K mg base 3 "Sorted" Cs (spSrInit c Cs) []) (c_numm : Met P w K mg base 3 Cs "number_of" (spNumM c Cs) []) :
    FnOk P w K mg base L2.CX0 5 f fd ["way", "stock", "text"] (spNumberOf c) := by
  refine fnD_ok F sc_numof (fun vs H Q E h => ?_) (fun cdv A outer s H vs Q E hr h => ?_)
  · obtain ⟨x, v, A, b, ts, ps, y, rfl, _⟩ := h
    rfl
  · obtain ⟨x, v, A, b, ts, ps, y, rfl, hw, hN2, A1, A2, tv, hn, hts, q⟩ := h
    refine ⟨_, (pss_cons (ps_expr (pe_c c_reqway hr (by decide) (by rfl) (pa_cons (pv 0) pa_nil)))
      (pss_cons (ps_expr (pe_c c_reqstock hr (by decide) (by rfl) (pa_cons (pv 1) pa_nil)))
      (pss_cons (ps_set (i := 3) sc_numof.nd rfl (Or.inl rfl) (pe_c c_reqtext hr (by decide) (by rfl) (pa_cons (pv 2) pa_nil)))
      (pss_cons (ps_for PassesOwn.never rfl (pi_tup (pv 3)) (pg_name (i := 4) sc_numof.nd rfl (Or.inl rfl)) (pss_one (ps_if (pt_not (pt_chain op_le op_lt pe_int (pv 4) (pv 1))) (pss_one ps_never) pss_nil)))
      (pss_one (ps_ret (pe_mt c_numm hr (by decide) (pe_mk c_srt hr (by decide) (by rfl) (pa_cons (pv 0) (pa_cons (pv 1) (pa_cons (pe_callB cLen (by rfl) T.len (by decide +kernel) (pa_cons (pv 3) pa_nil)) pa_nil)))) (pa_cons (pv 3) pa_nil)))))))), ?_⟩
    walk_at "go"
    refine use_reqway hw ?_
    walk_at "go"
    refine ⟨A, rfl, A1, ?_⟩
    walk_at "go"
    refine ⟨v, ts, rfl, tv, fun H1 t s1 h1 => ?_⟩
    walk_at "go"
    refine for_tup (K := K) (a := t) (xs := ts.map V.int) (fun i σ H' => ∃ (v4 : Option V), σ = [some (.ref x), some (.int A), some v, some (.ref t), v4] ∧ H' = H1) ⟨_, rfl, rfl⟩ (fun i σ H' _ z => by obtain ⟨_, _, rfl⟩ := z; exact sqt h1) ?_ ?_
    · rintro i u σ H' hi ⟨v4, rfl, rfl⟩
      obtain ⟨l, hl, rfl⟩ := get_map hi
      have hb := hts l (List.mem_of_getElem? hl)
      walk_at "go"
      refine ite_d (fun _ => ?_) (fun z => absurd hb.1 z)
      walk_at "go"
      rw [decide_eq_true hb.2]
      refine iteF ?_
      walk_at "go"
      exact ⟨_, rfl, rfl⟩
    · rintro σ H' ⟨v4, rfl, rfl⟩
      walk_at "go"
      rw [List.length_map]
      refine use_sr (hw.same s1) hN2 A1 A2 hn fun o H2 no s2 hso => ?_
      obtain ⟨dx, sc, ct, cs, kk, ho, ro⟩ := id hso
      refine w_methi ho (sr_no (by decide +kernel) (by decide +kernel) (by decide +kernel) (by decide +kernel) (by decide +kernel)) ?_
      clear ho ro
      walk_at "go"
      refine ⟨o, x, t, A, b, ts, ps, y, rfl, hso, hN2, A1, A2, hn, s2 _ _ h1, hts, fun H3 s3 => ?_⟩
      exact q H3 (s1.trans (s2.trans s3))

abbrev s_nst : Stmt := (inClass (top 13) 0)
theorem sc_nst : FnScope ["self", "count"] ["self", "count"] (defScope s_nst) :=
  ⟨rfl, rfl, rfl, by decide +kernel, rfl, by decide +kernel, by decide +kernel⟩
theorem ok_nst {C f : Addr} {fd : FuncData} (F : FunD K "__init__" "NoSuchText.__init__" (defArgs s_nst) (defBody s_nst) (defScope s_nst) [] [] f fd) (T : Bt mg) (hC : OexC K C) (hf : PySem.W.findIn K (.ref C) "count" = some none) : FnOk P w K mg base L2.CX0 1 f fd ["self", "count"] (spErr C "count") := by
  refine fnD_ok F sc_nst (fun vs H Q E h => ?_) (fun cdv A outer s H vs Q E hr h => ?_)
  · obtain ⟨a, v, rfl, _⟩ := h
    rfl
  · obtain ⟨a, v, rfl, ha, q⟩ := h
    refine ⟨_, (pss_one (ps_ost (pv 0) (pv 1))), ?_⟩
    walk_at "go"
    exact ⟨v, rfl, .ref a, rfl, a, C, rfl, hC, hf, .inl ⟨ha, q⟩⟩
abbrev s_mkdx : Stmt := (top 42)
theorem sc_mkdx : FnScope ["way", "stock", "length", "mark", "number", "count"] ["way", "stock", "length", "mark", "number"] (defScope s_mkdx) :=
  ⟨rfl, rfl, rfl, by decide +kernel, rfl, by decide +kernel, by decide +kernel⟩
theorem ok_mkdx {c : CA} {Cs Cn : Addr} {f : Addr} {fd : FuncData} (F : FunD K "marked_text" "marked_text" (defArgs s_mkdx) (defBody s_mkdx) (defScope s_mkdx) [] [] f fd) (T : Bt mg) (X : Kx K mg c) (c_nst : Err P w K mg base 1 "NoSuchText" Cn "count") (c_isint : Cal P w K mg base 1 "is_integer" (spIsInt K) []) (c_cntm : Cal P w K mg base 3 "count_marked" (spCountM c) []) (c_srt : Mak P w K mg base 3 "Sorted" Cs (spSrInit c Cs) []) (c_textat : Met P w K mg base 2 Cs "text_at" (spTextAt c Cs) []) :
    FnOk P w K mg base (L2.CX P w) 5 f fd ["way", "stock", "length", "mark", "number"] (spMarkedX c Cn) := by
  refine fnX_ok F sc_mkdx (fun vs H Q E h => ?_) (fun cdv A outer s H vs Q E hr h => ?_)
  · obtain ⟨x, A, m, k, b, n, ps, y, rfl, _⟩ := h
    rfl
  · obtain ⟨x, A, m, k, b, n, ps, y, rfl, hw, hN2, A1, A2, hn, m0, m1, k0, q, qe⟩ := h
    have hN := num_pos hw.facs.2
    refine ⟨_, (pss_cons (ps_set (i := 5) sc_mkdx.nd rfl (Or.inl rfl) (pe_c c_cntm hr (by decide) (by rfl) (pa_cons (pv 0) (pa_cons (pv 1) (pa_cons (pv 2) (pa_cons (pv 3) pa_nil))))))
      (pss_cons (ps_if (PW.pt (pw_or (pt_not (pt_val (pe_c c_isint hr (by decide) (by rfl) (pa_cons (pv 4) pa_nil)))) (pw_or1 (pt_cmpR op_lt (pv 4) pe_int (nomark _))))) (pss_one ps_never) pss_nil)
      (pss_cons (ps_if (pt_cmpR op_ge (pv 4) (pv 5) (nomark _)) (pss_one (ps_rse c_nst rfl hr (by decide) (takes_of rfl rfl rfl rfl) (by rfl) (pa_cons (pv 5) pa_nil))) pss_nil)
      (pss_one (ps_ret (pe_mt c_textat hr (by decide) (pe_mk c_srt hr (by decide) (by rfl) (pa_cons (pv 0) (pa_cons (pv 1) (pa_cons (pv 2) pa_nil)))) (pa_cons (pv 3) (pa_cons (pv 4) pa_nil)))))))), ?_⟩
    walk_at "go"
    refine ⟨x, A, m, b, n, ps, y, rfl, hw, hN2, A1, A2, hn, m0, m1, fun H1 s1 => ?_⟩
    walk_at "go"
    refine use_isInt ?_
    walk_at "go"
    refine iteF ?_
    walk_at "go"
    refine ite_d (fun h => by omega) (fun _ => ?_)
    walk_at "go"
    refine ite_d (fun hk => ?_) (fun hk => ?_)
    · walk_at "go"
      refine w_fly fun d H2 n2 s2 h2 => ?_
      exact qe (by omega) d H2 (s1.free n2) (s1.trans s2) h2
    · walk_at "go"
      refine use_sr (hw.same s1) hN2 A1 A2 hn fun o H2 no s2 hso => ?_
      obtain ⟨dx, sc, ct, cs, kk, ho, ro⟩ := id hso
      refine w_methi ho (sr_no (by decide +kernel) (by decide +kernel) (by decide +kernel) (by decide +kernel) (by decide +kernel)) ?_
      clear ho ro
      walk_at "go"
      refine ⟨o, x, m, k, A, b, n, ps, y, rfl, hso, hN2, A1, A2, hn, k0, ?_, fun H3 p ts n3 s3 h3 g r => ?_⟩
      · have e := cnt_Gw (b := b) (s := y.shift) (d := ld y) (A := A.toNat) hN y.low n (x := m.toNat) (by omega)
        rw [Int.toNat_of_nonneg m0] at e
        rw [← e]
        omega
      exact q (by omega) H3 p ts (s1.free (s2.free n3)) (s1.trans (s2.trans s3)) h3 ⟨g, r⟩
abbrev s_txts : Stmt := (top 53)
theorem sc_txts : FnScope ["_law_rich", "_law_many_here", "_law_found", "_law_turn", "_law_longer", "_law_some", "_law_letter"] ["_law_rich", "_law_many_here"] (defScope s_txts) :=
  ⟨rfl, rfl, rfl, by decide +kernel, rfl, by decide +kernel, by decide +kernel⟩
theorem ok_txts (F : Dn K mg "_law_texts" s_txts ["_law_rich", "_law_many_here"]) (T : Bt mg) : Cal P w K mg base 1 "_law_texts" spTexts63 [] := by
  refine F.cal sc_txts (fun vs H Q E h => ?_) (fun f cdv A' outer s H vs Q E hr h => ?_)
  · obtain ⟨A, n, rfl, _⟩ := h
    rfl
  · obtain ⟨A, n, rfl, A1, hp, hn, q⟩ := h
    refine ⟨_, (pss_cons (ps_set (i := 2) sc_txts.nd rfl (Or.inl rfl) (pe_lst (pa_cons (pe_tup pa_nil) pa_nil)))
      (pss_cons (ps_for PassesOwn.never rfl (pi_range1 (by rfl) T.range (pa_cons (pv 1) pa_nil)) (pg_name (i := 3) sc_txts.nd rfl (Or.inl rfl)) (pss_cons (ps_set (i := 4) sc_txts.nd rfl (Or.inl rfl) (pe_lst pa_nil))
      (pss_cons (ps_for PassesOwn.never rfl (pi_list (pv 2)) (pg_name (i := 5) sc_txts.nd rfl (Or.inl rfl)) (pss_one (ps_for PassesOwn.never rfl (pi_range1 (by rfl) T.range (pa_cons (pv 0) pa_nil)) (pg_name (i := 6) sc_txts.nd rfl (Or.inl rfl)) (pss_one (ps_expr (pe_bm PySem.F.plainAttrs_list PySem.F.slot_list_append PySem.F.type_list_append mt_append (pv 4) (pa_cons (pe_op op_catA (pv 5) (pe_tup (pa_cons (pv 6) pa_nil))) pa_nil)))))))
      (pss_one (ps_set (i := 2) sc_txts.nd rfl (Or.inl rfl) (pv 4))))))
      (pss_one (ps_ret (pv 2))))), ?_⟩
    walk_at "go"
    refine al fun t0 H1 n1 s1 h1 => ?_
    walk_at "go"
    refine al fun l0 H2 n2 s2 h2 => ?_
    walk_at "go"
    have hsz : (100000 : Nat) < sizeLine := by decide
    refine for_range (lo := 0) (n := n) (fun i σ H' => ∃ (D : Addr) (v3 v4 v5 v6 : Option V), σ = [some (.int A), some (.int (n : Nat)), some (.ref D), v3, v4, v5, v6] ∧ Same H H' ∧ TL H' D (txs A.toNat i))
      ⟨l0, none, none, none, none, rfl, s1.trans s2, ⟨[t0], h2, .cons (s2 _ _ h1) .nil⟩⟩ ?_ ?_
    · rintro i σ H3 hi ⟨D, v3, v4, v5, v6, rfl, s3, ts, hD, hts⟩
      have hlen := txs_len A.toNat i
      have hll := hts.length
      have hpi := pow_le1 (show 1 ≤ A.toNat by omega) (show i + 1 ≤ n by omega)
      rw [Nat.pow_succ] at hpi
      walk_at "go"
      refine al fun B H4 n4 s4 h4 => ?_
      walk_at "go"
      refine for_list (K := K) (a := D) (xs := ts.map V.ref) (fun j σ H' => ∃ (us : List Addr) (v5 v6 : Option V), σ = [some (.int A), some (.int (n : Nat)), some (.ref D), some (.int (0 + (i : Int))), some (.ref B), v5, v6] ∧ Same H3 H' ∧ H' B = some (.lst (us.map V.ref)) ∧ Paired (fun us t => H' t = some (.tup (us.map V.int))) (((txs A.toNat i).take j).flatMap (extT A.toNat)) us)
        ⟨[], _, _, rfl, s4, h4, .nil⟩ (fun j σ H' _ z => by obtain ⟨_, _, _, _, z, _⟩ := z; exact sq (z _ _ hD)) ?_ ?_
      · rintro j x σ H5 hj ⟨us, v5, v6, rfl, s5, h5, hus⟩
        obtain ⟨t, ht, rfl⟩ := get_map hj
        obtain ⟨u, hu, htu⟩ := paired_get hts ht
        have hjl : j < (txs A.toNat i).length := (List.getElem?_eq_some_iff.mp hu).1
        have hul : u.length = i := (txs_mem (List.mem_of_getElem? hu)).1
        have hl5 := hus.length
        rw [flat_len _ (extT_len _), List.length_take, Nat.min_eq_left (by omega)] at hl5
        have hjA : (j + 1) * A.toNat ≤ A.toNat ^ i * A.toNat := Nat.mul_le_mul_right _ (by omega)
        rw [Nat.succ_mul] at hjA
        walk_at "go"
        refine for_range (lo := 0) (n := A.toNat) (fun l σ H' => ∃ (ws : List Addr) (v6 : Option V), σ = [some (.int A), some (.int (n : Nat)), some (.ref D), some (.int (0 + (i : Int))), some (.ref B), some (.ref t), v6] ∧ Same H3 H' ∧ H' B = some (.lst (ws.map V.ref)) ∧ Paired (fun us t => H' t = some (.tup (us.map V.int))) (((txs A.toNat i).take j).flatMap (extT A.toNat) ++ extT l u) ws)
          ⟨us, _, rfl, s5, h5, by rw [show extT 0 u = [] from rfl, List.append_nil]; exact hus⟩ ?_ ?_
        · rintro l σ H6 hl ⟨ws, v6, rfl, s6, h6, hws⟩
          have hl6 := hws.length
          rw [List.length_append, extT_len, flat_len _ (extT_len _), List.length_take, Nat.min_eq_left (by omega)] at hl6
          walk_at "go"
          refine al fun p7 H7 n7 s7 h7 => ?_
          walk_at "go"
          refine w_catA (xs := u.map V.int) (ys := [.int (0 + (l : Int))]) (s7 _ _ (s6 _ _ htu)) h7 (by rw [List.length_map, List.length_cons, List.length_nil]; omega) fun p8 H8 s8 h8 => ?_
          walk_at "go"
          have s78 : Same H6 H8 := s7.trans s8
          have nB3 : H3 B = none := n4
          refine w_append (s78 _ _ h6) (by rw [List.length_map]; omega) ?_
          walk_at "go"
          have k8 : Same H3 (upd H8 B (.lst (ws.map V.ref ++ [.ref p8]))) := fun b o e => by
            rw [upd_ne (fun z => by rw [z, nB3] at e; cases e)]
            exact s78 _ _ (s6 _ _ e)
          have kp : ∀ (t : Addr) (us : List Int), H8 t = some (.tup (us.map V.int)) → upd H8 B (.lst (ws.map V.ref ++ [.ref p8])) t = some (.tup (us.map V.int)) := fun t us e => by
            rw [upd_ne (fun z => by rw [z, s78 _ _ h6] at e; cases e)]
            exact e
          refine ⟨ws ++ [p8], _, rfl, k8, by rw [L2.upd_same, List.map_append]; rfl, ?_⟩
          have e9 : ((txs A.toNat i).take j).flatMap (extT A.toNat) ++ extT (l + 1) u = (((txs A.toNat i).take j).flatMap (extT A.toNat) ++ extT l u) ++ [u ++ [(l : Int)]] := by
            rw [List.append_assoc]
            congr 1
            unfold extT
            rw [List.range_succ, List.map_append]
            rfl
          rw [e9]
          refine paired_appT (paired_imp (fun us t z => kp t us (s78 _ _ z)) hws) (.cons (kp _ _ ?_) .nil)
          rw [h8, List.map_append]
          rw [show (0 + (l : Int)) = (l : Int) by omega]
          rfl
        · rintro σ H6 ⟨ws, v6, rfl, s6, h6, hws⟩
          walk_at "go"
          refine ⟨ws, _, _, rfl, s6, h6, ?_⟩
          rw [List.take_add_one, hu, List.flatMap_append]
          exact (by simpa using hws)
      · rintro σ H5 ⟨us, v5, v6, rfl, s5, h5, hus⟩
        rw [List.length_map, ← hll, List.take_length] at hus
        walk_at "go"
        exact ⟨B, _, _, _, _, rfl, s3.trans s5, us, h5, hus⟩
    · rintro σ H3 ⟨D, v3, v4, v5, v6, rfl, s3, hT⟩
      walk_at "go"
      exact q H3 D s3 hT
abbrev s_many63 : Stmt := (top 55)
theorem sc_many63 : FnScope ["_law_rich", "_law_many_here", "_law_found", "_law_turn"] ["_law_rich", "_law_many_here"] (defScope s_many63) :=
  ⟨rfl, rfl, rfl, by decide +kernel, rfl, by decide +kernel, by decide +kernel⟩
theorem ok_many63 (F : Dn K mg "_law_many" s_many63 ["_law_rich", "_law_many_here"]) (T : Bt mg) : Cal P w K mg base 1 "_law_many" spMany63 [] := by
  refine F.cal sc_many63 (fun vs H Q E h => ?_) (fun f cdv A' outer s H vs Q E hr h => ?_)
  · obtain ⟨A, n, rfl, _⟩ := h
    rfl
  · obtain ⟨A, n, rfl, A0, A1, n1, q⟩ := h
    refine ⟨_, (pss_cons (ps_set (i := 2) sc_many63.nd rfl (Or.inl rfl) pe_int)
      (pss_cons (ps_for PassesOwn.never rfl (pi_range1 (by rfl) T.range (pa_cons (pv 1) pa_nil)) (pg_name (i := 3) sc_many63.nd rfl (Or.inl rfl)) (pss_one (ps_set (i := 2) sc_many63.nd rfl (Or.inl rfl) (pe_op oMul (pv 2) (pv 0)))))
      (pss_one (ps_ret (pv 2))))), ?_⟩
    walk_at "go"
    refine for_range (lo := 0) (n := n) (fun i σ H' => ∃ (v3 : Option V), σ = [some (.int A), some (.int (n : Nat)), some (.int (A ^ i)), v3] ∧ H' = H) ⟨none, by rw [Int.pow_zero], rfl⟩ ?_ ?_
    · rintro i σ H' hi ⟨v3, rfl, rfl⟩
      have hm : CMx (A ^ i) A := mx_w (a := 20000) (b := 20) (by
        have h1 : (A ^ i).natAbs = A.natAbs ^ i := Int.natAbs_pow _ _
        have h2 : A.natAbs ^ i ≤ (2 ^ 10) ^ i := Nat.pow_le_pow_left (by omega) i
        have h3 : ((2 : Nat) ^ 10) ^ i = 2 ^ (10 * i) := (Nat.pow_mul ..).symm
        have h4 : (2 : Nat) ^ (10 * i) < 2 ^ 20000 := Nat.pow_lt_pow_right (by decide) (by omega)
        omega) (by have : (1000 : Nat) < 2 ^ 20 := by decide
                   omega) (by decide)
      walk_at "go"
      exact ⟨_, by rw [Int.pow_succ], rfl⟩
    · rintro σ H' ⟨v3, rfl, rfl⟩
      walk_at "go"
      exact q
abbrev s_caught63 : Stmt := (top 56)
theorem sc_caught63 : FnScope ["_law_made", "_law_rich", "_law_many_here", "_law_told", "_law_order", "_law_caught_here", "error"] ["_law_made", "_law_rich", "_law_many_here", "_law_told", "_law_order"] (defScope s_caught63) :=
  ⟨rfl, rfl, rfl, by decide +kernel, rfl, by decide +kernel, by decide +kernel⟩
theorem ok_caught63 {c : CA} {Cn : Addr} (F : Dn K mg "_law_caught" s_caught63 ["_law_made", "_law_rich", "_law_many_here", "_law_told", "_law_order"]) (T : Bt mg) (e_nst : ErrC K mg "NoSuchText" Cn "count") (c_mkdx : CalX P w K mg base 5 "marked_text" (spMarkedX c Cn) []) : Cal P w K mg base 6 "_law_caught" (spCaught63 c) [] := by
  refine F.cal sc_caught63 (fun vs H Q E h => ?_) (fun f cdv A outer s H vs Q E hr h => ?_)
  · obtain ⟨x, A, m, k, b, n, ps, y, rfl, _⟩ := h
    rfl
  · obtain ⟨x, A, m, k, b, n, ps, y, rfl, hw, hN2, A1, A2, hn, m0, m1, k0, hk, q⟩ := h
    refine ⟨_, (pss_cons (ps_set (i := 5) sc_caught63.nd rfl (Or.inl rfl) pe_non)
      (pss_cons (ps_try_kp rfl rfl rfl takes0 (fun W pn xe tk po => (pss_one (ps_expr (pe_cX c_mkdx hr (by decide) (by rfl) tk (pa_cons (pv 0) (pa_cons (pv 1) (pa_cons (pv 2) (pa_cons (pv 3) (pa_cons (pv 4) pa_nil)))))))))
      (ClsOk.as (i := 6) sc_caught63.nd rfl rfl ⟨rfl, by decide, .inl e_nst.gC⟩ (fun a oe cls d pn hz hf => (pss_one (ps_set (i := 5) sc_caught63.nd rfl (Or.inl rfl) (pv 6))))
      ClsOk.nil))
      (pss_one (ps_ret (pe_and (pe_cmpR op_notN1 (pv 5) pe_non (nomark _)) (pe_one (pe_lst (pa_cons (pe_xk (pv 5)) pa_nil)))))))), ?_⟩
    walk_at "go"
    refine ⟨x, A, m, k, b, n, ps, y, rfl, hw, hN2, A1, A2, hn, m0, m1, k0, (fun h => by omega), fun _ d H1 n1 s1 h1 => ?_⟩
    refine w_clsKA e_nst.te fun a na => ?_
    walk_at "go"
    refine iteT ?_
    walk_at "go"
    refine ⟨a, Cn, d, _, _, rfl, L2.upd_same, e_nst.xf, e_nst.no, (upd_ne (ne_of_none h1 na)).trans h1, rfl, ?_⟩
    walk_at "go"
    refine al fun p H2 n2 s2 h2 => ?_
    walk_at "go"
    have s3 : Same H1 (upd H1 a (exk a (.ref Cn) (some d))) := Same.new na
    exact q p H2 (s1.free (s3.free n2)) (s1.trans (s3.trans s2)) h2
abbrev s_one63 : Stmt := (top 57)
theorem sc_one63 : FnScope ["_law_made", "_law_rich", "_law_given", "_law_marks", "_law_letter", "_law_told", "_law_order"] ["_law_made", "_law_rich", "_law_given"] (defScope s_one63) :=
  ⟨rfl, rfl, rfl, by decide +kernel, rfl, by decide +kernel, by decide +kernel⟩
theorem ok_one63 {c : CA} {Cn : Addr} (F : Dn K mg "_law_one_right" s_one63 ["_law_made", "_law_rich", "_law_given"]) (T : Bt mg) (X : Kx K mg c) (c_sum : Cal P w K mg base 1 "_law_sum" spSum []) (c_cntm : Cal P w K mg base 3 "count_marked" (spCountM c) []) (c_mkdx : CalX P w K mg base 5 "marked_text" (spMarkedX c Cn) []) (c_numof : Cal P w K mg base 5 "number_of" (spNumberOf c) []) : Cal P w K mg base 6 "_law_one_right" (spOne63 c) [] := by
  refine F.cal sc_one63 (fun vs H Q E h => ?_) (fun f cdv A' outer s H vs Q E hr h => ?_)
  · obtain ⟨x, g, A, b, ps, y, rfl, _⟩ := h
    rfl
  · obtain ⟨x, g, A, b, ps, y, rfl, hw, hg, hy, hN2, A1, A2, q⟩ := h
    have hN := num_pos hw.facs.2
    have hb0 : 0 ≤ b ∧ b < num ps := by
      obtain ⟨_, _, _, _, _, _, h1, h2⟩ := id hw
      exact ⟨h1, h2⟩
    obtain ⟨A, rfl⟩ := Int.eq_ofNat_of_zero_le (show 0 ≤ A by omega)
    refine ⟨_, (pss_cons (ps_setLc (i := 3) (own := [("_law_letter", 4)]) (g := gName 4) (tt := tYes) (te := (tOp _ (tCall _ _ _ (tCons (tLst (tCons (tVar 4) tNil)) (tCons (tFld K (tVar 0) "base") (tCons (tVar 2) tNil)))) (tFld K (tVar 0) "number"))) rfl sc_one63.nd rfl rfl (sw_true rfl rfl rfl (by decide +kernel)) (pi_range1 (by rfl) T.range (pa_cons (pe_op op_add (pv 1) pe_int) pa_nil)) (blkOk_by (own := [("_law_letter", 4)]) (N := ["_law_made", "_law_rich", "_law_given", "_law_marks", "_law_letter", "_law_told", "_law_order"]) (sc := defScope s_one63) (by decide +kernel)) (fun _ _ _ _ _ => (pg_name (i := 4) sc_one63.nd rfl (Or.inl rfl))) (fun _ _ _ _ _ => pts_nil) (fun _ _ _ _ _ => (pe_op op_mod (pe_c c_sum hr (by decide) (by rfl) (pa_cons (pe_lst (pa_cons (pv 4) pa_nil)) (pa_cons (pe_fld (pv 0) rfl) (pa_cons (pv 2) pa_nil)))) (pe_fld (pv 0) rfl))))
      (pss_cons (ps_set (i := 5) sc_one63.nd rfl (Or.inl rfl) (pe_ix ix_list (pv 3) (pe_un un_neg pe_int) (fun _ _ => rfl)))
      (pss_cons (ps_if (pt_cmpR op_ne (pe_c c_cntm hr (by decide) (by rfl) (pa_cons (pv 0) (pa_cons (pe_op op_add (pv 1) pe_int) (pa_cons pe_int (pa_cons (pv 5) pa_nil))))) (pe_bm PySem.F.plainAttrs_list PySem.F.slot_list_count PySem.F.type_list_count mt_lcount (pv 3) (pa_cons (pv 5) pa_nil)) (nomark _)) (pss_one (ps_ret pe_bl)) pss_nil)
      (pss_cons (ps_if (pt_cmpR op_ne (pe_c c_cntm hr (by decide) (by rfl) (pa_cons (pv 0) (pa_cons (pv 1) (pa_cons pe_int (pa_cons (pv 5) pa_nil))))) (pe_bm PySem.F.plainAttrs_list PySem.F.slot_list_count PySem.F.type_list_count mt_lcount (pe_slice sl_list (pv 3) po_none (po_some (pe_un un_neg pe_int))) (pa_cons (pv 5) pa_nil)) (nomark _)) (pss_one (ps_ret pe_bl)) pss_nil)
      (pss_cons (ps_set (i := 6) sc_one63.nd rfl (Or.inl rfl) (pe_op op_sub (pe_bm PySem.F.plainAttrs_list PySem.F.slot_list_count PySem.F.type_list_count mt_lcount (pv 3) (pa_cons (pv 5) pa_nil)) pe_int))
      (pss_one (ps_ret (pe_and (pe_cmpR (op_eqD hr.units) (pe_cL c_mkdx hr (by decide) (by rfl) (pa_cons (pv 0) (pa_cons (pe_op op_add (pv 1) pe_int) (pa_cons pe_int (pa_cons (pv 5) (pa_cons (pv 6) pa_nil)))))) (pe_tup (pa_cons (pv 1) pa_nil)) (nomark _)) (pe_one (pe_cmpR op_eq (pe_c c_numof hr (by decide) (by rfl) (pa_cons (pv 0) (pa_cons (pe_op op_add (pv 1) pe_int) (pa_cons (pe_lst (pa_cons (pv 1) pa_nil)) pa_nil)))) (pv 6) (nomark _))))))))))), ?_⟩
    walk_at "go"
    intro D hD
    refine lc_pure ((List.range (A + 1)).map fun i : Nat => V.int (0 + (i : Int))) ((mks (num ps) y b (A + 1)).map V.int) walk_rangeY hD (fun _ _ => trivial) (by unfold mks; simp) (by unfold mks; simp; omega) (fun _ => rfl) ?_ ?_
    · intro i u z H' hu hz sm Q' q'
      have hi : i < A + 1 := by
        have := (List.getElem?_eq_some_iff.mp hu).1
        rwa [List.length_map, List.length_range] at this
      rw [List.getElem?_map, List.getElem?_range hi] at hu
      unfold mks at hz
      rw [List.map_map, List.getElem?_map, List.getElem?_range hi] at hz
      cases hu
      cases hz
      walk_at "go"
      refine al fun p1 H1 n1 s1 h1 => ?_
      walk_at "go"
      refine ⟨p1, g, b, [(i : Int)], y, rfl, by rw [h1]; show some (HO.lst [V.int (0 + (i : Int))]) = _; rw [show (0 + (i : Int)) = i by omega]; rfl, s1 _ _ (sm _ _ hg), by simp, ?_, ?_, hy, fun H2 s2 => ?_⟩
      · have : (200 : Nat) < 2 ^ 4000 := by decide +kernel
        omega
      · intro z hz
        rw [List.mem_singleton.mp hz]
        have : (41 : Nat) < 10 ^ 31 := by decide
        omega
      have hwz := hw.same (sm.trans (s1.trans s2))
      walk_at "go"
      rw [mark_sum, Int.emod_eq_of_lt hb0.1 hb0.2]
      exact q' _ (s1.trans s2)
    · intro H1 s1 h1
      have hml : (mks (num ps) y b (A + 1)).length = A + 1 := by unfold mks; simp
      have hlast : mks (num ps) y b (A + 1) = mks (num ps) y b A ++ [mark y b (num ps) [(A : Int)]] := by
        unfold mks
        rw [List.range_succ, List.map_append]
        rfl
      obtain ⟨m, hm⟩ : ∃ m, m = mark y b (num ps) [(A : Int)] := ⟨_, rfl⟩
      have hmr : 0 ≤ m ∧ m < num ps := by rw [hm]; exact mark_range hN _
      walk_at "go"
      refine w_ixL (xs := (mks (num ps) y b (A + 1)).map V.int) (sq h1) (v := .int m) ?_ ?_
      · unfold atI ixN
        rw [if_neg (by decide), List.length_map, hml, if_pos (by omega), show (-1 + ((A + 1 : Nat) : Int)).toNat = A by omega]
        show ((mks (num ps) y b (A + 1)).map V.int)[A]? = _
        have hml2 : (mks (num ps) y b A).length = A := by unfold mks; simp
        rw [hlast, List.map_append, List.getElem?_append_right (by rw [List.length_map, hml2]; exact Nat.le_refl _), List.length_map, hml2, Nat.sub_self, hm]
        rfl
      walk_at "go"
      refine ⟨x, _, m, b, 1, ps, y, rfl, hw.same s1, by omega, by omega, by omega, by decide, hmr.1, hmr.2, fun H2 s2 => ?_⟩
      rw [show ((A : Int) + 1).toNat = A + 1 by omega, ← mks_count hmr]
      walk_at "go"
      refine w_count (sq (s2 _ _ h1)) ?_
      walk_at "go"
      rw [decide_eq_true (Eq.refl _)]
      refine iteF ?_
      walk_at "go"
      refine ⟨x, _, m, b, 1, ps, y, rfl, hw.same (s1.trans s2), by omega, by omega, by omega, by decide, hmr.1, hmr.2, fun H3 s3 => ?_⟩
      rw [show ((A : Int)).toNat = A by omega, ← mks_count hmr]
      walk_at "go"
      refine w_slL (sq (s3 _ _ (s2 _ _ h1))) (al fun p4 H4 n4 s4 h4 => ?_)
      have ecut : cutV ((mks (num ps) y b (A + 1)).map V.int) none (some (-1)) = (mks (num ps) y b A).map V.int := by
        have e1 : cutV ((mks (num ps) y b (A + 1)).map V.int) none (some (-1)) = cutV ((mks (num ps) y b (A + 1)).map V.int) none (some (A : Int)) := by
          unfold cutV
          rw [List.length_map, hml, HT.sIx_nat, show HT.sIx (A + 1) (A + 1) (some (-1)) = A by (show (if (-1 : Int) < 0 then ((-1 : Int) + ((A + 1 : Nat) : Int)).toNat else min (-1 : Int).toNat (A + 1)) = A; rw [if_pos (by decide)]; omega), show min A (A + 1) = A by omega]
        rw [e1, cut_to', hlast, List.take_left' (by unfold mks; simp)]
      rw [ecut] at h4
      walk_at "go"
      refine w_count (sq h4) ?_
      walk_at "go"
      rw [decide_eq_true (Eq.refl _)]
      refine iteF ?_
      walk_at "go"
      have h14 : H4 D = some (.lst ((mks (num ps) y b (A + 1)).map V.int)) := s4 _ _ (s3 _ _ (s2 _ _ h1))
      have s14 : Same H H4 := s1.trans (s2.trans (s3.trans s4))
      refine w_count (sq h14) ?_
      walk_at "go"
      obtain ⟨j, hj, hjt⟩ := mks_last (N := num ps) (y := y) (b := b) hm.symm
      rw [← hj]
      have hjc := mks_count (y := y) (b := b) hmr (A + 1)
      refine ⟨x, _, m, _, b, 1, ps, y, rfl, hw.same s14, by omega, by omega, by omega, by decide, hmr.1, hmr.2, by omega, (fun _ H5 p ts n5 s5 h5 hnt => ?_), fun h => ?_⟩
      · have ets : ts = [(A : Int)] := txm_nth hmr (k := (j : Int)) (by rw [Int.toNat_natCast]; exact hjt) (by omega) (by rw [show ((A : Int) + 1).toNat = A + 1 by omega] at hnt; exact hnt)
        subst ets
        walk_at "go"
        refine al fun p6 H6 n6 s6 h6 => ?_
        walk_at "go"
        refine w_eqTT (ls := [(A : Int)]) (ms := [(A : Int)]) (sqt (s6 _ _ h5)) (sqt h6) ?_
        rw [decide_eq_true (Eq.refl _)]
        walk_at "go"
        refine iteT ?_
        walk_at "go"
        refine al fun p7 H7 n7 s7 h7 => ?_
        walk_at "go"
        refine ⟨x, .ref p7, _, b, [(A : Int)], ps, y, rfl, hw.same (s14.trans (s5.trans (s6.trans s7))), by omega, by omega, by omega, .lst p7 _ h7 (by simp), by simp, fun t ht => ?_, fun H8 s8 => ?_⟩
        · rw [List.mem_singleton.mp ht]
          omega
        rw [show ((A : Int) + 1).toNat = A + 1 by omega, txm_num hmr hjt]
        walk_at "go"
        rw [decide_eq_true (Eq.refl _)]
        exact q H8 (s14.trans (s5.trans (s6.trans (s7.trans s8))))
      · rw [show ((A : Int) + 1).toNat = A + 1 by omega] at h
        omega

abbrev s_right : Stmt := (top 58)
theorem sc_right : FnScope ["_law_purse_here", "_law_pairs", "_law_size", "_law_given", "_law_root_here", "_law_made", "_law_rich", "_law_many_here", "_law_found", "_law_letters", "_law_turn", "_law_told", "_law_some", "_law_past", "_law_order"] ["_law_purse_here"] (defScope s_right) :=
  ⟨rfl, rfl, rfl, by decide +kernel, rfl, by decide +kernel, by decide +kernel⟩
theorem ok_right {c : CA} {Cn : Addr} (F : Dn K mg "_law_right" s_right ["_law_purse_here"]) (T : Bt mg) (X : Kx K mg c) (c_draw : Cal P w K mg base 2 "_law_draw" spDraw []) (c_great : Cal P w K mg base 3 "_law_great" spGreat []) (c_mod2 : Cal P w K mg base 3 "_law_modulus" spMod2 []) (c_root : Cal P w K mg base 4 "_law_root" spRoot []) (c_style : Cal P w K mg base 4 "_law_style" spStyle []) (c_marking : Cal P w K mg base 4 "_law_marking" (spMarking c) [])
    (c_modinit : Mak P w K mg base 3 "Modulus" c.md (spModInit c) []) (c_way3 : Mak P w K mg base 5 "Way" c.wy (spWayInit c) []) (c_cntm : Cal P w K mg base 3 "count_marked" (spCountM c) []) (c_mkdx : CalX P w K mg base 5 "marked_text" (spMarkedX c Cn) []) (c_numof : Cal P w K mg base 5 "number_of" (spNumberOf c) [])
    (c_sum : Cal P w K mg base 1 "_law_sum" spSum []) (c_txts : Cal P w K mg base 1 "_law_texts" spTexts63 []) (c_many63 : Cal P w K mg base 1 "_law_many" spMany63 []) (c_caught63 : Cal P w K mg base 6 "_law_caught" (spCaught63 c) []) (c_one63 : Cal P w K mg base 6 "_law_one_right" (spOne63 c) []) : Cal P w K mg base 7 "_law_right" spRight [] := by
  refine F.cal sc_right (fun vs H Q E h => ?_) (fun f cdv A outer s H vs Q E hr h => ?_)
  · obtain ⟨a, c, rfl, _⟩ := h
    rfl
  · obtain ⟨a, cc, rfl, hc, p, k⟩ := h
    refine ⟨_, (pss_cons (ps_asg (pe_c c_mod2 hr (by decide) (by rfl) (pa_cons (pv 0) (pa_cons (pe_ix ix_list (pe_lst (pa_cons pe_int (pa_cons pe_int (pa_cons pe_int pa_nil)))) (pe_c c_draw hr (by decide) (by rfl) (pa_cons (pv 0) (pa_cons pe_int pa_nil))) (fun _ _ => rfl)) pa_nil))) (pg_unl rfl (pgs_cons (pg_name (i := 1) sc_right.nd rfl (Or.inl rfl)) (pgs_cons (pg_name (i := 2) sc_right.nd rfl (Or.inl rfl)) pgs_nil))))
      (pss_cons (ps_set (i := 3) sc_right.nd rfl (Or.inl rfl) (pe_c c_style hr (by decide) (by rfl) (pa_cons (pv 0) pa_nil)))
      (pss_cons (ps_set (i := 4) sc_right.nd rfl (Or.inl rfl) (pe_c c_root hr (by decide) (by rfl) (pa_cons (pv 0) (pa_cons (pv 2) pa_nil))))
      (pss_cons (ps_set (i := 5) sc_right.nd rfl (Or.inl rfl) (pe_mk c_way3 hr (by decide) (by rfl) (pa_cons (pv 4) (pa_cons (pe_mk c_modinit hr (by decide) (by rfl) (pa_cons (pv 1) pa_nil)) (pa_cons (pe_c c_marking hr (by decide) (by rfl) (pa_cons (pv 3) pa_nil)) pa_nil)))))
      (pss_cons (ps_set (i := 6) sc_right.nd rfl (Or.inl rfl) (pe_op op_add pe_int (pe_c c_draw hr (by decide) (by rfl) (pa_cons (pv 0) (pa_cons pe_int pa_nil)))))
      (pss_cons (ps_set (i := 7) sc_right.nd rfl (Or.inl rfl) (pe_c c_draw hr (by decide) (by rfl) (pa_cons (pv 0) (pa_cons pe_int pa_nil))))
      (pss_cons (ps_while PassesOwn.never (pt_cmpR op_gt (pe_c c_many63 hr (by decide) (by rfl) (pa_cons (pv 6) (pa_cons (pv 7) pa_nil))) pe_int (nomark _)) (pss_one (ps_set (i := 7) sc_right.nd rfl (Or.inl rfl) (pe_op op_sub (pv 7) pe_int))))
      (pss_cons (ps_set (i := 8) sc_right.nd rfl (Or.inl rfl) pe_dnewK)
      (pss_cons (ps_for PassesOwn.never rfl (pi_list (pe_c c_txts hr (by decide) (by rfl) (pa_cons (pv 6) (pa_cons (pv 7) pa_nil)))) (pg_name (i := 9) sc_right.nd rfl (Or.inl rfl)) (pss_one (ps_expr (pe_bm PySem.F.plainAttrs_list PySem.F.slot_list_append PySem.F.type_list_append mt_append (pe_dsetd (pv 8) (pe_op op_mod (pe_c c_sum hr (by decide) (by rfl) (pa_cons (pe_callTy cListOf (by rfl) T.list (by decide +kernel) (pa_cons (pv 9) pa_nil)) (pa_cons (pv 4) (pa_cons (pv 3) pa_nil)))) (pv 2)) (pe_lst pa_nil) ⟨rfl, rfl, rfl, rfl⟩) (pa_cons (pv 9) pa_nil)))))
      (pss_cons (ps_if (pt_not (pt_val (pe_c c_one63 hr (by decide) (by rfl) (pa_cons (pv 5) (pa_cons (pv 6) (pa_cons (pv 3) pa_nil)))))) (pss_one (ps_ret pe_bl)) pss_nil)
      (pss_cons (ps_for PassesOwn.never rfl (pi_range1 (by rfl) T.range (pa_cons pe_int pa_nil)) (pg_name (i := 10) sc_right.nd rfl (Or.inl rfl)) (pss_cons (ps_set (i := 11) sc_right.nd rfl (Or.inl rfl) (pe_c c_draw hr (by decide) (by rfl) (pa_cons (pv 0) (pa_cons (pv 2) pa_nil))))
      (pss_cons (ps_set (i := 12) sc_right.nd rfl (Or.inl rfl) (pe_dget2 (u66 hr) (pv 8) (pv 11) (pe_lst pa_nil) ⟨rfl, rfl, rfl, rfl⟩))
      (pss_cons (ps_if (pt_cmpR op_ne (pe_c c_cntm hr (by decide) (by rfl) (pa_cons (pv 5) (pa_cons (pv 6) (pa_cons (pv 7) (pa_cons (pv 11) pa_nil))))) (pe_callB cLen (by rfl) T.len (by decide +kernel) (pa_cons (pv 12) pa_nil)) (nomark _)) (pss_one (ps_ret pe_bl)) pss_nil)
      (pss_cons (ps_set (i := 13) sc_right.nd rfl (Or.inl rfl) (pe_op op_add (pe_callB cLen (by rfl) T.len (by decide +kernel) (pa_cons (pv 12) pa_nil)) (pe_ix ix_list (pe_lst (pa_cons pe_int (pa_cons pe_int (pa_cons (pe_op oPowW pe_int pe_int) pa_nil)))) (pe_c c_draw hr (by decide) (by rfl) (pa_cons (pv 0) (pa_cons pe_int pa_nil))) (fun _ _ => rfl))))
      (pss_cons (ps_if (pt_cmpR (op_neD hr.units) (pe_c c_caught63 hr (by decide) (by rfl) (pa_cons (pv 5) (pa_cons (pv 6) (pa_cons (pv 7) (pa_cons (pv 11) (pa_cons (pv 13) pa_nil)))))) (pe_lst (pa_cons (pe_callB cLen (by rfl) T.len (by decide +kernel) (pa_cons (pv 12) pa_nil)) pa_nil)) (nomark _)) (pss_one (ps_ret pe_bl)) pss_nil)
      (pss_one (ps_for PassesOwn.never rfl (pi_list (pe_ifExp (pt_cmpR (op_eqD hr.units) (pv 12) (pe_lst pa_nil) (nomark _)) (pe_lst pa_nil) (pe_lst (pa_cons pe_int (pa_cons (pe_op op_sub (pe_callB cLen (by rfl) T.len (by decide +kernel) (pa_cons (pv 12) pa_nil)) pe_int) (pa_cons (pe_c c_draw hr (by decide) (by rfl) (pa_cons (pv 0) (pa_cons (pe_callB cLen (by rfl) T.len (by decide +kernel) (pa_cons (pv 12) pa_nil)) pa_nil))) pa_nil)))))) (pg_name (i := 14) sc_right.nd rfl (Or.inl rfl)) (pss_cons (ps_if (pt_cmpR (op_neD hr.units) (pe_cL c_mkdx hr (by decide) (by rfl) (pa_cons (pv 5) (pa_cons (pv 6) (pa_cons (pv 7) (pa_cons (pv 11) (pa_cons (pv 14) pa_nil)))))) (pe_ix ix_list (pv 12) (pv 14) (fun _ _ => rfl)) (nomark _)) (pss_one (ps_ret pe_bl)) pss_nil)
      (pss_one (ps_if (pt_cmpR op_ne (pe_c c_numof hr (by decide) (by rfl) (pa_cons (pv 5) (pa_cons (pv 6) (pa_cons (pe_ix ix_list (pe_lst (pa_cons (pe_callTy cListOf (by rfl) T.list (by decide +kernel) (pa_cons (pe_ix ix_list (pv 12) (pv 14) (fun _ _ => rfl)) pa_nil)) (pa_cons (pe_ix ix_list (pv 12) (pv 14) (fun _ _ => rfl)) pa_nil))) (pe_c c_draw hr (by decide) (by rfl) (pa_cons (pv 0) (pa_cons pe_int pa_nil))) (fun _ _ => rfl)) pa_nil)))) (pv 14) (nomark _)) (pss_one (ps_ret pe_bl)) pss_nil)))))))))))
      (pss_one (ps_ret (pe_c c_one63 hr (by decide) (by rfl) (pa_cons (pv 5) (pa_cons (pv 6) (pa_cons (pv 3) pa_nil))))))))))))))))), ?_⟩
    walk_at "go"
    refine alR p fun l2 H2 s2 u2 h2 n2 => ?_
    walk_at "go"
    refine use_drawR u2 (by decide) (by decide) (by omega) fun kd H3 kd0 kd1 s3 u3 => ?_
    refine w_ixL (xs := ([12, 60, 200] : List Int).map V.int) (by walk_at "hp") (atI_ints kd0 (by simpa using kd1)) ?_
    obtain ⟨z2, hz2, z20, z21⟩ := pick3 (x := 12) (y := 60) (z := 200) (lo := 1) (hi := 200) kd0 kd1 (by decide) (by decide) (by decide)
    rw [hz2]
    walk_at "go"
    refine ⟨a, z2, _, rfl, by omega, by omega, by omega, u3, fun r6 lp H6 ps s6 u6 h6 hl6 ha hs hn5 => ?_⟩
    have hn := num_pos hs
    have hn200 : num ps ≤ 200 := by omega
    walk_at "go"
    refine use_styleR u6 (by omega) fun g H18 y s18 u18 hg hy => ?_
    walk_at "go"
    refine use_rootR u18 hn (by omega) fun rt H7 hrt s7 u7 => ?_
    walk_at "go"
    refine use_modR u7 (by walk_at "hp") ha hs fun m1 H17 s17 u17 hm => ?_
    walk_at "go"
    refine use_markingR u17 (y := y) (by walk_at "hp") fun kg H19 s19 u19 hk => ?_
    walk_at "go"
    refine use_wayR u19 (y := y) (by walk_at "hp") (by walk_at "hp") fun wy HB sB uB hw => ?_
    walk_at "go"
    refine use_drawR uB (by omega) (by omega) (by omega) fun rich0 H21 ri0 ri1 s21 u21 => ?_
    walk_at "go"
    obtain ⟨rich, hrich⟩ : ∃ rich, rich = 1 + rich0 := ⟨_, rfl⟩
    rw [← hrich]
    refine use_drawR u21 (by omega) (by omega) (by omega) fun many H22 ma0 ma1 s22 u22 => ?_
    obtain ⟨n0, rfl⟩ := Int.eq_ofNat_of_zero_le ma0
    walk_at "go"
    have hw22 : WayAt c (rm a H22) wy (rt % num ps) ps y := by walk_at "hp"
    have hg22 : rm a H22 g = some (.lst [.bl y.low, .int y.shift, .bl y.lead]) := by walk_at "hp"
    have S22 : Same (rm a H) (rm a H22) := by walk_at "same"
    have U22 : Purse H22 a (cc + 2500) := u22.le (by omega)
    have hrt4 : rt.natAbs < 2 ^ 4000 := by
      have : (10 : Nat) ^ 40 + 200 < 2 ^ 4000 := by decide +kernel
      omega
    clear hw hm hg hk h2 h6 hl6 s2 s3 s6 s7 s17 s18 s19 s21 s22 sB u2 u3 u6 u7 u17 u18 u19 u21 u22 uB n2 p
    obtain ⟨b, hb⟩ : ∃ b, b = rt % num ps := ⟨_, rfl⟩
    rw [← hb] at hw22
    refine while_go (fun σ H' => ∃ n : Nat, σ = [some (.ref a), some (.ref lp), some (.int (num ps)), some (.ref g), some (.int rt), some (.ref wy), some (.int rich), some (.int (n : Nat)), none, none, none, none, none, none, none] ∧ H' = H22 ∧ n ≤ 11) (fun σ _ => match σ with | [_, _, _, _, _, _, _, some (.int z), _, _, _, _, _, _, _] => z.toNat | _ => 0)
      ⟨n0, rfl, rfl, by omega⟩ ?_
    rintro σ H' ⟨n, rfl, rfl, hn11⟩
    walk_at "go"
    refine ⟨rich, n, rfl, by omega, by omega, by omega, ?_⟩
    walk_at "go"
    refine ite_d (fun hbig => ?_) (fun hsm => ?_)
    · walk_at "go"
      have hn1 : n ≠ 0 := fun z => by
        rw [z, Int.pow_zero] at hbig
        omega
      refine ⟨?_, n - 1, by rw [show ((n : Int) - 1) = ((n - 1 : Nat) : Int) by omega], rfl, by omega⟩
      show ((n : Int) - 1).toNat < (n : Int).toNat
      omega
    · have hpw : rich.toNat ^ n ≤ 2000 := by
        have e : ((rich.toNat ^ n : Nat) : Int) = rich ^ n := by rw [Int.natCast_pow, Int.toNat_of_nonneg (by omega)]
        omega
      walk_at "go"
      refine al fun d H1 nd1 s1 h1 => ?_
      walk_at "go"
      refine ⟨rich, n, rfl, by omega, hpw, by omega, fun H2 T s2 hT => ?_⟩
      have U2 : Purse H2 a (cc + 2500) := (U22.same s1).same s2
      have had : d ≠ a := U22.fresh nd1
      have hd2 := s2 _ _ h1
      have hw2 : WayAt c H2 wy b ps y := ((hw22.same rm_le).same s1).same s2
      have hg2 : H2 g = some (.lst [.bl y.low, .int y.shift, .bl y.lead]) := s2 _ _ (s1 _ _ (rm_le _ _ hg22))
      have SD : Same H' (rm d H2) := rm_in nd1 (s1.trans s2)
      have hlen := txs_len rich.toNat n
      obtain ⟨ts, hTl, hts⟩ := hT
      have hTl : rm d H2 T = some (.lst (ts.map V.ref)) := rm_of (fun e => by rw [e, hd2] at hTl; cases hTl) hTl
      have hts : Paired (fun us t => rm d H2 t = some (.tup (us.map V.int))) (txs rich.toNat n) ts := paired_imp (fun us t z => rm_of (fun e => by rw [e, hd2] at z; cases z) z) hts
      have hg2 : rm d H2 g = some (.lst [.bl y.low, .int y.shift, .bl y.lead]) := rm_of (fun e => by rw [e, hd2] at hg2; cases hg2) hg2
      have hll := hts.length
      have hsz : (100000 : Nat) < sizeLine := by decide
      walk_at "go"
      have L0 : GvD (rm d H2) H2 d (fun _ => []) [] (fun _ => d) := ⟨rm_le, by unfold rm; rw [if_pos rfl], hd2, List.nodup_nil, (fun _ h => by cases h), (fun _ h => by cases h), (fun _ h => by cases h), fun _ _ => rfl⟩
      refine for_list (K := K) (a := T) (xs := ts.map V.ref) (fun i σ H' => ∃ (Pf : Nat → List V) (js : List Nat) (ad : Nat → Addr) (v9 : Option V), σ = [some (.ref a), some (.ref lp), some (.int (num ps)), some (.ref g), some (.int rt), some (.ref wy), some (.int rich), some (.int (n : Nat)), some (.ref d), v9, none, none, none, none, none] ∧ GvD (rm d H2) H' d Pf js ad ∧ (∀ j ∈ js, j < (num ps).toNat) ∧ Grp (num ps) b y (rm d H2) Pf ((txs rich.toNat n).take i))
        ⟨fun _ => [], [], fun _ => d, none, rfl, L0, (fun _ h => by cases h), fun j => ⟨[], rfl, .nil⟩⟩ (fun i σ H' _ z => by obtain ⟨_, _, _, _, _, L, _⟩ := z; exact sq (L.same _ _ hTl)) ?_ ?_
      · rintro i x H3' H3 hi ⟨Pf, js, ad, v9, rfl, L, hj, hG⟩
        obtain ⟨t, ht, rfl⟩ := get_map hi
        obtain ⟨u, hu, htu⟩ := paired_get hts ht
        obtain ⟨hul, hub⟩ := txs_mem (List.mem_of_getElem? hu)
        walk_at "go"
        refine w_setd ?_
        walk_at "go"
        refine ⟨.inl ⟨_, .inl L.at_⟩, ?_⟩
        walk_at "go"
        refine w_listT (sqt (L.same _ _ htu)) (al fun p4 H4 n4 s4 h4 => ?_)
        have L4 := L.mono s4
        walk_at "go"
        refine ⟨p4, g, rt, u, y, rfl, h4, L4.same _ _ hg2, by omega, hrt4, (fun z hz => by have e1 := hub z hz; have e2 : (1000 : Nat) < 10 ^ 31 := (by decide); omega), hy, fun H5 s5 => ?_⟩
        have L5 := L4.mono s5
        walk_at "go"
        rw [mark_sum, ← hb]
        have hmr := mark_range (y := y) (b := b) hn u
        obtain ⟨j, hjm⟩ := Int.eq_ofNat_of_zero_le hmr.1
        rw [hjm]
        refine al fun e H6 n6 s6 h6 => ?_
        have L6 := L5.mono s6
        have hln := L6.len hj
        have hPl := hG.len j
        rw [List.length_take] at hPl
        obtain ⟨A1, A2⟩ := L6.add j (.ref t) h6 (L5.same.free n6) (fun i hi e' => by
          have := L5.l i hi
          rw [e', n6] at this
          cases this) (by omega)
        have fin : ∀ (H7 : Hp) (js' : List Nat) (ad' : Nat → Addr), (∀ i, i ∈ js' ↔ i ∈ js ∨ i = j) → GvD (rm d H2) H7 d (addM Pf j (.ref t)) js' ad' → GvD (rm d H2) H7 d (addM Pf j (.ref t)) js' ad' ∧ (∀ i ∈ js', i < (num ps).toNat) ∧ Grp (num ps) b y (rm d H2) (addM Pf j (.ref t)) ((txs rich.toNat n).take (i + 1)) := fun H7 js' ad' hjs L7 => by
          refine ⟨L7, fun i hi => ((hjs i).mp hi).elim (hj i) fun z => by omega, ?_⟩
          rw [List.take_add_one, hu]
          exact hG.step htu hjm
        refine ⟨kvM js ad, .inl (j : Int), L6.at_, rfl, by omega, fun v hv => ?_, fun hv => ?_⟩
        · obtain ⟨a', xs, rfl, ha', A⟩ := A1 v hv
          refine w_tyL (sq ha') ?_
          walk_at "go"
          refine A _ fun H7 js' ad' hjs L7 => ?_
          walk_at "go"
          exact ⟨_, js', ad', _, rfl, fin H7 js' ad' hjs L7⟩
        · obtain ⟨xs, ha', A⟩ := A2 hv
          refine w_tyL (sq ha') ?_
          walk_at "go"
          refine A _ fun H7 js' ad' hjs L7 => ?_
          walk_at "go"
          exact ⟨_, js', ad', _, rfl, fin H7 js' ad' hjs L7⟩
      · rintro σ H3 ⟨Pf, js, ad, v9, rfl, L, hj, hG⟩
        rw [List.length_map, ← hll, List.take_length] at hG
        have S3 : Same H' H3 := SD.trans L.same
        have U3 : Purse H3 a (cc + 2500) := U22.same S3
        have hw3 : WayAt c (rm a H3) wy b ps y := hw22.same S3.rm
        have hg3 : rm a H3 g = some (.lst [.bl y.low, .int y.shift, .bl y.lead]) := S3.rm _ _ hg22
        have hd3 : rm a H3 d = some (.dK (kvM js ad)) := rm_of had L.at_
        have hl3 : ∀ j ∈ js, rm a H3 (ad j) = some (.lst (Pf j)) := fun j hjm => rm_of (fun e => by
          obtain ⟨x, y, z, hx, _⟩ := U22
          have h1 := L.ln j hjm
          rw [e] at h1
          have h2 := SD _ _ hx
          rw [h1] at h2
          cases h2) (L.l j hjm)
        have hgrp : ∀ j : Nat, ∃ us : List Addr, Pf j = us.map V.ref ∧ Paired (fun u t => rm a H3 t = some (.tup (u.map V.int))) (txm (num ps) rich.toNat y b n j) us := fun j => by
          obtain ⟨us, h1, h2⟩ := hG j
          refine ⟨us, h1, paired_imp (fun u t z => rm_of (fun e => ?_) (L.same _ _ z)) h2⟩
          obtain ⟨x', y', z', hx, _⟩ := U22
          have h3 := SD _ _ hx
          rw [e, h3] at z
          cases z
        have hno := L.no
        have sF : Same (rm a H) (rm a H3) := S22.trans S3.rm
        clear L L0 hG hts hTl hg2 hd2 hw2 U2 S3 SD s1 s2 h1 hw22 hg22 S22 U22 hj hll nd1
        walk_at "go"
        refine ⟨wy, g, rich, b, ps, y, rfl, by walk_at "hp", by walk_at "hp", hy, hn200, by omega, by omega, fun H4 s4 => ?_⟩
        have U4 := U3.same s4
        walk_at "go"
        refine iteF ?_
        walk_at "go"
        refine for_range (lo := 0) (n := 4) (fun i σ H' => ∃ (v10 v11 v12 v13 v14 : Option V), σ = [some (.ref a), some (.ref lp), some (.int (num ps)), some (.ref g), some (.int rt), some (.ref wy), some (.int rich), some (.int (n : Nat)), some (.ref d), v9, v10, v11, v12, v13, v14] ∧ Same (rm a H3) (rm a H') ∧ Purse H' a (cc + 2500 + 20 * i))
          ⟨_, _, _, _, _, rfl, s4.rm, U4.le (by omega)⟩ ?_ ?_
        · rintro i σ H5 hi ⟨v10, v11, v12, v13, v14, rfl, s5, u5⟩
          walk_at "go"
          refine use_drawR u5 hn (by omega) (by omega) fun told H6 to0 to1 s6 u6 => ?_
          obtain ⟨tj, rfl⟩ := Int.eq_ofNat_of_zero_le to0
          walk_at "go"
          refine w_dget2 ?_
          walk_at "go"
          have hd6 : rm a H6 d = some (.dK (kvM js ad)) := by walk_at "hp"
          refine ⟨.inl ⟨_, .inl (rm_le _ _ hd6)⟩, ?_⟩
          walk_at "go"
          refine alR u6 fun z7 H7 s7 u7 h7 n7 => ?_
          have hd7 : rm a H7 d = some (.dK (kvM js ad)) := by walk_at "hp"
          refine ⟨_, DGet.k (k := .inl (tj : Int)) (rm_le _ _ hd7), ?_⟩
          have S37 : Same (rm a H3) (rm a H7) := by walk_at "same"
          obtain ⟨us, hus, hpu⟩ := hgrp tj
          obtain ⟨sm, hsm, hT⟩ : ∃ sm, (valV (kvM js ad) (.inl (tj : Int))).getD (.ref z7) = .ref sm ∧ rm a H7 sm = some (.lst (us.map V.ref)) := by
            rw [kvM_val]
            by_cases e : tj ∈ js
            · rw [if_pos e]
              exact ⟨_, rfl, by rw [← hus]; exact S37 _ _ (hl3 tj e)⟩
            · rw [if_neg e]
              exact ⟨_, rfl, by rw [← hus, hno tj e]; exact h7⟩
          rw [hsm]
          have hpu := paired_imp (fun u t z => S37 _ _ z) hpu
          have hmr : 0 ≤ (tj : Int) ∧ (tj : Int) < num ps := ⟨to0, to1⟩
          have hfl := txm_len (A := rich.toNat) (n := n) (y := y) (b := b) hmr
          obtain ⟨FF, hFF⟩ : ∃ FF, FF = txm (num ps) rich.toNat y b n (tj : Int) := ⟨_, rfl⟩
          have hnth := fun {k : Int} {t u : List Int} => txm_nth (A := rich.toNat) (n := n) (y := y) (b := b) (k := k) (t := t) (u := u) hmr
          have hnum := fun {i : Nat} {u : List Int} => txm_num (A := rich.toNat) (n := n) (y := y) (b := b) (i := i) (u := u) hmr
          have hlet : ∀ u ∈ txm (num ps) rich.toNat y b n (tj : Int), u.length = n ∧ ∀ x ∈ u, 0 ≤ x ∧ x < rich.toNat := fun u hu => txs_mem (List.mem_filter.mp hu).1
          rw [← hFF] at hfl hpu hnth hnum hlet
          have hul := hpu.length
          have hFl : FF.length ≤ 2000 := by
            rw [hFF]
            exact Nat.le_trans (List.length_filter_le _ _) (by rw [hlen]; exact hpw)
          walk_at "go"
          refine ⟨wy, rich, _, b, n, ps, y, rfl, by walk_at "hp", by omega, by omega, by omega, by omega, to0, to1, fun H8 s8 => ?_⟩
          have u8 := u7.same s8
          rw [← hfl]
          walk_at "go"
          rw [List.length_map, ← hul, decide_eq_true (Eq.refl _)]
          refine iteF ?_
          have c20 : CPowW 10 20 := by unfold CPowW; decide +kernel
          walk_at "go"
          refine alR u8 fun l9 H9 s9 u9 h9 n9 => ?_
          walk_at "go"
          refine use_drawR u9 (by decide) (by decide) (by omega) fun kd2 H10 k20 k21 s10 u10 => ?_
          refine w_ixL (xs := ([0, 1, 10 ^ 20] : List Int).map V.int) (by walk_at "hp") (atI_ints k20 (by simpa using k21)) ?_
          obtain ⟨z9, hz9, z90, z91⟩ := pick3 (x := 0) (y := 1) (z := 10 ^ 20) (lo := 0) (hi := 10 ^ 20) k20 k21 (by decide) (by decide) (by decide)
          rw [hz9]
          walk_at "go"
          rw [List.length_map, ← hul]
          refine ⟨wy, rich, _, _, b, n, ps, y, rfl, by walk_at "hp", by omega, by omega, by omega, by omega, to0, to1, by omega, by rw [← hfl]; omega, fun pc H11 n11 s11 h11 => ?_⟩
          have u11 := u10.same s11
          have h11 := rm_of (u10.fresh n11) h11
          rw [← hfl] at h11
          walk_at "go"
          rw [List.length_map, ← hul]
          refine alR u11 fun p12 H12 s12 u12 h12 n12 => ?_
          walk_at "go"
          refine w_neLL (ls := [(FF.length : Int)]) (ms := [(FF.length : Int)]) (sq (rm_le _ _ (s12 _ _ h11))) (sq (rm_le _ _ h12)) ?_
          rw [decide_eq_true (Eq.refl _)]
          walk_at "go"
          refine iteF ?_
          walk_at "go"
          refine alR u12 fun p13 H13 s13 u13 h13 n13 => ?_
          have S713 : Same (rm a H7) (rm a H13) := by walk_at "same"
          have hT13 : rm a H13 sm = some (.lst (us.map V.ref)) := S713 _ _ hT
          have hpu13 := paired_imp (fun u t z => S713 _ _ z) hpu
          walk_at "go"
          refine w_eqTLn (tss := FF) ⟨us, rm_le _ _ hT13, paired_imp (fun u t z => rm_le _ _ z) hpu13⟩ (rm_le _ _ h13) ?_
          walk_at "go"
          have S313 : Same (rm a H3) (rm a H13) := S37.trans S713
          have w13 : WayAt c (rm a H13) wy b ps y := hw3.same S313
          clear hT hpu h7 hd6 hd7 s5 s6 s7 s8 s9 s10 s11 s12 s13 S37 S713 h9 h11 h12 h13 n9 n11 n12 n13 u5 u6 u7 u8 u9 u10 u11 u12
          refine ite_d (fun hnil => ?_) (fun hne => ?_)
          · walk_at "go"
            refine alR u13 fun p14 H14 s14 u14 h14 n14 => ?_
            walk_at "go"
            refine for_list (K := K) (a := p14) (xs := []) (fun j σ H' => ∃ (v14 : Option V), σ = [some (.ref a), some (.ref lp), some (.int (num ps)), some (.ref g), some (.int rt), some (.ref wy), some (.int rich), some (.int (n : Nat)), some (.ref d), v9, some (.int (0 + (i : Int))), some (.int (tj : Nat)), some (.ref sm), some (.int ((FF.length : Int) + z9)), v14] ∧ H' = H14) ⟨_, rfl, rfl⟩ (fun j σ H' _ z => by obtain ⟨_, _, rfl⟩ := z; exact sq (rm_le _ _ h14)) ?_ ?_
            · intro j x σ H' hj
              cases hj
            · rintro σ H' ⟨v14, rfl, rfl⟩
              walk_at "go"
              exact ⟨_, _, _, _, _, rfl, S313.trans s14, u14.le (by omega)⟩
          · have hpos : 0 < FF.length := List.length_pos_iff.mpr hne
            walk_at "go"
            rw [List.length_map, ← hul]
            refine use_drawR u13 (by omega) (by omega) (by omega) fun o3 H14 o30 o31 s14 u14 => ?_
            walk_at "go"
            refine alR u14 fun p15 H15 s15 u15 h15 n15 => ?_
            walk_at "go"
            refine for_list (K := K) (a := p15) (xs := ([0, (FF.length : Int) - 1, o3] : List Int).map V.int) (fun j σ H' => ∃ (v14 : Option V), σ = [some (.ref a), some (.ref lp), some (.int (num ps)), some (.ref g), some (.int rt), some (.ref wy), some (.int rich), some (.int (n : Nat)), some (.ref d), v9, some (.int (0 + (i : Int))), some (.int (tj : Nat)), some (.ref sm), some (.int ((FF.length : Int) + z9)), v14] ∧ Same (rm a H15) (rm a H') ∧ Purse H' a (cc + 2500 + 20 * i + 4 + j)) ⟨_, rfl, Same.refl _, u15.le (by omega)⟩ (fun j σ H' _ z => by obtain ⟨_, _, z, _⟩ := z; exact sq (rm_le _ _ (z _ _ h15))) ?_ ?_
            · rintro j x σ H16 hj ⟨v14, rfl, s16, u16⟩
              obtain ⟨o, ho, rfl⟩ := get_map hj
              have hj3 : j < 3 := (List.getElem?_eq_some_iff.mp hj).1
              have ho2 : 0 ≤ o ∧ o < FF.length := by
                have hm := List.mem_of_getElem? ho
                simp only [List.mem_cons, List.not_mem_nil, or_false] at hm
                omega
              obtain ⟨oj, rfl⟩ := Int.eq_ofNat_of_zero_le ho2.1
              have hoj : oj < FF.length := by omega
              have hFj : FF[oj]? = some FF[oj] := List.getElem?_eq_getElem hoj
              generalize FF[oj] = u at hFj
              have hju : oj < us.length := by omega
              have huj : us[oj]? = some us[oj] := List.getElem?_eq_getElem hju
              generalize us[oj] = t at huj
              have htu : rm a H13 t = some (.tup (u.map V.int)) := by
                obtain ⟨u2, h1, h2⟩ := paired_get hpu13 huj
                rw [hFj] at h1
                cases h1
                exact h2
              obtain ⟨hun, hub⟩ := hlet u (List.mem_of_getElem? hFj)
              walk_at "go"
              refine ⟨wy, rich, _, _, b, n, ps, y, rfl, by walk_at "hp", by omega, by omega, by omega, by omega, to0, to1, by omega, (fun _ H17 pt ts' n17 s17 h17 hnt => ?_), fun h => by rw [← hfl] at h; omega⟩
              have u17 := u16.same s17
              have h17 := rm_of (u16.fresh n17) h17
              have ets : ts' = u := hnth (by rw [Int.toNat_natCast]; exact hFj) (by omega) hnt
              subst ets
              walk_at "go"
              refine w_ixL (xs := us.map V.ref) (by walk_at "hp") (atI_map (x := t) (by omega) (by rw [Int.toNat_natCast]; exact huj)) ?_
              walk_at "go"
              refine w_neTTe (sqt (rm_le _ _ h17)) (sqt (rm_le _ _ (show rm a _ t = some (.tup (ts'.map V.int)) by walk_at "hp"))) rfl ?_
              walk_at "go"
              refine iteF ?_
              walk_at "go"
              refine w_ixL (xs := us.map V.ref) (by walk_at "hp") (atI_map (x := t) (by omega) (by rw [Int.toNat_natCast]; exact huj)) ?_
              walk_at "go"
              refine w_listT (sqt (rm_le _ _ (show rm a H17 t = some (.tup (ts'.map V.int)) by walk_at "hp"))) (alR u17 fun p18 H18 s18 u18 h18 n18 => ?_)
              walk_at "go"
              refine w_ixL (xs := us.map V.ref) (by walk_at "hp") (atI_map (x := t) (by omega) (by rw [Int.toNat_natCast]; exact huj)) ?_
              walk_at "go"
              refine alR u18 fun p19 H19 s19 u19 h19 n19 => ?_
              walk_at "go"
              refine use_drawR u19 (by decide) (by decide) (by omega) fun r20 H20 r200 r201 s20 u20 => ?_
              have hr : r20 = 0 ∨ r20 = 1 := by omega
              obtain ⟨tv, htv, htx⟩ : ∃ tv, atI ([V.ref p18, V.ref t] : List V) r20 = some tv ∧ TextAt (rm a H20) tv ts' := by
                rcases hr with e | e
                · subst e
                  exact ⟨_, rfl, .lst p18 _ (by walk_at "hp") (by omega)⟩
                · subst e
                  exact ⟨_, rfl, .tup t _ (by walk_at "hp") (by omega)⟩
              refine w_ixL (xs := [V.ref p18, V.ref t]) (by walk_at "hp") htv ?_
              walk_at "go"
              refine ⟨wy, tv, rich, b, ts', ps, y, rfl, by walk_at "hp", by omega, by omega, by omega, htx.same rm_le, by omega, fun x hx => by have := hub x hx; omega, fun H21 s21 => ?_⟩
              have u21 := u20.same s21
              rw [hnum hFj]
              walk_at "go"
              rw [decide_eq_true (Eq.refl _)]
              refine iteF ?_
              walk_at "go"
              exact ⟨_, rfl, by walk_at "same", u21.le (by omega)⟩
            · rintro σ H16 ⟨v14, rfl, s16, u16⟩
              have u16 : Purse H16 a (cc + 2500 + 20 * i + 4 + 3) := u16
              walk_at "go"
              exact ⟨_, _, _, _, _, rfl, by walk_at "same", u16.le (by omega)⟩
        · rintro σ H5 ⟨v10, v11, v12, v13, v14, rfl, s5, u5⟩
          walk_at "go"
          refine ⟨wy, g, rich, b, ps, y, rfl, by walk_at "hp", by walk_at "hp", hy, hn200, by omega, by omega, fun H6 s6 => ?_⟩
          exact k _ (Keep.ofR (by walk_at "same")) ((u5.same s6).le (by omega))

abbrev s_law : Stmt := (top 59)
theorem sc_law : FnScope ["_law_script", "_law_at", "_law_made", "_law_order"] ["_law_script"] (defScope s_law) :=
  ⟨rfl, rfl, rfl, by decide +kernel, rfl, by decide +kernel, by decide +kernel⟩
theorem ok_law {c : CA} {Cn : Addr} {f : Addr} {fd : FuncData} (F : L2.Fun K "law" "law" s_law f fd) (T : Bt mg) (X : Kx K mg c) (c_purse : Cal P w K mg base 1 "_law_purse" (spPurse K) []) (c_right : Cal P w K mg base 7 "_law_right" spRight [])
    (c_modinit : Mak P w K mg base 3 "Modulus" c.md (spModInit c) []) (c_way2 : Mak P w K mg base 5 "Way" c.wy (spWayInit c) [.non]) (c_way3 : Mak P w K mg base 5 "Way" c.wy (spWayInit c) []) (c_mk1 : MakK P w K mg base 2 "Marking" c.kg ["low"] (spMkInit c) (fun vs zs => vs ++ zs ++ [.int 0, .bl false]))
    (c_numof : Cal P w K mg base 5 "number_of" (spNumberOf c) []) (c_mkdx : CalX P w K mg base 5 "marked_text" (spMarkedX c Cn) []) (c_cntmK : CalK P w K mg base 3 "count_marked" ["mark", "length", "stock", "way"] (spCountM c) (fun vs zs => vs ++ zs.reverse)) (c_numofK : CalK P w K mg base 5 "number_of" ["text", "stock", "way"] (spNumberOf c) (fun vs zs => vs ++ zs.reverse)) (c_mkdxK : CalXK P w K mg base 5 "marked_text" ["number", "mark", "length", "stock", "way"] (spMarkedX c Cn) (fun vs zs => vs ++ zs.reverse)) :
    FnOk P w K mg base L2.CX0 8 f fd ["_law_script"] (spLaw K) := by
  refine F.ok sc_law (fun vs H Q E h => ?_) (fun cdv A outer s H vs Q E hr h => ?_)
  · obtain ⟨a, ns, rfl, _⟩ := h
    rfl
  · obtain ⟨a, ns, rfl, hS, hl, k⟩ := h
    refine ⟨_, (pss_cons (ps_for PassesOwn.never rfl (pi_range1 (by rfl) T.range (pa_cons (pe_op op_add pe_int (pe_callB (cMin2 rfl) (by rfl) T.min (by decide +kernel) (pa_cons pe_int (pa_cons (pe_callB cLen (by rfl) T.len (by decide +kernel) (pa_cons (pv 0) pa_nil)) pa_nil)))) pa_nil)) (pg_name (i := 1) sc_law.nd rfl (Or.inl rfl)) (pss_one (ps_if (pt_not (pt_val (pe_c c_right hr (by decide) (by rfl) (pa_cons (pe_c c_purse hr (by decide) (by rfl) (pa_cons (pv 0) (pa_cons (pv 1) pa_nil))) pa_nil)))) (pss_one (ps_ret pe_bl)) pss_nil)))
      (pss_cons (ps_set (i := 2) sc_law.nd rfl (Or.inr rfl) (pe_mk c_way2 hr (by decide) (by rfl) (pa_cons pe_int (pa_cons (pe_mk c_modinit hr (by decide) (by rfl) (pa_cons (pe_lst (pa_cons (pe_tup (pa_cons pe_int (pa_cons pe_int pa_nil))) pa_nil)) pa_nil)) pa_nil))))
      (pss_cons (ps_if (PW.pt (pw_or (pt_cmpR op_ne (pe_c c_numof hr (by decide) (by rfl) (pa_cons (pv 2) (pa_cons pe_int (pa_cons pe_str pa_nil)))) pe_int (nomark _)) (pw_or1 (pt_cmpR op_ne (pe_c c_numof hr (by decide) (by rfl) (pa_cons (pv 2) (pa_cons pe_int (pa_cons (pe_lst (pa_cons pe_int (pa_cons pe_int pa_nil))) pa_nil)))) pe_int (nomark _))))) (pss_one (ps_ret pe_bl)) pss_nil)
      (pss_cons (ps_set (i := 2) sc_law.nd rfl (Or.inr rfl) (pe_mk c_way3 hr (by decide) (by rfl) (pa_cons pe_int (pa_cons (pe_mk c_modinit hr (by decide) (by rfl) (pa_cons (pe_lst (pa_cons (pe_tup (pa_cons pe_int (pa_cons pe_int pa_nil))) pa_nil)) pa_nil)) (pa_cons (pe_mkK0 c_mk1 hr (by decide) (by rfl) (pk_cons pe_bl pk_nil)) pa_nil)))))
      (pss_cons (ps_if (pt_cmpR (op_neD hr.units) (pe_lc (own := [("_law_order", 3)]) (g := gName 3) (tt := tYes) (te := (tCall _ _ _ (tCons (tVar 2) (tCons _ (tCons _ (tCons _ (tCons (tVar 3) tNil))))))) rfl sc_law.nd (pi_range1 (by rfl) T.range (pa_cons pe_int pa_nil)) (blkOk_by (own := [("_law_order", 3)]) (N := ["_law_script", "_law_at", "_law_made", "_law_order"]) (sc := defScope s_law) (by decide +kernel)) (fun _ _ _ _ _ => (pg_name (i := 3) sc_law.nd rfl (Or.inl rfl))) (fun _ _ _ _ _ => pts_nil) (fun _ _ _ _ _ => (pe_cL c_mkdx hr (by decide) (by rfl) (pa_cons (pv 2) (pa_cons pe_int (pa_cons pe_int (pa_cons pe_int (pa_cons (pv 3) pa_nil)))))))) (pe_lst (pa_cons (pe_tup (pa_cons pe_int (pa_cons pe_int (pa_cons pe_int pa_nil)))) (pa_cons (pe_tup (pa_cons pe_int (pa_cons pe_int (pa_cons pe_int pa_nil)))) pa_nil))) (nomark _)) (pss_one (ps_ret pe_bl)) pss_nil)
      (pss_cons (ps_set (i := 2) sc_law.nd rfl (Or.inr rfl) (pe_mk c_way2 hr (by decide) (by rfl) (pa_cons pe_int (pa_cons (pe_mk c_modinit hr (by decide) (by rfl) (pa_cons (pe_lst (pa_cons (pe_tup (pa_cons pe_int (pa_cons pe_int pa_nil))) pa_nil)) pa_nil)) pa_nil))))
      (pss_cons (ps_if (PW.pt (pw_or (pt_cmpR op_ne (pe_cK0 c_cntmK hr (by decide) (by rfl) (pk_cons pe_int (pk_cons pe_int (pk_cons pe_int (pk_cons (pv 2) pk_nil))))) pe_int (nomark _)) (pw_or1 (pt_cmpR op_ne (pe_cK0 c_numofK hr (by decide) (by rfl) (pk_cons (pe_tup (pa_cons pe_int (pa_cons pe_int (pa_cons pe_int pa_nil)))) (pk_cons pe_int (pk_cons (pv 2) pk_nil)))) pe_int (nomark _))))) (pss_one (ps_ret pe_bl)) pss_nil)
      (pss_one (ps_ret (pe_cmpR (op_eqD hr.units) (pe_cLK c_mkdxK hr (by decide) (by rfl) (pk_cons pe_int (pk_cons pe_int (pk_cons pe_int (pk_cons pe_int (pk_cons (pv 2) pk_nil)))))) (pe_tup (pa_cons pe_int (pa_cons pe_int (pa_cons pe_int pa_nil)))) (nomark _))))))))))), ?_⟩
    walk_at "go"
    refine for_range (lo := 0) (fun i σ H' => ∃ (u1 : Option V), σ = [some (.ref a), u1, none, none] ∧ Same H H') ⟨none, rfl, Same.refl _⟩ ?_ ?_
    · rintro i σ H1 hi ⟨u1, rfl, s1⟩
      have hi8 : i ≤ 8 := by split at hi <;> omega
      walk_at "go"
      refine ⟨a, ns, _, rfl, s1.seq hS, by omega, by omega, fun p H2 np s2 pu => ?_⟩
      walk_at "go"
      refine ⟨p, _, rfl, by omega, pu, fun H4 k4 p4 => ?_⟩
      walk_at "go"
      refine iteF ?_
      walk_at "go"
      exact ⟨_, rfl, s1.trans fun b o hb => k4 b o (fun e => by rw [e, np] at hb; cases hb) (s2 _ _ hb)⟩
    · rintro σ H1 ⟨u1, rfl, s1⟩
      clear s1 hS hl hr
      walk_at "go"
      refine al fun t1 H2 _ s2 ht1 => ?_
      walk_at "go"
      refine al fun l1 H3 _ s3 hl1 => ?_
      walk_at "go"
      refine use_modS (ps := [(5, 1)]) ⟨[t1], by walk_at "hp", .cons (hpL ht1 (by walk_at "same")) .nil⟩ ⟨by decide, by decide, by decide, trivial⟩ (small1 (by decide)) fun m1 H4 s4 hm1 => ?_
      walk_at "go"
      refine use_wayN hm1 fun w1 H5 s5 hw1 => ?_
      walk_at "go"
      have N1 : ∀ (v : V) (H6 : Hp) (Q : VK) (E : XK), WayAt c H6 w1 (3 % num [(5, 1)]) [(5, 1)] ⟨false, 0, false⟩ → TextAt H6 v [33, 32] → (∀ H7, Same H6 H7 → Q (.int 270) H7) → spNumberOf c [.ref w1, .int 40, v] H6 Q E := fun v H6 Q E hw ht q => by
        refine ⟨w1, v, 40, _, [33, 32], _, _, rfl, hw, by decide, by decide, by decide, ht, by decide, fun t h => ?_, fun H7 s7 => ?_⟩
        · have : t = 33 ∨ t = 32 := by simpa using h
          omega
        · rw [show Rk (num [(5, 1)]) (40 : Int).toNat (⟨false, 0, false⟩ : Sty).shift (wts (3 % num [(5, 1)]) (num [(5, 1)]) (⟨false, 0, false⟩ : Sty).low ([33, 32] : List Int).length) (mark ⟨false, 0, false⟩ (3 % num [(5, 1)]) (num [(5, 1)]) [33, 32] - ld ⟨false, 0, false⟩ * (3 % num [(5, 1)]) ^ ([33, 32] : List Int).length) [33, 32] = 270 by decide +kernel]
          exact q H7 s7
      refine N1 _ _ _ _ hw1 (.str "! " (by decide) (by decide)) fun H6 s6 => ?_
      walk_at "go"
      rw [decide_eq_true (Eq.refl _)]
      refine iteF ?_
      walk_at "go"
      refine al fun l2 H7 _ s7 hl2 => ?_
      walk_at "go"
      refine N1 _ _ _ _ (by walk_at "hp") (.lst l2 _ hl2 (by decide)) fun H8 s8 => ?_
      walk_at "go"
      rw [decide_eq_true (Eq.refl _)]
      refine iteF ?_
      clear N1 hw1 hm1 hl1 hl2 ht1 s2 s3 s4 s5 s6 s7 s8
      walk_at "go"
      refine al fun t1 H2 _ s2 ht1 => ?_
      walk_at "go"
      refine al fun l1 H3 _ s3 hl1 => ?_
      walk_at "go"
      refine use_modS (ps := [(2, 2)]) ⟨[t1], by walk_at "hp", .cons (hpL ht1 (by walk_at "same")) .nil⟩ ⟨by decide, by decide, by decide, trivial⟩ (small1 (by decide)) fun m1 H4 s4 hm1 => ?_
      walk_at "go"
      refine ⟨rfl, rfl, use_mk fun kg H5 _ s5 hk5 => ?_⟩
      walk_at "go"
      refine use_way (y := ⟨true, 0, false⟩) (hm1.same s5) (.inr ⟨kg, rfl, hk5⟩) fun w1 H6 _ s6 hw1 => ?_
      walk_at "go"
      clear hm1 hk5 hl1 ht1 s2 s3 s4 s5 s6
      intro D hD
      refine lc_rel ((List.range 2).map fun i : Nat => V.int (0 + (i : Int))) (fun x z G => ∃ (p : Addr) (us : List Int) (k : Int), x = .int k ∧ z = .ref p ∧ G p = some (.tup (us.map V.int)) ∧ ((k = 0 ∧ us = [1, 0, 0]) ∨ (k = 1 ∧ us = [1, 0, 1]))) (fun x z G G' sg hz => by obtain ⟨p, us, k, e1, e2, e3, e4⟩ := hz; exact ⟨p, us, k, e1, e2, sg _ _ e3, e4⟩) walk_rangeY hD (fun _ _ => trivial) (by decide) (fun _ => rfl) ?_ ?_
      · rintro i xv H4 hx s4 ⟨acc, hacc⟩ Q' q'
        have hi : i < 2 := by
          have := (List.getElem?_eq_some_iff.mp hx).1
          rwa [List.length_map, List.length_range] at this
        rw [List.getElem?_map, List.getElem?_range hi] at hx
        cases hx
        walk_at "go"
        have e2 : (cnt (num [(2, 2)]) (2 % num [(2, 2)]) (⟨true, 0, false⟩ : Sty).shift (ld ⟨true, 0, false⟩) (2 : Int).toNat 3).getD (1 : Int).toNat 0 = 2 := by decide +kernel
        refine ⟨w1, 2, 1, _, _, 3, _, _, rfl, by walk_at "hp", by decide, by decide, by decide, by decide, by decide, by decide, by omega, (fun _ H5 p us n5 s5 h5 hnt => ?_), fun h => by rw [e2] at h; omega⟩
        have hus : (i = 0 ∧ us = [1, 0, 0]) ∨ (i = 1 ∧ us = [1, 0, 1]) := by
          have hi2 : i = 0 ∨ i = 1 := by omega
          rcases hi2 with e | e
          · subst e
            exact .inl ⟨rfl, txm_nth (N := num [(2, 2)]) (A := 2) (y := ⟨true, 0, false⟩) (b := 2 % num [(2, 2)]) (n := 3) (m := 1) (k := 0) ⟨by decide, by decide⟩ (by decide +kernel) (by decide) hnt⟩
          · subst e
            exact .inr ⟨rfl, txm_nth (N := num [(2, 2)]) (A := 2) (y := ⟨true, 0, false⟩) (b := 2 % num [(2, 2)]) (n := 3) (m := 1) (k := 1) ⟨by decide, by decide⟩ (by decide +kernel) (by decide) hnt⟩
        refine q' _ _ s5 ⟨p, us, _, rfl, rfl, rm_of (fun e => ?_) h5, hus.imp (fun z => ⟨by omega, z.2⟩) (fun z => ⟨by omega, z.2⟩)⟩
        rw [← e, n5] at hacc
        cases hacc
      · intro H7 ys s7 hD7 hpair
        obtain ⟨p1, p2, rfl, h71, h72⟩ : ∃ p1 p2, ys = [V.ref p1, V.ref p2] ∧ H7 p1 = some (.tup (([1, 0, 0] : List Int).map V.int)) ∧ H7 p2 = some (.tup (([1, 0, 1] : List Int).map V.int)) := by
          have hpair : Paired _ [V.int (0 + ((0 : Nat) : Int)), V.int (0 + ((1 : Nat) : Int))] ys := hpair
          cases hpair with
          | cons r1 t1 =>
            cases t1 with
            | cons r2 t2 =>
              cases t2
              obtain ⟨p1, u1, k1, e1, rfl, h1, e3⟩ := r1
              obtain ⟨p2, u2, k2, e4, rfl, h2, e6⟩ := r2
              have k10 := V.int.inj e1
              have k20 := V.int.inj e4
              have f1 : u1 = [1, 0, 0] := by
                rcases e3 with z | z
                · exact z.2
                · omega
              have f2 : u2 = [1, 0, 1] := by
                rcases e6 with z | z
                · omega
                · exact z.2
              subst f1
              subst f2
              exact ⟨p1, p2, rfl, h1, h2⟩
        walk_at "go"
        refine al fun q1 H8 _ s8 hq1 => ?_
        walk_at "go"
        refine al fun q2 H9 _ s9 hq2 => ?_
        walk_at "go"
        refine al fun q3 H10 _ s10 hq3 => ?_
        walk_at "go"
        refine w_neTL (tss := [[1, 0, 0], [1, 0, 1]]) ⟨[p1, p2], s10 _ _ (s9 _ _ (s8 _ _ hD7)), .cons (s10 _ _ (s9 _ _ (s8 _ _ h71))) (.cons (s10 _ _ (s9 _ _ (s8 _ _ h72))) .nil)⟩ ⟨[q1, q2], hq3, .cons (s10 _ _ (s9 _ _ hq1)) (.cons (s10 _ _ hq2) .nil)⟩ ?_
        walk_at "go"
        refine iteF ?_
        clear hpair h71 h72 hD7 hq1 hq2 hq3 s7 s8 s9 s10 hw1
        walk_at "go"
        refine al fun t1 H2 _ s2 ht1 => ?_
        walk_at "go"
        refine al fun l1 H3 _ s3 hl1 => ?_
        walk_at "go"
        refine use_modS (ps := [(3, 1)]) ⟨[t1], by walk_at "hp", .cons (hpL ht1 (by walk_at "same")) .nil⟩ ⟨by decide, by decide, by decide, trivial⟩ (small1 (by decide)) fun m1 H4 s4 hm1 => ?_
        walk_at "go"
        refine use_wayN hm1 fun w1 H5 s5 hw1 => ?_
        walk_at "go"
        refine ⟨rfl, rfl, w1, 2, 0, _, 3, _, _, rfl, hw1, by decide, by decide, by decide, by decide, by decide, by decide, fun H6 s6 => ?_⟩
        rw [show (cnt (num [(3, 1)]) (2 % num [(3, 1)]) (⟨false, 0, false⟩ : Sty).shift (ld ⟨false, 0, false⟩) (2 : Int).toNat 3).getD (0 : Int).toNat 0 = 3 by decide +kernel]
        walk_at "go"
        rw [decide_eq_true (Eq.refl _)]
        refine iteF ?_
        walk_at "go"
        refine al fun q4 H7 _ s7 hq4 => ?_
        walk_at "go"
        refine ⟨rfl, rfl, w1, .ref q4, 2, _, [1, 1, 0], _, _, rfl, by walk_at "hp", by decide, by decide, by decide, .tup q4 _ hq4 (by decide), by decide, fun t h => ?_, fun H8 s8 => ?_⟩
        · have : t = 1 ∨ t = 0 := by simpa using h
          omega
        rw [show Rk (num [(3, 1)]) (2 : Int).toNat (⟨false, 0, false⟩ : Sty).shift (wts (2 % num [(3, 1)]) (num [(3, 1)]) (⟨false, 0, false⟩ : Sty).low ([1, 1, 0] : List Int).length) (mark ⟨false, 0, false⟩ (2 % num [(3, 1)]) (num [(3, 1)]) [1, 1, 0] - ld ⟨false, 0, false⟩ * (2 % num [(3, 1)]) ^ ([1, 1, 0] : List Int).length) [1, 1, 0] = 2 by decide +kernel]
        walk_at "go"
        rw [decide_eq_true (Eq.refl _)]
        refine iteF ?_
        walk_at "go"
        have e3 : (cnt (num [(3, 1)]) (2 % num [(3, 1)]) (⟨false, 0, false⟩ : Sty).shift (ld ⟨false, 0, false⟩) (2 : Int).toNat 3).getD (0 : Int).toNat 0 = 3 := by decide +kernel
        refine ⟨rfl, rfl, w1, 2, 0, 1, _, 3, _, _, rfl, by walk_at "hp", by decide, by decide, by decide, by decide, by decide, by decide, by decide, (fun _ H9 p us n9 s9 h9 hnt => ?_), fun h => by rw [e3] at h; omega⟩
        have hus : us = [0, 1, 1] := txm_nth (N := num [(3, 1)]) (A := 2) (y := ⟨false, 0, false⟩) (b := 2 % num [(3, 1)]) (n := 3) (m := 0) (k := 1) ⟨by decide, by decide⟩ (by decide +kernel) (by decide) hnt
        subst hus
        walk_at "go"
        refine al fun q5 H10 _ s10 hq5 => ?_
        walk_at "go"
        refine w_eqTT (ls := [0, 1, 1]) (ms := [0, 1, 1]) (sqt (s10 _ _ h9)) (sqt hq5) ?_
        rw [decide_eq_true (Eq.refl _)]
        exact k _

end
end Lw
namespace Lw
open PySem PySem.Spec PyProof.Rows L2 Bc
theorem all_mk {l : PySem.W.OpenLaw} {w : World} {K : PySem.W.Frag} {h : Heap} {mg : Str → Option Value} {fa Cm Ck Cw f1 f2 f3 f4 f5 f6 f7 f8 f9 f10 f11 f12 f13 f14 f15 f16 f17 f18 f19 f20 f21 f22 f23 f24 f25 f26 f27 f28 f29 f30 f31 f32 f33 D33 f34 f35 T35 f36 f37 Cs f38 f39 f40 f41 f42 f43 f44 Cn f45 f46 f47 : Addr} (X : K.In h) (G : h.Ns mainGlobals mg) (hfa : mg "law" = some (.ref fa))
    {od1 an1 : Option Addr} {sl1 : Array (Option Value)} {oc1 dc1 pm1 cd1 ct1 : Value}
    {kV1 : Value}
    {od2 an2 : Option Addr} {sl2 : Array (Option Value)} {oc2 dc2 pm2 cd2 ct2 : Value}
    {kV2 : Value}
    {od3 an3 : Option Addr} {sl3 : Array (Option Value)} {oc3 dc3 pm3 cd3 ct3 : Value}
    {kV3 : Value}
    {od4 an4 : Option Addr} {sl4 : Array (Option Value)} {oc4 dc4 pm4 cd4 ct4 : Value}
    {kV4 : Value}
    {od5 an5 : Option Addr} {sl5 : Array (Option Value)} {oc5 dc5 pm5 cd5 ct5 : Value}
    {kV5 : Value}
    {od6 an6 : Option Addr} {sl6 : Array (Option Value)} {oc6 dc6 pm6 cd6 ct6 : Value}
    {kV6 : Value}
    {od7 an7 : Option Addr} {sl7 : Array (Option Value)} {oc7 dc7 pm7 cd7 ct7 : Value}
    {kV7 : Value}
    {od8 an8 : Option Addr} {sl8 : Array (Option Value)} {oc8 dc8 pm8 cd8 ct8 : Value}
    {kV8 : Value}
    {od9 an9 : Option Addr} {sl9 : Array (Option Value)} {oc9 dc9 pm9 cd9 ct9 : Value}
    {kV9 : Value}
    {od10 an10 : Option Addr} {sl10 : Array (Option Value)} {oc10 dc10 pm10 cd10 ct10 : Value}
    {kV10 : Value}
    {od11 an11 : Option Addr} {sl11 : Array (Option Value)} {oc11 dc11 pm11 cd11 ct11 : Value}
    {kV11 : Value}
    {od12 an12 : Option Addr} {sl12 : Array (Option Value)} {oc12 dc12 pm12 cd12 ct12 : Value}
    {kV12 : Value}
    {od13 an13 : Option Addr} {sl13 : Array (Option Value)} {oc13 dc13 pm13 cd13 ct13 : Value}
    {kV13 : Value}
    {od14 an14 : Option Addr} {sl14 : Array (Option Value)} {oc14 dc14 pm14 cd14 ct14 : Value}
    {kV14 : Value}
    {od15 an15 : Option Addr} {sl15 : Array (Option Value)} {oc15 dc15 pm15 cd15 ct15 : Value}
    {kV15 : Value}
    {od16 an16 : Option Addr} {sl16 : Array (Option Value)} {oc16 dc16 pm16 cd16 ct16 : Value}
    {kV16 : Value}
    {od17 an17 : Option Addr} {sl17 : Array (Option Value)} {oc17 dc17 pm17 cd17 ct17 : Value}
    {kV17 : Value}
    {od18 an18 : Option Addr} {sl18 : Array (Option Value)} {oc18 dc18 pm18 cd18 ct18 : Value}
    {kV18 : Value}
    {od19 an19 : Option Addr} {sl19 : Array (Option Value)} {oc19 dc19 pm19 cd19 ct19 : Value}
    {kV19 : Value}
    {od20 an20 : Option Addr} {sl20 : Array (Option Value)} {oc20 dc20 pm20 cd20 ct20 : Value}
    {kV20 : Value}
    {od21 an21 : Option Addr} {sl21 : Array (Option Value)} {oc21 dc21 pm21 cd21 ct21 : Value}
    {kV21 : Value}
    {od22 an22 : Option Addr} {sl22 : Array (Option Value)} {oc22 dc22 pm22 cd22 ct22 : Value}
    {kV22 : Value}
    {od23 an23 : Option Addr} {sl23 : Array (Option Value)} {oc23 dc23 pm23 cd23 ct23 : Value}
    {kV23 : Value}
    {od24 an24 : Option Addr} {sl24 : Array (Option Value)} {oc24 dc24 pm24 cd24 ct24 : Value}
    {kV24 : Value}
    {od25 an25 : Option Addr} {sl25 : Array (Option Value)} {oc25 dc25 pm25 cd25 ct25 : Value}
    {kV25 : Value}
    {od26 an26 : Option Addr} {sl26 : Array (Option Value)} {oc26 dc26 pm26 cd26 ct26 : Value}
    {kV26 : Value}
    {od27 an27 : Option Addr} {sl27 : Array (Option Value)} {oc27 dc27 pm27 cd27 ct27 : Value}
    {kV27 : Value}
    {od28 an28 : Option Addr} {sl28 : Array (Option Value)} {oc28 dc28 pm28 cd28 ct28 : Value}
    {kV28 : Value}
    {od29 an29 : Option Addr} {sl29 : Array (Option Value)} {oc29 dc29 pm29 cd29 ct29 : Value}
    {kV29 : Value}
    {od30 an30 : Option Addr} {sl30 : Array (Option Value)} {oc30 dc30 pm30 cd30 ct30 : Value}
    {kV30 : Value}
    {od31 an31 : Option Addr} {sl31 : Array (Option Value)} {oc31 dc31 pm31 cd31 ct31 : Value}
    {kV31 : Value}
    {od32 an32 : Option Addr} {sl32 : Array (Option Value)} {oc32 dc32 pm32 cd32 ct32 : Value}
    {kV32 : Value}
    {od33 an33 : Option Addr} {sl33 : Array (Option Value)} {oc33 dc33 pm33 cd33 ct33 : Value}
    {tk33_1 : Tok}
    {od34 an34 : Option Addr} {sl34 : Array (Option Value)} {oc34 dc34 pm34 cd34 ct34 : Value}
    {kV34 : Value}
    {od35 an35 : Option Addr} {sl35 : Array (Option Value)} {oc35 dc35 pm35 cd35 ct35 : Value}
    {kV35 : Value}
    {To35 : Value} {Td35 : Option Addr} {Tn35 : Nat} {Ts35 : Array (Option Value)}
    {od36 an36 : Option Addr} {sl36 : Array (Option Value)} {oc36 dc36 pm36 cd36 ct36 : Value}
    {kV36 : Value}
    {od37 an37 : Option Addr} {sl37 : Array (Option Value)} {oc37 dc37 pm37 cd37 ct37 : Value}
    {kV37 : Value}
    {od38 an38 : Option Addr} {sl38 : Array (Option Value)} {oc38 dc38 pm38 cd38 ct38 : Value}
    {kV38 : Value}
    {od39 an39 : Option Addr} {sl39 : Array (Option Value)} {oc39 dc39 pm39 cd39 ct39 : Value}
    {kV39 : Value}
    {od40 an40 : Option Addr} {sl40 : Array (Option Value)} {oc40 dc40 pm40 cd40 ct40 : Value}
    {kV40 : Value}
    {od41 an41 : Option Addr} {sl41 : Array (Option Value)} {oc41 dc41 pm41 cd41 ct41 : Value}
    {kV41 : Value}
    {od42 an42 : Option Addr} {sl42 : Array (Option Value)} {oc42 dc42 pm42 cd42 ct42 : Value}
    {kV42 : Value}
    {od43 an43 : Option Addr} {sl43 : Array (Option Value)} {oc43 dc43 pm43 cd43 ct43 : Value}
    {kV43 : Value}
    {od44 an44 : Option Addr} {sl44 : Array (Option Value)} {oc44 dc44 pm44 cd44 ct44 : Value}
    {kV44 : Value}
    {nmCn qCn : Str} {NCn BCCn : Addr} {bsCn : List Value} {snCn : List Str} {subCn : List Value} {abCn : Bool} {colCn : Option Bool} {ddCn : Option Addr} {e0Cn e1Cn e2Cn e3Cn e5Cn : Option Value}
    {od45 an45 : Option Addr} {sl45 : Array (Option Value)} {oc45 dc45 pm45 cd45 ct45 : Value}
    {kV45 : Value}
    {od46 an46 : Option Addr} {sl46 : Array (Option Value)} {oc46 dc46 pm46 cd46 ct46 : Value}
    {kV46 : Value}
    {od47 an47 : Option Addr} {sl47 : Array (Option Value)} {oc47 dc47 pm47 cd47 ct47 : Value}
    {kV47 : Value}
    (z_len : PySem.W.nsIn K mainGlobals "len" = some none)
    (z_int : PySem.W.nsIn K mainGlobals "int" = some none)
    (z_abs : PySem.W.nsIn K mainGlobals "abs" = some none)
    (z_max : PySem.W.nsIn K mainGlobals "max" = some none)
    (z_min : PySem.W.nsIn K mainGlobals "min" = some none)
    (z_range : PySem.W.nsIn K mainGlobals "range" = some none)
    (z_isinstance : PySem.W.nsIn K mainGlobals "isinstance" = some none)
    (z_list : PySem.W.nsIn K mainGlobals "list" = some none)
    (z_tuple : PySem.W.nsIn K mainGlobals "tuple" = some none)
    (z_str : PySem.W.nsIn K mainGlobals "str" = some none)
    (z_bool : PySem.W.nsIn K mainGlobals "bool" = some none)
    (z_ord : PySem.W.nsIn K mainGlobals "ord" = some none)
    (z_all : PySem.W.nsIn K mainGlobals "all" = some none)
    (z_enumerate : PySem.W.nsIn K mainGlobals "enumerate" = some none)
    (z_zip : PySem.W.nsIn K mainGlobals "zip" = some none)
    (mCm : PySem.W.nsIn K mainGlobals "Modulus" = some (some (.ref Cm)))
    (pgCm : PySem.W.plainGet K Cm Str.empty = true)
    (hdCm : PySem.W.hasDictIn K Cm = true)
    (poCm : PySem.W.plainOver K Cm = true)
    (saCm : PySem.W.findIn K (.ref Cm) "__setattr__" = some (some (.builtin "object.__setattr__")))
    (haCm : PySem.W.findIn K (.ref Cm) "__class__" = some (some (.builtin "object.__class__")))
    (hmCm : PySem.W.mroIn K Cm (.type "object") = some true)
    (mkCm : PySem.W.makesIn K Cm = true)
    (kcCm : PySem.W.keepIn K (.ref Cm) = true)
    (objhn : PySem.W.specialIn K (.builtin "object.__class__") "__get__" = some (some (.builtin "getset_descriptor.__get__")))
    (objht : PySem.W.takesIn K (.builtin "object.__class__") = some true)
    (mCk : PySem.W.nsIn K mainGlobals "Marking" = some (some (.ref Ck)))
    (pgCk : PySem.W.plainGet K Ck Str.empty = true)
    (hdCk : PySem.W.hasDictIn K Ck = true)
    (poCk : PySem.W.plainOver K Ck = true)
    (saCk : PySem.W.findIn K (.ref Ck) "__setattr__" = some (some (.builtin "object.__setattr__")))
    (haCk : PySem.W.findIn K (.ref Ck) "__class__" = some (some (.builtin "object.__class__")))
    (hmCk : PySem.W.mroIn K Ck (.type "object") = some true)
    (mkCk : PySem.W.makesIn K Ck = true)
    (kcCk : PySem.W.keepIn K (.ref Ck) = true)
    (mCw : PySem.W.nsIn K mainGlobals "Way" = some (some (.ref Cw)))
    (pgCw : PySem.W.plainGet K Cw Str.empty = true)
    (hdCw : PySem.W.hasDictIn K Cw = true)
    (poCw : PySem.W.plainOver K Cw = true)
    (saCw : PySem.W.findIn K (.ref Cw) "__setattr__" = some (some (.builtin "object.__setattr__")))
    (haCw : PySem.W.findIn K (.ref Cw) "__class__" = some (some (.builtin "object.__class__")))
    (hmCw : PySem.W.mroIn K Cw (.type "object") = some true)
    (mkCw : PySem.W.makesIn K Cw = true)
    (kcCw : PySem.W.keepIn K (.ref Cw) = true)
    (nCm_number : PySem.W.findIn K (.ref Cm) "number" = some none)
    (nCm_factors : PySem.W.findIn K (.ref Cm) "factors" = some none)
    (nCk_low : PySem.W.findIn K (.ref Ck) "low" = some none)
    (nCk_shift : PySem.W.findIn K (.ref Ck) "shift" = some none)
    (nCk_lead : PySem.W.findIn K (.ref Ck) "lead" = some none)
    (nCw_marking : PySem.W.findIn K (.ref Cw) "marking" = some none)
    (nCw_modulus : PySem.W.findIn K (.ref Cw) "modulus" = some none)
    (nCw_number : PySem.W.findIn K (.ref Cw) "number" = some none)
    (nCw_base : PySem.W.findIn K (.ref Cw) "base" = some none)
    (a1 : PySem.W.nsIn K mainGlobals "is_integer" = some (some (.ref f1)))
    (l1 : K.lookup f1 = some ⟨oc1, od1, .func (PySem.W.fnOf "is_integer" "is_integer" (defArgs s_isint) (defBody s_isint) (defScope s_isint) .none kV1 dc1 pm1 an1 cd1 ct1), sl1⟩)
    (c1 : PySem.W.codeIn K cd1 "is_integer" = true)
    (k1 : PySem.W.keepIn K (.ref f1) = true)
    (a2 : PySem.W.nsIn K mainGlobals "raised" = some (some (.ref f2)))
    (l2 : K.lookup f2 = some ⟨oc2, od2, .func (PySem.W.fnOf "raised" "raised" (defArgs s_raised) (defBody s_raised) (defScope s_raised) .none kV2 dc2 pm2 an2 cd2 ct2), sl2⟩)
    (c2 : PySem.W.codeIn K cd2 "raised" = true)
    (k2 : PySem.W.keepIn K (.ref f2) = true)
    (a3 : PySem.W.nsIn K mainGlobals "is_prime_number" = some (some (.ref f3)))
    (l3 : K.lookup f3 = some ⟨oc3, od3, .func (PySem.W.fnOf "is_prime_number" "is_prime_number" (defArgs s_prime) (defBody s_prime) (defScope s_prime) .none kV3 dc3 pm3 an3 cd3 ct3), sl3⟩)
    (c3 : PySem.W.codeIn K cd3 "is_prime_number" = true)
    (k3 : PySem.W.keepIn K (.ref f3) = true)
    (a4 : PySem.W.nsIn K mainGlobals "is_factor" = some (some (.ref f4)))
    (l4 : K.lookup f4 = some ⟨oc4, od4, .func (PySem.W.fnOf "is_factor" "is_factor" (defArgs s_isfac) (defBody s_isfac) (defScope s_isfac) .none kV4 dc4 pm4 an4 cd4 ct4), sl4⟩)
    (c4 : PySem.W.codeIn K cd4 "is_factor" = true)
    (k4 : PySem.W.keepIn K (.ref f4) = true)
    (a5 : PySem.W.nsIn K mainGlobals "require_modulus" = some (some (.ref f5)))
    (l5 : K.lookup f5 = some ⟨oc5, od5, .func (PySem.W.fnOf "require_modulus" "require_modulus" (defArgs s_reqmod) (defBody s_reqmod) (defScope s_reqmod) .none kV5 dc5 pm5 an5 cd5 ct5), sl5⟩)
    (c5 : PySem.W.codeIn K cd5 "require_modulus" = true)
    (k5 : PySem.W.keepIn K (.ref f5) = true)
    (a6 : PySem.W.nsIn K mainGlobals "is_text" = some (some (.ref f6)))
    (l6 : K.lookup f6 = some ⟨oc6, od6, .func (PySem.W.fnOf "is_text" "is_text" (defArgs s_istext) (defBody s_istext) (defScope s_istext) .none kV6 dc6 pm6 an6 cd6 ct6), sl6⟩)
    (c6 : PySem.W.codeIn K cd6 "is_text" = true)
    (k6 : PySem.W.keepIn K (.ref f6) = true)
    (a7 : PySem.W.nsIn K mainGlobals "read" = some (some (.ref f7)))
    (l7 : K.lookup f7 = some ⟨oc7, od7, .func (PySem.W.fnOf "read" "read" (defArgs s_read) (defBody s_read) (defScope s_read) .none kV7 dc7 pm7 an7 cd7 ct7), sl7⟩)
    (c7 : PySem.W.codeIn K cd7 "read" = true)
    (k7 : PySem.W.keepIn K (.ref f7) = true)
    (a8 : PySem.W.nsIn K mainGlobals "require_text" = some (some (.ref f8)))
    (l8 : K.lookup f8 = some ⟨oc8, od8, .func (PySem.W.fnOf "require_text" "require_text" (defArgs s_reqtext) (defBody s_reqtext) (defScope s_reqtext) .none kV8 dc8 pm8 an8 cd8 ct8), sl8⟩)
    (c8 : PySem.W.codeIn K cd8 "require_text" = true)
    (k8 : PySem.W.keepIn K (.ref f8) = true)
    (a9 : PySem.W.nsIn K mainGlobals "marking_of" = some (some (.ref f9)))
    (l9 : K.lookup f9 = some ⟨oc9, od9, .func (PySem.W.fnOf "marking_of" "marking_of" (defArgs s_mkof) (defBody s_mkof) (defScope s_mkof) .none kV9 dc9 pm9 an9 cd9 ct9), sl9⟩)
    (c9 : PySem.W.codeIn K cd9 "marking_of" = true)
    (k9 : PySem.W.keepIn K (.ref f9) = true)
    (a10 : PySem.W.nsIn K mainGlobals "rest_at" = some (some (.ref f10)))
    (l10 : K.lookup f10 = some ⟨oc10, od10, .func (PySem.W.fnOf "rest_at" "rest_at" (defArgs s_restat) (defBody s_restat) (defScope s_restat) .none kV10 dc10 pm10 an10 cd10 ct10), sl10⟩)
    (c10 : PySem.W.codeIn K cd10 "rest_at" = true)
    (k10 : PySem.W.keepIn K (.ref f10) = true)
    (a11 : PySem.W.nsIn K mainGlobals "_law_mixed" = some (some (.ref f11)))
    (l11 : K.lookup f11 = some ⟨oc11, od11, .func (PySem.W.fnOf "_law_mixed" "_law_mixed" (defArgs s_mixed) (defBody s_mixed) (defScope s_mixed) .none kV11 dc11 pm11 an11 cd11 ct11), sl11⟩)
    (c11 : PySem.W.codeIn K cd11 "_law_mixed" = true)
    (k11 : PySem.W.keepIn K (.ref f11) = true)
    (a12 : PySem.W.nsIn K mainGlobals "_law_purse" = some (some (.ref f12)))
    (l12 : K.lookup f12 = some ⟨oc12, od12, .func (PySem.W.fnOf "_law_purse" "_law_purse" (defArgs s_purse) (defBody s_purse) (defScope s_purse) .none kV12 dc12 pm12 an12 cd12 ct12), sl12⟩)
    (c12 : PySem.W.codeIn K cd12 "_law_purse" = true)
    (k12 : PySem.W.keepIn K (.ref f12) = true)
    (a13 : PySem.W.nsIn K mainGlobals "_law_draw" = some (some (.ref f13)))
    (l13 : K.lookup f13 = some ⟨oc13, od13, .func (PySem.W.fnOf "_law_draw" "_law_draw" (defArgs s_draw) (defBody s_draw) (defScope s_draw) .none kV13 dc13 pm13 an13 cd13 ct13), sl13⟩)
    (c13 : PySem.W.codeIn K cd13 "_law_draw" = true)
    (k13 : PySem.W.keepIn K (.ref f13) = true)
    (a14 : PySem.W.nsIn K mainGlobals "_law_great" = some (some (.ref f14)))
    (l14 : K.lookup f14 = some ⟨oc14, od14, .func (PySem.W.fnOf "_law_great" "_law_great" (defArgs s_great) (defBody s_great) (defScope s_great) .none kV14 dc14 pm14 an14 cd14 ct14), sl14⟩)
    (c14 : PySem.W.codeIn K cd14 "_law_great" = true)
    (k14 : PySem.W.keepIn K (.ref f14) = true)
    (a15 : PySem.W.nsIn K mainGlobals "_law_style" = some (some (.ref f15)))
    (l15 : K.lookup f15 = some ⟨oc15, od15, .func (PySem.W.fnOf "_law_style" "_law_style" (defArgs s_style) (defBody s_style) (defScope s_style) .none kV15 dc15 pm15 an15 cd15 ct15), sl15⟩)
    (c15 : PySem.W.codeIn K cd15 "_law_style" = true)
    (k15 : PySem.W.keepIn K (.ref f15) = true)
    (a16 : PySem.W.nsIn K mainGlobals "_law_marking" = some (some (.ref f16)))
    (l16 : K.lookup f16 = some ⟨oc16, od16, .func (PySem.W.fnOf "_law_marking" "_law_marking" (defArgs s_marking) (defBody s_marking) (defScope s_marking) .none kV16 dc16 pm16 an16 cd16 ct16), sl16⟩)
    (c16 : PySem.W.codeIn K cd16 "_law_marking" = true)
    (k16 : PySem.W.keepIn K (.ref f16) = true)
    (a17 : PySem.W.nsIn K mainGlobals "_law_root" = some (some (.ref f17)))
    (l17 : K.lookup f17 = some ⟨oc17, od17, .func (PySem.W.fnOf "_law_root" "_law_root" (defArgs s_root) (defBody s_root) (defScope s_root) .none kV17 dc17 pm17 an17 cd17 ct17), sl17⟩)
    (c17 : PySem.W.codeIn K cd17 "_law_root" = true)
    (k17 : PySem.W.keepIn K (.ref f17) = true)
    (a18 : PySem.W.nsIn K mainGlobals "require_way" = some (some (.ref f18)))
    (l18 : K.lookup f18 = some ⟨oc18, od18, .func (PySem.W.fnOf "require_way" "require_way" (defArgs s_reqway) (defBody s_reqway) (defScope s_reqway) .none kV18 dc18 pm18 an18 cd18 ct18), sl18⟩)
    (c18 : PySem.W.codeIn K cd18 "require_way" = true)
    (k18 : PySem.W.keepIn K (.ref f18) = true)
    (a19 : PySem.W.nsIn K mainGlobals "require_stock" = some (some (.ref f19)))
    (l19 : K.lookup f19 = some ⟨oc19, od19, .func (PySem.W.fnOf "require_stock" "require_stock" (defArgs s_reqstock) (defBody s_reqstock) (defScope s_reqstock) .none kV19 dc19 pm19 an19 cd19 ct19), sl19⟩)
    (c19 : PySem.W.codeIn K cd19 "require_stock" = true)
    (k19 : PySem.W.keepIn K (.ref f19) = true)
    (a20 : PySem.W.nsIn K mainGlobals "require_length" = some (some (.ref f20)))
    (l20 : K.lookup f20 = some ⟨oc20, od20, .func (PySem.W.fnOf "require_length" "require_length" (defArgs s_reqlen) (defBody s_reqlen) (defScope s_reqlen) .none kV20 dc20 pm20 an20 cd20 ct20), sl20⟩)
    (c20 : PySem.W.codeIn K cd20 "require_length" = true)
    (k20 : PySem.W.keepIn K (.ref f20) = true)
    (a21 : PySem.W.nsIn K mainGlobals "require_mark" = some (some (.ref f21)))
    (l21 : K.lookup f21 = some ⟨oc21, od21, .func (PySem.W.fnOf "require_mark" "require_mark" (defArgs s_reqmark) (defBody s_reqmark) (defScope s_reqmark) .none kV21 dc21 pm21 an21 cd21 ct21), sl21⟩)
    (c21 : PySem.W.codeIn K cd21 "require_mark" = true)
    (k21 : PySem.W.keepIn K (.ref f21) = true)
    (a22 : PySem.W.nsIn K mainGlobals "power_rest" = some (some (.ref f22)))
    (l22 : K.lookup f22 = some ⟨oc22, od22, .func (PySem.W.fnOf "power_rest" "power_rest" (defArgs s_power) (defBody s_power) (defScope s_power) .none kV22 dc22 pm22 an22 cd22 ct22), sl22⟩)
    (c22 : PySem.W.codeIn K cd22 "power_rest" = true)
    (k22 : PySem.W.keepIn K (.ref f22) = true)
    (a23 : PySem.W.nsIn K mainGlobals "weights_of" = some (some (.ref f23)))
    (l23 : K.lookup f23 = some ⟨oc23, od23, .func (PySem.W.fnOf "weights_of" "weights_of" (defArgs s_wtsof) (defBody s_wtsof) (defScope s_wtsof) .none kV23 dc23 pm23 an23 cd23 ct23), sl23⟩)
    (c23 : PySem.W.codeIn K cd23 "weights_of" = true)
    (k23 : PySem.W.keepIn K (.ref f23) = true)
    (a24 : PySem.W.nsIn K mainGlobals "counts_of" = some (some (.ref f24)))
    (l24 : K.lookup f24 = some ⟨oc24, od24, .func (PySem.W.fnOf "counts_of" "counts_of" (defArgs s_countsof) (defBody s_countsof) (defScope s_countsof) .none kV24 dc24 pm24 an24 cd24 ct24), sl24⟩)
    (c24 : PySem.W.codeIn K cd24 "counts_of" = true)
    (k24 : PySem.W.keepIn K (.ref f24) = true)
    (a25 : PySem.W.nsIn K mainGlobals "_law_modulus" = some (some (.ref f25)))
    (l25 : K.lookup f25 = some ⟨oc25, od25, .func (PySem.W.fnOf "_law_modulus" "_law_modulus" (defArgs s_mod2) (defBody s_mod2) (defScope s_mod2) .none kV25 dc25 pm25 an25 cd25 ct25), sl25⟩)
    (c25 : PySem.W.codeIn K cd25 "_law_modulus" = true)
    (k25 : PySem.W.keepIn K (.ref f25) = true)
    (a26 : PySem.W.nsIn K mainGlobals "_law_sum" = some (some (.ref f26)))
    (l26 : K.lookup f26 = some ⟨oc26, od26, .func (PySem.W.fnOf "_law_sum" "_law_sum" (defArgs s_sum) (defBody s_sum) (defScope s_sum) .none kV26 dc26 pm26 an26 cd26 ct26), sl26⟩)
    (c26 : PySem.W.codeIn K cd26 "_law_sum" = true)
    (k26 : PySem.W.keepIn K (.ref f26) = true)
    (a27 : PySem.W.nsIn K mainGlobals "_law_texts" = some (some (.ref f27)))
    (l27 : K.lookup f27 = some ⟨oc27, od27, .func (PySem.W.fnOf "_law_texts" "_law_texts" (defArgs s_txts) (defBody s_txts) (defScope s_txts) .none kV27 dc27 pm27 an27 cd27 ct27), sl27⟩)
    (c27 : PySem.W.codeIn K cd27 "_law_texts" = true)
    (k27 : PySem.W.keepIn K (.ref f27) = true)
    (a28 : PySem.W.nsIn K mainGlobals "_law_many" = some (some (.ref f28)))
    (l28 : K.lookup f28 = some ⟨oc28, od28, .func (PySem.W.fnOf "_law_many" "_law_many" (defArgs s_many63) (defBody s_many63) (defScope s_many63) .none kV28 dc28 pm28 an28 cd28 ct28), sl28⟩)
    (c28 : PySem.W.codeIn K cd28 "_law_many" = true)
    (k28 : PySem.W.keepIn K (.ref f28) = true)
    (a29 : PySem.W.nsIn K mainGlobals "_law_caught" = some (some (.ref f29)))
    (l29 : K.lookup f29 = some ⟨oc29, od29, .func (PySem.W.fnOf "_law_caught" "_law_caught" (defArgs s_caught63) (defBody s_caught63) (defScope s_caught63) .none kV29 dc29 pm29 an29 cd29 ct29), sl29⟩)
    (c29 : PySem.W.codeIn K cd29 "_law_caught" = true)
    (k29 : PySem.W.keepIn K (.ref f29) = true)
    (a30 : PySem.W.nsIn K mainGlobals "_law_one_right" = some (some (.ref f30)))
    (l30 : K.lookup f30 = some ⟨oc30, od30, .func (PySem.W.fnOf "_law_one_right" "_law_one_right" (defArgs s_one63) (defBody s_one63) (defScope s_one63) .none kV30 dc30 pm30 an30 cd30 ct30), sl30⟩)
    (c30 : PySem.W.codeIn K cd30 "_law_one_right" = true)
    (k30 : PySem.W.keepIn K (.ref f30) = true)
    (a31 : PySem.W.nsIn K mainGlobals "_law_right" = some (some (.ref f31)))
    (l31 : K.lookup f31 = some ⟨oc31, od31, .func (PySem.W.fnOf "_law_right" "_law_right" (defArgs s_right) (defBody s_right) (defScope s_right) .none kV31 dc31 pm31 an31 cd31 ct31), sl31⟩)
    (c31 : PySem.W.codeIn K cd31 "_law_right" = true)
    (k31 : PySem.W.keepIn K (.ref f31) = true)
    (a32 : PySem.W.findIn K (.ref Cm) "__init__" = some (some (.ref f32)))
    (i32 : PySem.W.isFn K (.ref f32) = true)
    (l32 : K.lookup f32 = some ⟨oc32, od32, .func (PySem.W.fnOf "__init__" "Modulus.__init__" (defArgs s_modinit) (defBody s_modinit) (defScope s_modinit) .none kV32 dc32 pm32 an32 cd32 ct32), sl32⟩)
    (c32 : PySem.W.codeIn K cd32 "Modulus.__init__" = true)
    (k32 : PySem.W.keepIn K (.ref f32) = true)
    (a33 : PySem.W.findIn K (.ref Ck) "__init__" = some (some (.ref f33)))
    (i33 : PySem.W.isFn K (.ref f33) = true)
    (l33 : K.lookup f33 = some ⟨oc33, od33, .func (PySem.W.fnOf "__init__" "Marking.__init__" (defArgs s_mkinit) (defBody s_mkinit) (defScope s_mkinit) .none (.ref D33) dc33 pm33 an33 cd33 ct33), sl33⟩)
    (c33 : PySem.W.codeIn K cd33 "Marking.__init__" = true)
    (k33 : PySem.W.keepIn K (.ref f33) = true)
    (d33_0 : PySem.W.nsIn K D33 "low" = some (some (.bool false)))
    (d33_1 : PySem.W.nsIn K D33 "shift" = some (some (.int 0 tk33_1)))
    (d33_2 : PySem.W.nsIn K D33 "lead" = some (some (.bool false)))
    (a34 : PySem.W.findIn K (.ref Ck) "highest_first" = some (some (.ref f34)))
    (i34 : PySem.W.isFn K (.ref f34) = true)
    (l34 : K.lookup f34 = some ⟨oc34, od34, .func (PySem.W.fnOf "highest_first" "Marking.highest_first" (defArgs s_hf) (defBody s_hf) (defScope s_hf) .none kV34 dc34 pm34 an34 cd34 ct34), sl34⟩)
    (c34 : PySem.W.codeIn K cd34 "Marking.highest_first" = true)
    (k34 : PySem.W.keepIn K (.ref f34) = true)
    (a35 : PySem.W.findIn K (.ref Cw) "__init__" = some (some (.ref f35)))
    (i35 : PySem.W.isFn K (.ref f35) = true)
    (l35 : K.lookup f35 = some ⟨oc35, od35, .func (PySem.W.fnOf "__init__" "Way.__init__" (defArgs s_wayinit) (defBody s_wayinit) (defScope s_wayinit) (.ref T35) kV35 dc35 pm35 an35 cd35 ct35), sl35⟩)
    (c35 : PySem.W.codeIn K cd35 "Way.__init__" = true)
    (k35 : PySem.W.keepIn K (.ref f35) = true)
    (t35 : K.lookup T35 = some ⟨To35, Td35, .seq [.none].toArray Tn35, Ts35⟩)
    (a36 : PySem.W.findIn K (.ref Cw) "of_letters" = some (some (.ref f36)))
    (i36 : PySem.W.isFn K (.ref f36) = true)
    (l36 : K.lookup f36 = some ⟨oc36, od36, .func (PySem.W.fnOf "of_letters" "Way.of_letters" (defArgs s_ofl) (defBody s_ofl) (defScope s_ofl) .none kV36 dc36 pm36 an36 cd36 ct36), sl36⟩)
    (c36 : PySem.W.codeIn K cd36 "Way.of_letters" = true)
    (k36 : PySem.W.keepIn K (.ref f36) = true)
    (a37 : PySem.W.findIn K (.ref Cw) "__call__" = some (some (.ref f37)))
    (i37 : PySem.W.isFn K (.ref f37) = true)
    (l37 : K.lookup f37 = some ⟨oc37, od37, .func (PySem.W.fnOf "__call__" "Way.__call__" (defArgs s_call) (defBody s_call) (defScope s_call) .none kV37 dc37 pm37 an37 cd37 ct37), sl37⟩)
    (c37 : PySem.W.codeIn K cd37 "Way.__call__" = true)
    (k37 : PySem.W.keepIn K (.ref f37) = true)
    (mCs : PySem.W.nsIn K mainGlobals "Sorted" = some (some (.ref Cs)))
    (pgCs : PySem.W.plainGet K Cs Str.empty = true)
    (hdCs : PySem.W.hasDictIn K Cs = true)
    (poCs : PySem.W.plainOver K Cs = true)
    (saCs : PySem.W.findIn K (.ref Cs) "__setattr__" = some (some (.builtin "object.__setattr__")))
    (haCs : PySem.W.findIn K (.ref Cs) "__class__" = some (some (.builtin "object.__class__")))
    (hmCs : PySem.W.mroIn K Cs (.type "object") = some true)
    (mkCs : PySem.W.makesIn K Cs = true)
    (kcCs : PySem.W.keepIn K (.ref Cs) = true)
    (nCs_way : PySem.W.findIn K (.ref Cs) "way" = some none)
    (nCs_stock : PySem.W.findIn K (.ref Cs) "stock" = some none)
    (nCs_scales : PySem.W.findIn K (.ref Cs) "scales" = some none)
    (nCs_lead : PySem.W.findIn K (.ref Cs) "lead" = some none)
    (nCs_counts : PySem.W.findIn K (.ref Cs) "counts" = some none)
    (a38 : PySem.W.findIn K (.ref Cs) "summand" = some (some (.ref f38)))
    (i38 : PySem.W.isFn K (.ref f38) = true)
    (l38 : K.lookup f38 = some ⟨oc38, od38, .func (PySem.W.fnOf "summand" "Sorted.summand" (defArgs s_summ) (defBody s_summ) (defScope s_summ) .none kV38 dc38 pm38 an38 cd38 ct38), sl38⟩)
    (c38 : PySem.W.codeIn K cd38 "Sorted.summand" = true)
    (k38 : PySem.W.keepIn K (.ref f38) = true)
    (a39 : PySem.W.findIn K (.ref Cs) "counted_ahead" = some (some (.ref f39)))
    (i39 : PySem.W.isFn K (.ref f39) = true)
    (l39 : K.lookup f39 = some ⟨oc39, od39, .func (PySem.W.fnOf "counted_ahead" "Sorted.counted_ahead" (defArgs s_ahead) (defBody s_ahead) (defScope s_ahead) .none kV39 dc39 pm39 an39 cd39 ct39), sl39⟩)
    (c39 : PySem.W.codeIn K cd39 "Sorted.counted_ahead" = true)
    (k39 : PySem.W.keepIn K (.ref f39) = true)
    (a40 : PySem.W.findIn K (.ref Cs) "__init__" = some (some (.ref f40)))
    (i40 : PySem.W.isFn K (.ref f40) = true)
    (l40 : K.lookup f40 = some ⟨oc40, od40, .func (PySem.W.fnOf "__init__" "Sorted.__init__" (defArgs s_srinit) (defBody s_srinit) (defScope s_srinit) .none kV40 dc40 pm40 an40 cd40 ct40), sl40⟩)
    (c40 : PySem.W.codeIn K cd40 "Sorted.__init__" = true)
    (k40 : PySem.W.keepIn K (.ref f40) = true)
    (a41 : PySem.W.findIn K (.ref Cs) "text_at" = some (some (.ref f41)))
    (i41 : PySem.W.isFn K (.ref f41) = true)
    (l41 : K.lookup f41 = some ⟨oc41, od41, .func (PySem.W.fnOf "text_at" "Sorted.text_at" (defArgs s_textat) (defBody s_textat) (defScope s_textat) .none kV41 dc41 pm41 an41 cd41 ct41), sl41⟩)
    (c41 : PySem.W.codeIn K cd41 "Sorted.text_at" = true)
    (k41 : PySem.W.keepIn K (.ref f41) = true)
    (a42 : PySem.W.findIn K (.ref Cs) "number_of" = some (some (.ref f42)))
    (i42 : PySem.W.isFn K (.ref f42) = true)
    (l42 : K.lookup f42 = some ⟨oc42, od42, .func (PySem.W.fnOf "number_of" "Sorted.number_of" (defArgs s_numm) (defBody s_numm) (defScope s_numm) .none kV42 dc42 pm42 an42 cd42 ct42), sl42⟩)
    (c42 : PySem.W.codeIn K cd42 "Sorted.number_of" = true)
    (k42 : PySem.W.keepIn K (.ref f42) = true)
    (a43 : PySem.W.nsIn K mainGlobals "count_marked" = some (some (.ref f43)))
    (l43 : K.lookup f43 = some ⟨oc43, od43, .func (PySem.W.fnOf "count_marked" "count_marked" (defArgs s_cntm) (defBody s_cntm) (defScope s_cntm) .none kV43 dc43 pm43 an43 cd43 ct43), sl43⟩)
    (c43 : PySem.W.codeIn K cd43 "count_marked" = true)
    (k43 : PySem.W.keepIn K (.ref f43) = true)
    (a44 : PySem.W.nsIn K mainGlobals "number_of" = some (some (.ref f44)))
    (l44 : K.lookup f44 = some ⟨oc44, od44, .func (PySem.W.fnOf "number_of" "number_of" (defArgs s_numof) (defBody s_numof) (defScope s_numof) .none kV44 dc44 pm44 an44 cd44 ct44), sl44⟩)
    (c44 : PySem.W.codeIn K cd44 "number_of" = true)
    (k44 : PySem.W.keepIn K (.ref f44) = true)
    (mCn : PySem.W.nsIn K mainGlobals "NoSuchText" = some (some (.ref Cn)))
    (xCn : K.lookup Cn = some (excClassObj nmCn qCn Cn NCn bsCn [.ref BCCn, .type "ValueError", .type "Exception", .type "BaseException", .type "object"] true snCn subCn abCn colCn ddCn e0Cn e1Cn e2Cn e3Cn e5Cn "ValueError.__new__"))
    (saCn : PySem.W.findIn K (.ref Cn) "__setattr__" = some (some (.builtin "object.__setattr__")))
    (gaCn : PySem.W.findIn K (.ref Cn) "__getattribute__" = some (some (.builtin "BaseException.__getattribute__")))
    (ggCn : PySem.W.findIn K (.ref Cn) "__getattr__" = some none)
    (nfCn : PySem.W.findIn K (.ref Cn) "count" = some none)
    (kcCn : PySem.W.keepIn K (.ref Cn) = true)
    (eCCn : PySem.W.subIn K (.ref Cn) (.type "BaseException") = some true)
    (tCCn : PySem.W.typeIn K (.ref Cn) = some (.type "type"))
    (hCCn : PySem.W.hasDictIn K Cn = true)
    (iCCn : PySem.W.isClsIn K Cn = true)
    (sCCn : PySem.W.subIn K (.ref Cn) (.ref Cn) = some true)
    (a45 : PySem.W.findIn K (.ref Cn) "__init__" = some (some (.ref f45)))
    (i45 : PySem.W.isFn K (.ref f45) = true)
    (l45 : K.lookup f45 = some ⟨oc45, od45, .func (PySem.W.fnOf "__init__" "NoSuchText.__init__" (defArgs s_nst) (defBody s_nst) (defScope s_nst) .none kV45 dc45 pm45 an45 cd45 ct45), sl45⟩)
    (c45 : PySem.W.codeIn K cd45 "NoSuchText.__init__" = true)
    (k45 : PySem.W.keepIn K (.ref f45) = true)
    (tICn : PySem.W.typeIn K (.ref f45) = some (.type "function"))
    (a46 : PySem.W.nsIn K mainGlobals "marked_text" = some (some (.ref f46)))
    (l46 : K.lookup f46 = some ⟨oc46, od46, .func (PySem.W.fnOf "marked_text" "marked_text" (defArgs s_mkdx) (defBody s_mkdx) (defScope s_mkdx) .none kV46 dc46 pm46 an46 cd46 ct46), sl46⟩)
    (c46 : PySem.W.codeIn K cd46 "marked_text" = true)
    (k46 : PySem.W.keepIn K (.ref f46) = true)
    (a47 : PySem.W.nsIn K mainGlobals "law" = some (some (.ref f47)))
    (l47 : K.lookup f47 = some ⟨oc47, od47, .func (PySem.W.fnOf "law" "law" (defArgs s_law) (defBody s_law) (defScope s_law) .none kV47 dc47 pm47 an47 cd47 ct47), sl47⟩)
    (c47 : PySem.W.codeIn K cd47 "law" = true)
    (k47 : PySem.W.keepIn K (.ref f47) = true)
    (fi37 : PySem.W.fnIn K f37 = true) :
    ∃ fd : FuncData, (∀ (s : Shared) (v : Value), BindsTo s fd ⟨[v], []⟩ [("_law_script", v)]) ∧ ∀ base : Heap, K.In base → base.Ns mainGlobals mg → FnOk l.prog w K mg base L2.CX0 8 fa fd ["_law_script"] (spLaw K) := by
  have e := hfa.symm.trans (PySem.W.mg_of X G a47)
  cases e
  have T : Bt mg := ⟨PySem.W.mg_none_of X G z_len, PySem.W.mg_none_of X G z_int, PySem.W.mg_none_of X G z_abs, PySem.W.mg_none_of X G z_max, PySem.W.mg_none_of X G z_min, PySem.W.mg_none_of X G z_range, PySem.W.mg_none_of X G z_isinstance, PySem.W.mg_none_of X G z_list, PySem.W.mg_none_of X G z_tuple, PySem.W.mg_none_of X G z_str, PySem.W.mg_none_of X G z_bool, PySem.W.mg_none_of X G z_ord, PySem.W.mg_none_of X G z_all, PySem.W.mg_none_of X G z_enumerate, PySem.W.mg_none_of X G z_zip⟩
  have K_Cm : ClsF K Cm := ⟨⟨pgCm, hdCm, poCm, saCm⟩, haCm, objhn, objht, hmCm⟩
  have K_Ck : ClsF K Ck := ⟨⟨pgCk, hdCk, poCk, saCk⟩, haCk, objhn, objht, hmCk⟩
  have K_Cw : ClsF K Cw := ⟨⟨pgCw, hdCw, poCw, saCw⟩, haCw, objhn, objht, hmCw⟩
  have KX : Kx K mg ⟨Cm, Ck, Cw⟩ := ⟨K_Cm, K_Ck, K_Cw, PySem.W.mg_of X G mCm, PySem.W.mg_of X G mCk, PySem.W.mg_of X G mCw, nCm_number, nCm_factors, nCk_low, nCk_shift, nCk_lead, nCw_marking, nCw_modulus, nCw_number, nCw_base⟩
  have F_isint : Dn K mg "is_integer" s_isint ["thing"] := ⟨f1, _, fun_mk (st := s_isint) l1 c1 k1, PySem.W.mg_of X G a1, (fun_mk (st := s_isint) l1 c1 k1).binds (ps := ["thing"]) fun _ _ _ _ _ _ us hl => match us, hl with | [_], _ => rfl⟩
  have F_raised : Dn K mg "raised" s_raised ["factor", "power"] := ⟨f2, _, fun_mk (st := s_raised) l2 c2 k2, PySem.W.mg_of X G a2, (fun_mk (st := s_raised) l2 c2 k2).binds (ps := ["factor", "power"]) fun _ _ _ _ _ _ us hl => match us, hl with | [_, _], _ => rfl⟩
  have F_prime : Dn K mg "is_prime_number" s_prime ["number"] := ⟨f3, _, fun_mk (st := s_prime) l3 c3 k3, PySem.W.mg_of X G a3, (fun_mk (st := s_prime) l3 c3 k3).binds (ps := ["number"]) fun _ _ _ _ _ _ us hl => match us, hl with | [_], _ => rfl⟩
  have F_isfac : Dn K mg "is_factor" s_isfac ["thing", "least"] := ⟨f4, _, fun_mk (st := s_isfac) l4 c4 k4, PySem.W.mg_of X G a4, (fun_mk (st := s_isfac) l4 c4 k4).binds (ps := ["thing", "least"]) fun _ _ _ _ _ _ us hl => match us, hl with | [_, _], _ => rfl⟩
  have F_reqmod : Dn K mg "require_modulus" s_reqmod ["modulus"] := ⟨f5, _, fun_mk (st := s_reqmod) l5 c5 k5, PySem.W.mg_of X G a5, (fun_mk (st := s_reqmod) l5 c5 k5).binds (ps := ["modulus"]) fun _ _ _ _ _ _ us hl => match us, hl with | [_], _ => rfl⟩
  have F_istext : Dn K mg "is_text" s_istext ["thing"] := ⟨f6, _, fun_mk (st := s_istext) l6 c6 k6, PySem.W.mg_of X G a6, (fun_mk (st := s_istext) l6 c6 k6).binds (ps := ["thing"]) fun _ _ _ _ _ _ us hl => match us, hl with | [_], _ => rfl⟩
  have F_read : Dn K mg "read" s_read ["text"] := ⟨f7, _, fun_mk (st := s_read) l7 c7 k7, PySem.W.mg_of X G a7, (fun_mk (st := s_read) l7 c7 k7).binds (ps := ["text"]) fun _ _ _ _ _ _ us hl => match us, hl with | [_], _ => rfl⟩
  have F_reqtext : Dn K mg "require_text" s_reqtext ["thing"] := ⟨f8, _, fun_mk (st := s_reqtext) l8 c8 k8, PySem.W.mg_of X G a8, (fun_mk (st := s_reqtext) l8 c8 k8).binds (ps := ["thing"]) fun _ _ _ _ _ _ us hl => match us, hl with | [_], _ => rfl⟩
  have F_mkof : Dn K mg "marking_of" s_mkof ["marking"] := ⟨f9, _, fun_mk (st := s_mkof) l9 c9 k9, PySem.W.mg_of X G a9, (fun_mk (st := s_mkof) l9 c9 k9).binds (ps := ["marking"]) fun _ _ _ _ _ _ us hl => match us, hl with | [_], _ => rfl⟩
  have F_restat : Dn K mg "rest_at" s_restat ["coefficients", "base", "number"] := ⟨f10, _, fun_mk (st := s_restat) l10 c10 k10, PySem.W.mg_of X G a10, (fun_mk (st := s_restat) l10 c10 k10).binds (ps := ["coefficients", "base", "number"]) fun _ _ _ _ _ _ us hl => match us, hl with | [_, _, _], _ => rfl⟩
  have F_mixed : Dn K mg "_law_mixed" s_mixed ["_law_cell", "_law_k"] := ⟨f11, _, fun_mk (st := s_mixed) l11 c11 k11, PySem.W.mg_of X G a11, (fun_mk (st := s_mixed) l11 c11 k11).binds (ps := ["_law_cell", "_law_k"]) fun _ _ _ _ _ _ us hl => match us, hl with | [_, _], _ => rfl⟩
  have F_purse : Dn K mg "_law_purse" s_purse ["_law_cells", "_law_at"] := ⟨f12, _, fun_mk (st := s_purse) l12 c12 k12, PySem.W.mg_of X G a12, (fun_mk (st := s_purse) l12 c12 k12).binds (ps := ["_law_cells", "_law_at"]) fun _ _ _ _ _ _ us hl => match us, hl with | [_, _], _ => rfl⟩
  have F_draw : Dn K mg "_law_draw" s_draw ["_law_purse_here", "_law_out_of"] := ⟨f13, _, fun_mk (st := s_draw) l13 c13 k13, PySem.W.mg_of X G a13, (fun_mk (st := s_draw) l13 c13 k13).binds (ps := ["_law_purse_here", "_law_out_of"]) fun _ _ _ _ _ _ us hl => match us, hl with | [_, _], _ => rfl⟩
  have F_great : Dn K mg "_law_great" s_great ["_law_purse_here", "_law_figures"] := ⟨f14, _, fun_mk (st := s_great) l14 c14 k14, PySem.W.mg_of X G a14, (fun_mk (st := s_great) l14 c14 k14).binds (ps := ["_law_purse_here", "_law_figures"]) fun _ _ _ _ _ _ us hl => match us, hl with | [_, _], _ => rfl⟩
  have F_style : Dn K mg "_law_style" s_style ["_law_purse_here"] := ⟨f15, _, fun_mk (st := s_style) l15 c15 k15, PySem.W.mg_of X G a15, (fun_mk (st := s_style) l15 c15 k15).binds (ps := ["_law_purse_here"]) fun _ _ _ _ _ _ us hl => match us, hl with | [_], _ => rfl⟩
  have F_marking : Dn K mg "_law_marking" s_marking ["_law_given"] := ⟨f16, _, fun_mk (st := s_marking) l16 c16 k16, PySem.W.mg_of X G a16, (fun_mk (st := s_marking) l16 c16 k16).binds (ps := ["_law_given"]) fun _ _ _ _ _ _ us hl => match us, hl with | [_], _ => rfl⟩
  have F_root : Dn K mg "_law_root" s_root ["_law_purse_here", "_law_size"] := ⟨f17, _, fun_mk (st := s_root) l17 c17 k17, PySem.W.mg_of X G a17, (fun_mk (st := s_root) l17 c17 k17).binds (ps := ["_law_purse_here", "_law_size"]) fun _ _ _ _ _ _ us hl => match us, hl with | [_, _], _ => rfl⟩
  have F_reqway : Dn K mg "require_way" s_reqway ["way"] := ⟨f18, _, fun_mk (st := s_reqway) l18 c18 k18, PySem.W.mg_of X G a18, (fun_mk (st := s_reqway) l18 c18 k18).binds (ps := ["way"]) fun _ _ _ _ _ _ us hl => match us, hl with | [_], _ => rfl⟩
  have F_reqstock : Dn K mg "require_stock" s_reqstock ["stock"] := ⟨f19, _, fun_mk (st := s_reqstock) l19 c19 k19, PySem.W.mg_of X G a19, (fun_mk (st := s_reqstock) l19 c19 k19).binds (ps := ["stock"]) fun _ _ _ _ _ _ us hl => match us, hl with | [_], _ => rfl⟩
  have F_reqlen : Dn K mg "require_length" s_reqlen ["thing"] := ⟨f20, _, fun_mk (st := s_reqlen) l20 c20 k20, PySem.W.mg_of X G a20, (fun_mk (st := s_reqlen) l20 c20 k20).binds (ps := ["thing"]) fun _ _ _ _ _ _ us hl => match us, hl with | [_], _ => rfl⟩
  have F_reqmark : Dn K mg "require_mark" s_reqmark ["way", "mark"] := ⟨f21, _, fun_mk (st := s_reqmark) l21 c21 k21, PySem.W.mg_of X G a21, (fun_mk (st := s_reqmark) l21 c21 k21).binds (ps := ["way", "mark"]) fun _ _ _ _ _ _ us hl => match us, hl with | [_, _], _ => rfl⟩
  have F_power : Dn K mg "power_rest" s_power ["base", "exponent", "number"] := ⟨f22, _, fun_mk (st := s_power) l22 c22 k22, PySem.W.mg_of X G a22, (fun_mk (st := s_power) l22 c22 k22).binds (ps := ["base", "exponent", "number"]) fun _ _ _ _ _ _ us hl => match us, hl with | [_, _, _], _ => rfl⟩
  have F_wtsof : Dn K mg "weights_of" s_wtsof ["way", "length"] := ⟨f23, _, fun_mk (st := s_wtsof) l23 c23 k23, PySem.W.mg_of X G a23, (fun_mk (st := s_wtsof) l23 c23 k23).binds (ps := ["way", "length"]) fun _ _ _ _ _ _ us hl => match us, hl with | [_, _], _ => rfl⟩
  have F_countsof : Dn K mg "counts_of" s_countsof ["way", "stock", "length"] := ⟨f24, _, fun_mk (st := s_countsof) l24 c24 k24, PySem.W.mg_of X G a24, (fun_mk (st := s_countsof) l24 c24 k24).binds (ps := ["way", "stock", "length"]) fun _ _ _ _ _ _ us hl => match us, hl with | [_, _, _], _ => rfl⟩
  have F_mod2 : Dn K mg "_law_modulus" s_mod2 ["_law_purse_here", "_law_most"] := ⟨f25, _, fun_mk (st := s_mod2) l25 c25 k25, PySem.W.mg_of X G a25, (fun_mk (st := s_mod2) l25 c25 k25).binds (ps := ["_law_purse_here", "_law_most"]) fun _ _ _ _ _ _ us hl => match us, hl with | [_, _], _ => rfl⟩
  have F_sum : Dn K mg "_law_sum" s_sum ["_law_letters", "_law_root_here", "_law_given"] := ⟨f26, _, fun_mk (st := s_sum) l26 c26 k26, PySem.W.mg_of X G a26, (fun_mk (st := s_sum) l26 c26 k26).binds (ps := ["_law_letters", "_law_root_here", "_law_given"]) fun _ _ _ _ _ _ us hl => match us, hl with | [_, _, _], _ => rfl⟩
  have F_txts : Dn K mg "_law_texts" s_txts ["_law_rich", "_law_many_here"] := ⟨f27, _, fun_mk (st := s_txts) l27 c27 k27, PySem.W.mg_of X G a27, (fun_mk (st := s_txts) l27 c27 k27).binds (ps := ["_law_rich", "_law_many_here"]) fun _ _ _ _ _ _ us hl => match us, hl with | [_, _], _ => rfl⟩
  have F_many63 : Dn K mg "_law_many" s_many63 ["_law_rich", "_law_many_here"] := ⟨f28, _, fun_mk (st := s_many63) l28 c28 k28, PySem.W.mg_of X G a28, (fun_mk (st := s_many63) l28 c28 k28).binds (ps := ["_law_rich", "_law_many_here"]) fun _ _ _ _ _ _ us hl => match us, hl with | [_, _], _ => rfl⟩
  have F_caught63 : Dn K mg "_law_caught" s_caught63 ["_law_made", "_law_rich", "_law_many_here", "_law_told", "_law_order"] := ⟨f29, _, fun_mk (st := s_caught63) l29 c29 k29, PySem.W.mg_of X G a29, (fun_mk (st := s_caught63) l29 c29 k29).binds (ps := ["_law_made", "_law_rich", "_law_many_here", "_law_told", "_law_order"]) fun _ _ _ _ _ _ us hl => match us, hl with | [_, _, _, _, _], _ => rfl⟩
  have F_one63 : Dn K mg "_law_one_right" s_one63 ["_law_made", "_law_rich", "_law_given"] := ⟨f30, _, fun_mk (st := s_one63) l30 c30 k30, PySem.W.mg_of X G a30, (fun_mk (st := s_one63) l30 c30 k30).binds (ps := ["_law_made", "_law_rich", "_law_given"]) fun _ _ _ _ _ _ us hl => match us, hl with | [_, _, _], _ => rfl⟩
  have F_right : Dn K mg "_law_right" s_right ["_law_purse_here"] := ⟨f31, _, fun_mk (st := s_right) l31 c31 k31, PySem.W.mg_of X G a31, (fun_mk (st := s_right) l31 c31 k31).binds (ps := ["_law_purse_here"]) fun _ _ _ _ _ _ us hl => match us, hl with | [_], _ => rfl⟩
  have F_modinit : FunD K "__init__" "Modulus.__init__" (defArgs s_modinit) (defBody s_modinit) (defScope s_modinit) [] [] f32 _ := ⟨⟨oc32, od32, .none, kV32, dc32, pm32, an32, cd32, ct32, sl32, rfl, l32, c32, .inl ⟨rfl, rfl⟩, .inl rfl⟩, k32⟩
  have B_modinit := F_modinit.bindsN (ps := ["self", "factors"]) fun _ _ _ _ _ _ us hl => match us, hl with | [_, _], _ => rfl
  have F_mkinit : FunD K "__init__" "Marking.__init__" (defArgs s_mkinit) (defBody s_mkinit) (defScope s_mkinit) [] [("low", .bl false), ("shift", .int 0), ("lead", .bl false)] f33 _ := ⟨⟨oc33, od33, .none, (.ref D33), dc33, pm33, an33, cd33, ct33, sl33, rfl, l33, c33, .inl ⟨rfl, rfl⟩, .inr ⟨D33, rfl, fun q hq => by
    simp only [List.mem_cons, List.not_mem_nil, or_false] at hq
    rcases hq with rfl | rfl | rfl
    · exact ⟨_, d33_0, rfl⟩
    · exact ⟨_, d33_1, ⟨_, rfl⟩⟩
    · exact ⟨_, d33_2, rfl⟩⟩⟩, k33⟩
  have F_hf : FunD K "highest_first" "Marking.highest_first" (defArgs s_hf) (defBody s_hf) (defScope s_hf) [] [] f34 _ := ⟨⟨oc34, od34, .none, kV34, dc34, pm34, an34, cd34, ct34, sl34, rfl, l34, c34, .inl ⟨rfl, rfl⟩, .inl rfl⟩, k34⟩
  have B_hf := F_hf.bindsN (ps := ["self", "letters"]) fun _ _ _ _ _ _ us hl => match us, hl with | [_, _], _ => rfl
  have F_wayinit : FunD K "__init__" "Way.__init__" (defArgs s_wayinit) (defBody s_wayinit) (defScope s_wayinit) [.non] [] f35 _ := ⟨⟨oc35, od35, (.ref T35), kV35, dc35, pm35, an35, cd35, ct35, sl35, rfl, l35, c35, .inr ⟨by simp, T35, _, _, _, rfl, t35, rfl, (.cons rfl .nil)⟩, .inl rfl⟩, k35⟩
  have F_ofl : FunD K "of_letters" "Way.of_letters" (defArgs s_ofl) (defBody s_ofl) (defScope s_ofl) [] [] f36 _ := ⟨⟨oc36, od36, .none, kV36, dc36, pm36, an36, cd36, ct36, sl36, rfl, l36, c36, .inl ⟨rfl, rfl⟩, .inl rfl⟩, k36⟩
  have B_ofl := F_ofl.bindsN (ps := ["self", "letters"]) fun _ _ _ _ _ _ us hl => match us, hl with | [_, _], _ => rfl
  have F_call : FunD K "__call__" "Way.__call__" (defArgs s_call) (defBody s_call) (defScope s_call) [] [] f37 _ := ⟨⟨oc37, od37, .none, kV37, dc37, pm37, an37, cd37, ct37, sl37, rfl, l37, c37, .inl ⟨rfl, rfl⟩, .inl rfl⟩, k37⟩
  have B_call := F_call.bindsN (ps := ["self", "text"]) fun _ _ _ _ _ _ us hl => match us, hl with | [_, _], _ => rfl
  have K_Cs : ClsF K Cs := ⟨⟨pgCs, hdCs, poCs, saCs⟩, haCs, objhn, objht, hmCs⟩
  have KS : Ks K mg Cs := ⟨K_Cs, PySem.W.mg_of X G mCs, nCs_way, nCs_stock, nCs_scales, nCs_lead, nCs_counts⟩
  have F_summ : FunD K "summand" "Sorted.summand" (defArgs s_summ) (defBody s_summ) (defScope s_summ) [] [] f38 _ := ⟨⟨oc38, od38, .none, kV38, dc38, pm38, an38, cd38, ct38, sl38, rfl, l38, c38, .inl ⟨rfl, rfl⟩, .inl rfl⟩, k38⟩
  have B_summ := F_summ.bindsN (ps := ["self", "weight", "letter"]) fun _ _ _ _ _ _ us hl => match us, hl with | [_, _, _], _ => rfl
  have F_ahead : FunD K "counted_ahead" "Sorted.counted_ahead" (defArgs s_ahead) (defBody s_ahead) (defScope s_ahead) [] [] f39 _ := ⟨⟨oc39, od39, .none, kV39, dc39, pm39, an39, cd39, ct39, sl39, rfl, l39, c39, .inl ⟨rfl, rfl⟩, .inl rfl⟩, k39⟩
  have B_ahead := F_ahead.bindsN (ps := ["self", "weight", "counts"]) fun _ _ _ _ _ _ us hl => match us, hl with | [_, _, _], _ => rfl
  have F_srinit : FunD K "__init__" "Sorted.__init__" (defArgs s_srinit) (defBody s_srinit) (defScope s_srinit) [] [] f40 _ := ⟨⟨oc40, od40, .none, kV40, dc40, pm40, an40, cd40, ct40, sl40, rfl, l40, c40, .inl ⟨rfl, rfl⟩, .inl rfl⟩, k40⟩
  have B_srinit := F_srinit.bindsN (ps := ["self", "way", "stock", "length"]) fun _ _ _ _ _ _ us hl => match us, hl with | [_, _, _, _], _ => rfl
  have F_textat : FunD K "text_at" "Sorted.text_at" (defArgs s_textat) (defBody s_textat) (defScope s_textat) [] [] f41 _ := ⟨⟨oc41, od41, .none, kV41, dc41, pm41, an41, cd41, ct41, sl41, rfl, l41, c41, .inl ⟨rfl, rfl⟩, .inl rfl⟩, k41⟩
  have B_textat := F_textat.bindsN (ps := ["self", "mark", "number"]) fun _ _ _ _ _ _ us hl => match us, hl with | [_, _, _], _ => rfl
  have F_numm : FunD K "number_of" "Sorted.number_of" (defArgs s_numm) (defBody s_numm) (defScope s_numm) [] [] f42 _ := ⟨⟨oc42, od42, .none, kV42, dc42, pm42, an42, cd42, ct42, sl42, rfl, l42, c42, .inl ⟨rfl, rfl⟩, .inl rfl⟩, k42⟩
  have B_numm := F_numm.bindsN (ps := ["self", "text"]) fun _ _ _ _ _ _ us hl => match us, hl with | [_, _], _ => rfl
  have F_cntm : FunD K "count_marked" "count_marked" (defArgs s_cntm) (defBody s_cntm) (defScope s_cntm) [] [] f43 _ := ⟨⟨oc43, od43, .none, kV43, dc43, pm43, an43, cd43, ct43, sl43, rfl, l43, c43, .inl ⟨rfl, rfl⟩, .inl rfl⟩, k43⟩
  have B_cntm := F_cntm.bindsN (ps := ["way", "stock", "length", "mark"]) fun _ _ _ _ _ _ us hl => match us, hl with | [_, _, _, _], _ => rfl
  have F_numof : FunD K "number_of" "number_of" (defArgs s_numof) (defBody s_numof) (defScope s_numof) [] [] f44 _ := ⟨⟨oc44, od44, .none, kV44, dc44, pm44, an44, cd44, ct44, sl44, rfl, l44, c44, .inl ⟨rfl, rfl⟩, .inl rfl⟩, k44⟩
  have B_numof := F_numof.bindsN (ps := ["way", "stock", "text"]) fun _ _ _ _ _ _ us hl => match us, hl with | [_, _, _], _ => rfl
  have F_nst : FunD K "__init__" "NoSuchText.__init__" (defArgs s_nst) (defBody s_nst) (defScope s_nst) [] [] f45 _ := ⟨⟨oc45, od45, .none, kV45, dc45, pm45, an45, cd45, ct45, sl45, rfl, l45, c45, .inl ⟨rfl, rfl⟩, .inl rfl⟩, k45⟩
  have B_nst := F_nst.bindsN (ps := ["self", "count"]) fun _ _ _ _ _ _ us hl => match us, hl with | [_, _], _ => rfl
  have O_Cn : OexC K Cn := ⟨⟨nmCn, qCn, NCn, bsCn, _, snCn, subCn, abCn, colCn, ddCn, e0Cn, e1Cn, e2Cn, e3Cn, e5Cn, xCn, rfl⟩, saCn, eCCn, tCCn, kcCn⟩
  have e_nst : ErrC K mg "NoSuchText" Cn "count" := ⟨PySem.W.mg_of X G mCn, ⟨gaCn, ggCn, eCCn, hCCn⟩, nfCn, exm_own eCCn iCCn tCCn sCCn⟩
  have F_mkdx : FunD K "marked_text" "marked_text" (defArgs s_mkdx) (defBody s_mkdx) (defScope s_mkdx) [] [] f46 _ := ⟨⟨oc46, od46, .none, kV46, dc46, pm46, an46, cd46, ct46, sl46, rfl, l46, c46, .inl ⟨rfl, rfl⟩, .inl rfl⟩, k46⟩
  have B_mkdx := F_mkdx.bindsN (ps := ["way", "stock", "length", "mark", "number"]) fun _ _ _ _ _ _ us hl => match us, hl with | [_, _, _, _, _], _ => rfl
  refine ⟨PySem.W.fnOf "law" "law" (defArgs s_law) (defBody s_law) (defScope s_law) .none kV47 dc47 pm47 an47 cd47 ct47, fun s v => .of_eq rfl, fun base _ _ => ?_⟩
  have c_isint := ok_isint (P := l.prog) (w := w) (K := K) (mg := mg) (base := base) F_isint T
  have c_raised := ok_raised (P := l.prog) (w := w) (K := K) (mg := mg) (base := base) F_raised T
  have c_prime := ok_prime (P := l.prog) (w := w) (K := K) (mg := mg) (base := base) F_prime T
  have c_isfac := ok_isfac F_isfac T c_isint c_prime
  have g_modinit := ok_modinit (c := ⟨Cm, Ck, Cw⟩) F_modinit T KX c_isfac c_raised
  have c_modinit : C8.Mak l.prog w K mg base 3 "Modulus" Cm (spModInit ⟨Cm, Ck, Cw⟩) [] := ⟨f32, _, _, _, ⟨mkCm, a32, i32, kcCm⟩, g_modinit, PySem.W.mg_of X G mCm, B_modinit, .nil⟩
  have c_reqmod := ok_reqmod (P := l.prog) (w := w) (K := K) (mg := mg) (base := base) F_reqmod T KX
  have c_istext := ok_istext F_istext T c_isint
  have c_read := ok_read (P := l.prog) (w := w) (K := K) (mg := mg) (base := base) F_read T
  have c_reqtext := ok_reqtext F_reqtext T c_istext c_read
  have c_reqstock := ok_reqstock F_reqstock T c_isint
  have g_mkinit := ok_mkinit (c := ⟨Cm, Ck, Cw⟩) F_mkinit T KX c_isint
  obtain ⟨ds0, vds0, bds0⟩ := F_mkinit.binds0 (ps := ["self", "low", "shift", "lead"]) 1 (by simp) rfl (fun _ _ _ _ _ _ us ks h1 h2 => match us, ks, h1, h2 with | [_], [_, _, _], _, _ => ⟨_, _, _, _, _, _, rfl, rfl, ⟨_, _, _, _, _, _, rfl, rfl, ⟨_, _, _, _, _, _, rfl, rfl, rfl⟩⟩⟩)
  have c_mk0 : C8.Mak l.prog w K mg base 2 "Marking" Ck (spMkInit ⟨Cm, Ck, Cw⟩) [.bl false, .int 0, .bl false] := ⟨f33, _, _, ds0, ⟨mkCk, a33, i33, kcCk⟩, g_mkinit, PySem.W.mg_of X G mCk, bds0, vds0⟩
  obtain ⟨mv3, kb3⟩ := F_mkinit.kbinds0 (ps := ["self", "low", "shift", "lead"]) 1 ["low", "shift", "lead"] [] (fun us _ ws => us ++ ws) (by simp) (fun q hq => by cases hq) (fun r1 _ r3 => r1.append r3) (fun _ _ _ _ _ _ us mv ws h1 h2 h3 => match us, ws, h1, h3 with | [_], [_, _, _], _, _ => rfl)
  have c_mk3 : MakK l.prog w K mg base 2 "Marking" Ck ["low", "shift", "lead"] (spMkInit ⟨Cm, Ck, Cw⟩) (fun vs zs => vs ++ zs) := ⟨f33, _, _, _, ⟨mkCk, a33, i33, kcCk⟩, g_mkinit, PySem.W.mg_of X G mCk, kb3⟩
  have g_hf := ok_hf (P := l.prog) (w := w) (base := base) (c := ⟨Cm, Ck, Cw⟩) F_hf T KX
  have c_hf : C8.Met l.prog w K mg base 1 Ck "highest_first" (spHf ⟨Cm, Ck, Cw⟩) [] := ⟨f34, _, _, [], KX.kg.cl, ⟨a34, i34, k34⟩, g_hf, B_hf, .nil⟩
  have c_mkof := ok_mkof F_mkof T KX c_mk0
  have c_restat := ok_restat (P := l.prog) (w := w) (K := K) (mg := mg) (base := base) F_restat T
  have g_way := ok_wayinit (c := ⟨Cm, Ck, Cw⟩) F_wayinit T KX c_isint c_reqmod c_mkof
  obtain ⟨dw2, vw2, bw2⟩ := F_wayinit.binds1 (ps := ["self", "base", "modulus", "marking"]) 3 0 (by simp) rfl (fun _ _ _ _ _ _ _ us its h1 h2 => match us, its, h1, h2 with | [_, _, _], [_], _, _ => ⟨_, rfl, rfl⟩)
  have c_way2 : C8.Mak l.prog w K mg base 5 "Way" Cw (spWayInit ⟨Cm, Ck, Cw⟩) [.non] := ⟨f35, _, _, dw2, ⟨mkCw, a35, i35, kcCw⟩, g_way, PySem.W.mg_of X G mCw, bw2, vw2⟩
  obtain ⟨dw3, vw3, bw3⟩ := F_wayinit.binds1 (ps := ["self", "base", "modulus", "marking"]) 4 1 (by simp) rfl (fun _ _ _ _ _ _ _ us its h1 h2 => match us, its, h1, h2 with | [_, _, _, _], [_], _, _ => ⟨_, rfl, rfl⟩)
  have c_way3 : C8.Mak l.prog w K mg base 5 "Way" Cw (spWayInit ⟨Cm, Ck, Cw⟩) [] := ⟨f35, _, _, dw3, ⟨mkCw, a35, i35, kcCw⟩, g_way, PySem.W.mg_of X G mCw, bw3, vw3⟩
  have g_ofl := ok_ofl (c := ⟨Cm, Ck, Cw⟩) F_ofl T KX c_restat c_hf
  have c_ofl : C8.Met l.prog w K mg base 2 Cw "of_letters" (spOfLetters ⟨Cm, Ck, Cw⟩) [] := ⟨f36, _, _, [], KX.wy.cl, ⟨a36, i36, k36⟩, g_ofl, B_ofl, .nil⟩
  have g_call := ok_call (c := ⟨Cm, Ck, Cw⟩) F_call T KX c_reqtext c_ofl
  have c_callO : CalO l.prog w K mg base 4 Cw (spMarkOf ⟨Cm, Ck, Cw⟩) := ⟨f37, ⟨a37, i37, fi37⟩, (g_call.raw B_call .nil).imp fun vs H Q E h => by rw [List.append_nil]; exact h⟩
  have c_reqway := ok_reqway (P := l.prog) (w := w) (K := K) (mg := mg) (base := base) F_reqway T KX
  have c_mixed := ok_mixed (P := l.prog) (w := w) (K := K) (mg := mg) (base := base) F_mixed T
  have c_purse := ok_purse (P := l.prog) (w := w) (K := K) (mg := mg) (base := base) F_purse T
  have c_draw := ok_draw F_draw T c_mixed
  have c_great := ok_great F_great T c_draw
  have c_style := ok_style F_style T c_draw c_great
  have c_marking := ok_marking (ca := ⟨Cm, Ck, Cw⟩) F_marking T c_mk3
  have c_root := ok_root F_root T c_draw c_great
  have c_reqlen := ok_reqlen F_reqlen T c_isint
  have c_reqmark := ok_reqmark F_reqmark T KX c_isint
  have c_countsof := ok_countsof (P := l.prog) (w := w) (K := K) (mg := mg) (base := base) (c := ⟨Cm, Ck, Cw⟩) F_countsof T KX
  have c_power := ok_power (P := l.prog) (w := w) (K := K) (mg := mg) (base := base) F_power T
  have c_wtsof := ok_wtsof (c := ⟨Cm, Ck, Cw⟩) F_wtsof T KX c_power
  have g_summ := ok_summ (P := l.prog) (w := w) (base := base) (c := ⟨Cm, Ck, Cw⟩) F_summ T KX KS
  have c_summ : C8.Met l.prog w K mg base 1 Cs "summand" (spSummand ⟨Cm, Ck, Cw⟩ Cs) [] := ⟨f38, _, _, [], KS.cl.cl, ⟨a38, i38, k38⟩, g_summ, B_summ, .nil⟩
  have g_ahead := ok_ahead (c := ⟨Cm, Ck, Cw⟩) F_ahead T KX KS c_summ
  have c_ahead : C8.Met l.prog w K mg base 2 Cs "counted_ahead" (spAhead ⟨Cm, Ck, Cw⟩ Cs) [] := ⟨f39, _, _, [], KS.cl.cl, ⟨a39, i39, k39⟩, g_ahead, B_ahead, .nil⟩
  have g_srinit := ok_srinit (c := ⟨Cm, Ck, Cw⟩) F_srinit T KX KS c_power c_wtsof c_ahead
  have c_srt : C8.Mak l.prog w K mg base 3 "Sorted" Cs (spSrInit ⟨Cm, Ck, Cw⟩ Cs) [] := ⟨f40, _, _, _, ⟨mkCs, a40, i40, kcCs⟩, g_srinit, PySem.W.mg_of X G mCs, B_srinit, .nil⟩
  have g_textat := ok_textat (c := ⟨Cm, Ck, Cw⟩) F_textat T KX KS c_summ
  have c_textat : C8.Met l.prog w K mg base 2 Cs "text_at" (spTextAt ⟨Cm, Ck, Cw⟩ Cs) [] := ⟨f41, _, _, [], KS.cl.cl, ⟨a41, i41, k41⟩, g_textat, B_textat, .nil⟩
  have g_numm := ok_numm (c := ⟨Cm, Ck, Cw⟩) F_numm T KX KS c_ofl c_summ
  have c_numm : C8.Met l.prog w K mg base 3 Cs "number_of" (spNumM ⟨Cm, Ck, Cw⟩ Cs) [] := ⟨f42, _, _, [], KS.cl.cl, ⟨a42, i42, k42⟩, g_numm, B_numm, .nil⟩
  have g_cntm := ok_cntm (c := ⟨Cm, Ck, Cw⟩) F_cntm T KX c_reqway c_reqstock c_reqlen c_reqmark c_countsof
  have c_cntm : C8.Cal l.prog w K mg base 3 "count_marked" (spCountM ⟨Cm, Ck, Cw⟩) [] := ⟨f43, _, _, [], g_cntm, PySem.W.mg_of X G a43, k43, B_cntm, .nil⟩
  have c_cntmK : CalK l.prog w K mg base 3 "count_marked" ["mark", "length", "stock", "way"] (spCountM ⟨Cm, Ck, Cw⟩) (fun vs zs => vs ++ zs.reverse) := ⟨f43, _, _, fun us ws => us ++ ws.reverse, g_cntm, PySem.W.mg_of X G a43, k43, ⟨fun s us ws _ h1 h2 => .of_eq (match us, ws, h1, h2 with | [], [_, _, _, _], _, _ => rfl), fun r1 r2 => r1.append (vals_rev r2)⟩⟩
  have g_numof := ok_numof (c := ⟨Cm, Ck, Cw⟩) (Cs := Cs) F_numof T KX c_reqway c_reqstock c_reqtext c_srt c_numm
  have c_numof : C8.Cal l.prog w K mg base 5 "number_of" (spNumberOf ⟨Cm, Ck, Cw⟩) [] := ⟨f44, _, _, [], g_numof, PySem.W.mg_of X G a44, k44, B_numof, .nil⟩
  have c_numofK : CalK l.prog w K mg base 5 "number_of" ["text", "stock", "way"] (spNumberOf ⟨Cm, Ck, Cw⟩) (fun vs zs => vs ++ zs.reverse) := ⟨f44, _, _, fun us ws => us ++ ws.reverse, g_numof, PySem.W.mg_of X G a44, k44, ⟨fun s us ws _ h1 h2 => .of_eq (match us, ws, h1, h2 with | [], [_, _, _], _, _ => rfl), fun r1 r2 => r1.append (vals_rev r2)⟩⟩
  have g_nst := ok_nst (P := l.prog) (w := w) (K := K) (mg := mg) (base := base) F_nst T O_Cn nfCn
  have c_nst : Err l.prog w K mg base 1 "NoSuchText" Cn "count" := ⟨f45, _, _, O_Cn, a45, tICn, g_nst, B_nst, PySem.W.mg_of X G mCn⟩
  have g_mkdx := ok_mkdx (c := ⟨Cm, Ck, Cw⟩) (Cs := Cs) (Cn := Cn) F_mkdx T KX c_nst c_isint c_cntm c_srt c_textat
  have c_mkdx : CalX l.prog w K mg base 5 "marked_text" (spMarkedX ⟨Cm, Ck, Cw⟩ Cn) [] := ⟨f46, _, _, [], g_mkdx, PySem.W.mg_of X G a46, k46, B_mkdx, .nil⟩
  have c_mkdxK : CalXK l.prog w K mg base 5 "marked_text" ["number", "mark", "length", "stock", "way"] (spMarkedX ⟨Cm, Ck, Cw⟩ Cn) (fun vs zs => vs ++ zs.reverse) := ⟨f46, _, _, fun us ws => us ++ ws.reverse, g_mkdx, PySem.W.mg_of X G a46, k46, ⟨fun s us ws _ h1 h2 => .of_eq (match us, ws, h1, h2 with | [], [_, _, _, _, _], _, _ => rfl), fun r1 r2 => r1.append (vals_rev r2)⟩⟩
  have c_mod2 := ok_mod2 F_mod2 T c_draw
  have c_sum := ok_sum (P := l.prog) (w := w) (K := K) (mg := mg) (base := base) F_sum T
  have c_txts := ok_txts (P := l.prog) (w := w) (K := K) (mg := mg) (base := base) F_txts T
  have c_many63 := ok_many63 (P := l.prog) (w := w) (K := K) (mg := mg) (base := base) F_many63 T
  have c_caught63 := ok_caught63 (c := ⟨Cm, Ck, Cw⟩) F_caught63 T e_nst c_mkdx
  have c_one63 := ok_one63 (Cn := Cn) F_one63 T KX c_sum c_cntm c_mkdx c_numof
  have c_right := ok_right (Cn := Cn) F_right T KX c_draw c_great c_mod2 c_root c_style c_marking c_modinit c_way3 c_cntm c_mkdx c_numof c_sum c_txts c_many63 c_caught63 c_one63
  obtain ⟨mv1, kb1⟩ := F_mkinit.kbinds0 (ps := ["self", "low", "shift", "lead"]) 1 ["low"] [("shift", .int 0), ("lead", .bl false)] (fun us mv ws => us ++ ws ++ mv) (by simp) (fun q hq => by simp only [List.mem_cons, List.not_mem_nil, or_false] at hq; rcases hq with rfl | rfl <;> simp) (fun r1 r2 r3 => (r1.append r3).append r2) (fun _ _ _ _ _ _ us mv ws h1 h2 h3 => match us, mv, ws, h1, h2, h3 with | [_], [_, _], [_], _, _, _ => ⟨_, _, _, _, _, _, rfl, rfl, ⟨_, _, _, _, _, _, rfl, rfl, rfl⟩⟩)
  have c_mk1 : MakK l.prog w K mg base 2 "Marking" Ck ["low"] (spMkInit ⟨Cm, Ck, Cw⟩) (fun vs zs => vs ++ zs ++ [.int 0, .bl false]) := ⟨f33, _, _, _, ⟨mkCk, a33, i33, kcCk⟩, g_mkinit, PySem.W.mg_of X G mCk, kb1⟩
  exact ok_law (fun_mk (st := s_law) l47 c47 k47) T KX c_purse c_right c_modinit c_way2 c_way3 c_mk1 c_numof c_mkdx c_cntmK c_numofK c_mkdxK
theorem walk {l : PySem.W.OpenLaw} {q : Program} {loose : List Str} {XP : (Str → Option Value) → Heap → Prop} {YP : World → Heap → Prop} {d : DefRec} {K : Params → PySem.W.Frag} (hn : l.most = some 63) (hdf : d.params.defaults = [])
    (hY : ∀ (w : World) (h : Heap), YP w h → (K w.params).In h)
    (F : ∀ (w : World) (mg : Str → Option Value) (fa : Addr) (h : Heap), (K w.params).In h → h.Ns mainGlobals mg → mg d.name = some (.ref fa) →
      ∃ fd : FuncData, (∀ (s : Shared) (u : Value), BindsTo s fd ⟨[u], []⟩ [("_law_script", u)]) ∧ ∀ base : Heap, (K w.params).In base → base.Ns mainGlobals mg → FnOk l.prog w (K w.params) mg base L2.CX0 8 fa fd ["_law_script"] (spLaw (K w.params))) :
    PySem.W.WalkO q loose XP YP l.row.toRowW d [] (fun f vs => PySem.call f vs) :=
  L2.walk_of (n := 63) (k := 8) (x := "_law_script") (CX := fun _ => L2.CX0) (sp := fun w => spLaw (K w.params)) hn (by decide) hdf ⟨rfl, by decide, by decide⟩ hY F (fun _ _ a ns hl _ hS => ⟨a, ns, rfl, hS, hl, fun _ => rfl⟩) fun _ _ _ _ _ z => z
end Lw
open PySem PySem.W PyProof.Rows in
set_option maxRecDepth 100000 in
set_option maxHeartbeats 0 in
theorem PySem.Challenge.cw_baseclash_k63_counted_texts_holds : PySem.Challenge.rw_baseclash_k63_counted_texts.Holds := by
  w_on; o_law; k_head; (case hw => w_witness2)
  k_fill
  refine Lw.walk (l := PySem.Challenge.rw_baseclash_k63_counted_texts) rfl rfl (fun w h Y => PySem.W.kIn_of Y) ?F
  case F =>
    intro w mg fa h KX G hmg
    refine' Lw.all_mk KX G hmg ?z_len ?z_int ?z_abs ?z_max ?z_min ?z_range ?z_isinstance ?z_list ?z_tuple ?z_str ?z_bool ?z_ord ?z_all ?z_enumerate ?z_zip ?mCm ?pgCm ?hdCm ?poCm ?saCm ?haCm ?hmCm ?mkCm ?kcCm ?objhn ?objht ?mCk ?pgCk ?hdCk ?poCk ?saCk ?haCk ?hmCk ?mkCk ?kcCk ?mCw ?pgCw ?hdCw ?poCw ?saCw ?haCw ?hmCw ?mkCw ?kcCw ?nCm_number ?nCm_factors ?nCk_low ?nCk_shift ?nCk_lead ?nCw_marking ?nCw_modulus ?nCw_number ?nCw_base ?a1 ?l1 ?c1 ?k1 ?a2 ?l2 ?c2 ?k2 ?a3 ?l3 ?c3 ?k3 ?a4 ?l4 ?c4 ?k4 ?a5 ?l5 ?c5 ?k5 ?a6 ?l6 ?c6 ?k6 ?a7 ?l7 ?c7 ?k7 ?a8 ?l8 ?c8 ?k8 ?a9 ?l9 ?c9 ?k9 ?a10 ?l10 ?c10 ?k10 ?a11 ?l11 ?c11 ?k11 ?a12 ?l12 ?c12 ?k12 ?a13 ?l13 ?c13 ?k13 ?a14 ?l14 ?c14 ?k14 ?a15 ?l15 ?c15 ?k15 ?a16 ?l16 ?c16 ?k16 ?a17 ?l17 ?c17 ?k17 ?a18 ?l18 ?c18 ?k18 ?a19 ?l19 ?c19 ?k19 ?a20 ?l20 ?c20 ?k20 ?a21 ?l21 ?c21 ?k21 ?a22 ?l22 ?c22 ?k22 ?a23 ?l23 ?c23 ?k23 ?a24 ?l24 ?c24 ?k24 ?a25 ?l25 ?c25 ?k25 ?a26 ?l26 ?c26 ?k26 ?a27 ?l27 ?c27 ?k27 ?a28 ?l28 ?c28 ?k28 ?a29 ?l29 ?c29 ?k29 ?a30 ?l30 ?c30 ?k30 ?a31 ?l31 ?c31 ?k31 ?a32 ?i32 ?l32 ?c32 ?k32 ?a33 ?i33 ?l33 ?c33 ?k33 ?d33_0 ?d33_1 ?d33_2 ?a34 ?i34 ?l34 ?c34 ?k34 ?a35 ?i35 ?l35 ?c35 ?k35 ?t35 ?a36 ?i36 ?l36 ?c36 ?k36 ?a37 ?i37 ?l37 ?c37 ?k37 ?mCs ?pgCs ?hdCs ?poCs ?saCs ?haCs ?hmCs ?mkCs ?kcCs ?nCs_way ?nCs_stock ?nCs_scales ?nCs_lead ?nCs_counts ?a38 ?i38 ?l38 ?c38 ?k38 ?a39 ?i39 ?l39 ?c39 ?k39 ?a40 ?i40 ?l40 ?c40 ?k40 ?a41 ?i41 ?l41 ?c41 ?k41 ?a42 ?i42 ?l42 ?c42 ?k42 ?a43 ?l43 ?c43 ?k43 ?a44 ?l44 ?c44 ?k44 ?mCn ?xCn ?saCn ?gaCn ?ggCn ?nfCn ?kcCn ?eCCn ?tCCn ?hCCn ?iCCn ?sCCn ?a45 ?i45 ?l45 ?c45 ?k45 ?tICn ?a46 ?l46 ?c46 ?k46 ?a47 ?l47 ?c47 ?k47 ?fi37
    (case z_len => k_is)
    (case z_int => k_is)
    (case z_abs => k_is)
    (case z_max => k_is)
    (case z_min => k_is)
    (case z_range => k_is)
    (case z_isinstance => k_is)
    (case z_list => k_is)
    (case z_tuple => k_is)
    (case z_str => k_is)
    (case z_bool => k_is)
    (case z_ord => k_is)
    (case z_all => k_is)
    (case z_enumerate => k_is)
    (case z_zip => k_is)
    (case mCm => k_is)
    (case pgCm => k_is)
    (case hdCm => k_is)
    (case poCm => k_is)
    (case saCm => k_is)
    (case haCm => k_is)
    (case hmCm => k_is)
    (case mkCm => k_is)
    (case kcCm => k_is)
    (case objhn => k_is)
    (case objht => k_is)
    (case mCk => k_is)
    (case pgCk => k_is)
    (case hdCk => k_is)
    (case poCk => k_is)
    (case saCk => k_is)
    (case haCk => k_is)
    (case hmCk => k_is)
    (case mkCk => k_is)
    (case kcCk => k_is)
    (case mCw => k_is)
    (case pgCw => k_is)
    (case hdCw => k_is)
    (case poCw => k_is)
    (case saCw => k_is)
    (case haCw => k_is)
    (case hmCw => k_is)
    (case mkCw => k_is)
    (case kcCw => k_is)
    (case nCm_number => k_is)
    (case nCm_factors => k_is)
    (case nCk_low => k_is)
    (case nCk_shift => k_is)
    (case nCk_lead => k_is)
    (case nCw_marking => k_is)
    (case nCw_modulus => k_is)
    (case nCw_number => k_is)
    (case nCw_base => k_is)
    (case a1 => k_is)
    (case l1 => k_is)
    (case c1 => k_is)
    (case k1 => k_is)
    (case a2 => k_is)
    (case l2 => k_is)
    (case c2 => k_is)
    (case k2 => k_is)
    (case a3 => k_is)
    (case l3 => k_is)
    (case c3 => k_is)
    (case k3 => k_is)
    (case a4 => k_is)
    (case l4 => k_is)
    (case c4 => k_is)
    (case k4 => k_is)
    (case a5 => k_is)
    (case l5 => k_is)
    (case c5 => k_is)
    (case k5 => k_is)
    (case a6 => k_is)
    (case l6 => k_is)
    (case c6 => k_is)
    (case k6 => k_is)
    (case a7 => k_is)
    (case l7 => k_is)
    (case c7 => k_is)
    (case k7 => k_is)
    (case a8 => k_is)
    (case l8 => k_is)
    (case c8 => k_is)
    (case k8 => k_is)
    (case a9 => k_is)
    (case l9 => k_is)
    (case c9 => k_is)
    (case k9 => k_is)
    (case a10 => k_is)
    (case l10 => k_is)
    (case c10 => k_is)
    (case k10 => k_is)
    (case a11 => k_is)
    (case l11 => k_is)
    (case c11 => k_is)
    (case k11 => k_is)
    (case a12 => k_is)
    (case l12 => k_is)
    (case c12 => k_is)
    (case k12 => k_is)
    (case a13 => k_is)
    (case l13 => k_is)
    (case c13 => k_is)
    (case k13 => k_is)
    (case a14 => k_is)
    (case l14 => k_is)
    (case c14 => k_is)
    (case k14 => k_is)
    (case a15 => k_is)
    (case l15 => k_is)
    (case c15 => k_is)
    (case k15 => k_is)
    (case a16 => k_is)
    (case l16 => k_is)
    (case c16 => k_is)
    (case k16 => k_is)
    (case a17 => k_is)
    (case l17 => k_is)
    (case c17 => k_is)
    (case k17 => k_is)
    (case a18 => k_is)
    (case l18 => k_is)
    (case c18 => k_is)
    (case k18 => k_is)
    (case a19 => k_is)
    (case l19 => k_is)
    (case c19 => k_is)
    (case k19 => k_is)
    (case a20 => k_is)
    (case l20 => k_is)
    (case c20 => k_is)
    (case k20 => k_is)
    (case a21 => k_is)
    (case l21 => k_is)
    (case c21 => k_is)
    (case k21 => k_is)
    (case a22 => k_is)
    (case l22 => k_is)
    (case c22 => k_is)
    (case k22 => k_is)
    (case a23 => k_is)
    (case l23 => k_is)
    (case c23 => k_is)
    (case k23 => k_is)
    (case a24 => k_is)
    (case l24 => k_is)
    (case c24 => k_is)
    (case k24 => k_is)
    (case a25 => k_is)
    (case l25 => k_is)
    (case c25 => k_is)
    (case k25 => k_is)
    (case a26 => k_is)
    (case l26 => k_is)
    (case c26 => k_is)
    (case k26 => k_is)
    (case a27 => k_is)
    (case l27 => k_is)
    (case c27 => k_is)
    (case k27 => k_is)
    (case a28 => k_is)
    (case l28 => k_is)
    (case c28 => k_is)
    (case k28 => k_is)
    (case a29 => k_is)
    (case l29 => k_is)
    (case c29 => k_is)
    (case k29 => k_is)
    (case a30 => k_is)
    (case l30 => k_is)
    (case c30 => k_is)
    (case k30 => k_is)
    (case a31 => k_is)
    (case l31 => k_is)
    (case c31 => k_is)
    (case k31 => k_is)
    (case a32 => k_is)
    (case i32 => k_is)
    (case l32 => k_is)
    (case c32 => k_is)
    (case k32 => k_is)
    (case a33 => k_is)
    (case i33 => k_is)
    (case l33 => k_is)
    (case c33 => k_is)
    (case k33 => k_is)
    (case d33_0 => k_is)
    (case d33_1 => k_is)
    (case d33_2 => k_is)
    (case a34 => k_is)
    (case i34 => k_is)
    (case l34 => k_is)
    (case c34 => k_is)
    (case k34 => k_is)
    (case a35 => k_is)
    (case i35 => k_is)
    (case l35 => k_is)
    (case c35 => k_is)
    (case k35 => k_is)
    (case t35 => k_is)
    (case a36 => k_is)
    (case i36 => k_is)
    (case l36 => k_is)
    (case c36 => k_is)
    (case k36 => k_is)
    (case a37 => k_is)
    (case i37 => k_is)
    (case l37 => k_is)
    (case c37 => k_is)
    (case k37 => k_is)
    (case mCs => k_is)
    (case pgCs => k_is)
    (case hdCs => k_is)
    (case poCs => k_is)
    (case saCs => k_is)
    (case haCs => k_is)
    (case hmCs => k_is)
    (case mkCs => k_is)
    (case kcCs => k_is)
    (case nCs_way => k_is)
    (case nCs_stock => k_is)
    (case nCs_scales => k_is)
    (case nCs_lead => k_is)
    (case nCs_counts => k_is)
    (case a38 => k_is)
    (case i38 => k_is)
    (case l38 => k_is)
    (case c38 => k_is)
    (case k38 => k_is)
    (case a39 => k_is)
    (case i39 => k_is)
    (case l39 => k_is)
    (case c39 => k_is)
    (case k39 => k_is)
    (case a40 => k_is)
    (case i40 => k_is)
    (case l40 => k_is)
    (case c40 => k_is)
    (case k40 => k_is)
    (case a41 => k_is)
    (case i41 => k_is)
    (case l41 => k_is)
    (case c41 => k_is)
    (case k41 => k_is)
    (case a42 => k_is)
    (case i42 => k_is)
    (case l42 => k_is)
    (case c42 => k_is)
    (case k42 => k_is)
    (case a43 => k_is)
    (case l43 => k_is)
    (case c43 => k_is)
    (case k43 => k_is)
    (case a44 => k_is)
    (case l44 => k_is)
    (case c44 => k_is)
    (case k44 => k_is)
    (case mCn => k_is)
    (case xCn => k_is)
    (case saCn => k_is)
    (case gaCn => k_is)
    (case ggCn => k_is)
    (case nfCn => k_is)
    (case kcCn => k_is)
    (case eCCn => k_is)
    (case tCCn => k_is)
    (case hCCn => k_is)
    (case iCCn => k_is)
    (case sCCn => k_is)
    (case a45 => k_is)
    (case i45 => k_is)
    (case l45 => k_is)
    (case c45 => k_is)
    (case k45 => k_is)
    (case tICn => k_is)
    (case a46 => k_is)
    (case l46 => k_is)
    (case c46 => k_is)
    (case k46 => k_is)
    (case a47 => k_is)
    (case l47 => k_is)
    (case c47 => k_is)
    (case k47 => k_is)
    (case fi37 => k_is)
