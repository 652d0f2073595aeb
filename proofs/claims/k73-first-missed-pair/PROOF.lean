import PyProof.Rows.All
import Wide.All
import OpenK.AllK
import Wide.FinOn
import HandS.ForMost
import HandS.Codes
import HandS.Style
import HandS.Flow
import HandS.Wide
import HandS.WideBits
import HandS.Defaults
import HandS.MakeKwOnly
import HandS.MakeKw
import HandS.Star
import HandS.IsInst
import HandS.Steps
import HandS.Walk
import HandS.Conv
import HandS.NoneIn
import HandS.Exc
import HandS.ExcOwn
import HandS.ExcInit
import HandS.ExcField
import HandS.CallSlots
import HandS.TryOnly
import HandS.TryMany
import HandS.WordsExc
import HandS.SetFor
import HandS.Set
import PyProof.Rows.SetFrom
import HandS.Dict
import HandS.DictComp
import HandS.Iter
import HandS.Small
import HandS.SetKeys
import HandS.More
import HandS.Zip
import KE.GoesZip
import KE.GoesMore
import KE.KeyNested
import KE.KDictCopyH
import KE.KDictDisplayH
import KE.KDictOf
import HandS.DictTup
import HandS.TupAny
import HandS.Strs
import HandS.Deep
import HandS.RevRange
import KE.KEqDict
import HandS.TupMul
import PySem.Challenge.RW_baseclash_k73_the_first_pair_that_is_mis
set_option Elab.async false
set_option maxRecDepth 100000
set_option linter.all false
namespace Bc
open PySem PySem.Spec PyProof.Rows L2
section
variable {X : Cx}
noncomputable def rLen (K : PySem.W.Frag) : List V → Hp → VK → Prop := fun xs H Q => ∃ p ys, xs = [.ref p] ∧ (SqL K H p ys ∨ SqT K H p ys) ∧ Q (.int ys.length) H
theorem cLen : CallR X (.builtin "len") (rLen X.K) := call_len_seq
noncomputable def rAbs : List V → Hp → VK → Prop := fun xs H Q => ∃ i, xs = [.int i] ∧ Q (.int (if i < 0 then -i else i)) H
noncomputable def rMax2 : List V → Hp → VK → Prop := fun xs H Q => ∃ i j, xs = [.int i, .int j] ∧ Q (.int (if j > i then j else i)) H
theorem cMax2 (hc : X.calm = true) : CallR X (.builtin "max") rMax2 := call_max2 hc
noncomputable def rMin2 : List V → Hp → VK → Prop := fun xs H Q => ∃ i j, xs = [.int i, .int j] ∧ Q (.int (if j < i then j else i)) H
theorem cMin2 (hc : X.calm = true) : CallR X (.builtin "min") rMin2 := call_min2 hc
noncomputable def rInt1 : List V → Hp → VK → Prop := fun xs H Q => (∃ i, xs = [.int i] ∧ Q (.int i) H) ∨ ∃ k, xs = [.bl k] ∧ Q (.int (if k then 1 else 0)) H
theorem cInt1 : CallR X (.type "int") rInt1 := call_int1
noncomputable def rOrd : List V → Hp → VK → Prop := fun xs H Q => ∃ x, xs = [.str x] ∧ x.length = 1 ∧ Q (.int (x.cps.getD 0 0 : Nat)) H
theorem cOrd : CallR X (.builtin "ord") rOrd := call_ord
noncomputable def rTupOf (K : PySem.W.Frag) : List V → Hp → VK → Prop := fun xs H Q => ∃ p ys, xs = [.ref p] ∧ ((SqL K H p ys ∧ ∀ l, H l = none → Q (.ref l) (upd H l (.tup ys))) ∨ (SqT K H p ys ∧ Q (.ref p) H))
theorem cTupOf : CallR X (.type "tuple") (rTupOf X.K) := call_tuple_of
noncomputable def rLeS : R2 := fun x y H Q => ∃ i j, x = .str i ∧ y = .str j ∧ Q (.bl (!decide (j.cps.toList < i.cps.toList))) H
theorem oLeS : OpR X (compareOp .LtE) rLeS := op_le_str
noncomputable def CPowW (i j : Int) : Prop := 0 ≤ j ∧ (Builtin.Int.intBits i : Int) * j ≤ 2 ^ 27
theorem oPowW : OpR X (binaryOp .Pow) (rI CPowW fun i j => .int (i ^ j.toNat)) := opI fun _ _ _ _ _ _ _ hc q => PyProof.Rows.pow_int hc.1 hc.2 q
end
section
variable {σ : L2.St} {H : Hp} {D : Ends} {Q : VK} {QT : Bool → Hp → Prop} {QA : List V → Hp → Prop} {K : PySem.W.Frag} {te ta tb tc : TE} {t u : TS} {tt tu : TT} {as : TA} {i j : Nat} {v x y : V} {a b n m : Int}
/-- a continuation kept apart -/
noncomputable def atV (Q : VK) (v : V) (H : Hp) : Prop := Q v H
theorem w_atV (q : Q v H) : atV Q v H := q
theorem w_var (h : σ[i]? = some (some v)) (q : Q v H) : tVar i σ H Q := ⟨v, h, q⟩
theorem w_c (q : Q v H) : tC v σ H Q := q
theorem w_op {r : R2} (q : ta σ H fun x H1 => tb σ H1 fun y H2 => r x y H2 Q) : tOp r ta tb σ H Q := q
theorem w_un {r : V → Hp → VK → Prop} (q : ta σ H fun x H1 => r x H1 Q) : tUn r ta σ H Q := q
theorem w_cb {r : List V → Hp → VK → Prop} (q : as σ H fun vs H1 => r vs H1 Q) : tCB r as σ H Q := q
theorem w_cons {tr : TA} (q : ta σ H fun x H1 => tr σ H1 fun xs H2 => QA (x :: xs) H2) : tCons ta tr σ H QA := q
theorem w_nil (q : QA [] H) : tNil σ H QA := q
theorem w_seq (q : t { D with nx := u D } σ H) : tSeq t u D σ H := q
theorem w_set (q : te σ H fun x H1 => D.nx (σ.set i (some x)) H1) : tAsg te (gName i) D σ H := q
theorem w_asg {g : TG} (q : te σ H fun x H1 => g x σ H1 D.nx) : tAsg te g D σ H := q
theorem w_name {Qs : L2.St → Hp → Prop} (q : Qs (σ.set i (some v)) H) : gName i v σ H Qs := q
theorem w_par (q : as σ H fun vs H1 => ∃ v w, vs = [v, w] ∧ D.nx ((σ.set i (some v)).set j (some w)) H1) : tPar i j as D σ H := q
theorem w_par2 {p q : V} {P : V → V → Prop} (h : P p q) : ∃ v w, [p, q] = [v, w] ∧ P v w := ⟨p, q, rfl, h⟩
theorem w_aug {ti : TIp} (h : σ[i]? = some (some v)) (q : te σ H fun y H1 => ti v y H1 fun z H2 => D.nx (σ.set i (some z)) H2) : tAug i te ti D σ H := ⟨v, h, q⟩
theorem w_ipI {f : Int → Int → Int} (q : Q (.int (f a b)) H) : ipI f (.int a) (.int b) H Q := ⟨a, b, rfl, rfl, q⟩
theorem w_drop (q : te σ H fun _ H1 => D.nx σ H1) : tDrop te D σ H := q
theorem w_ret (q : te σ H D.rt) : tRet te D σ H := q
theorem w_retN (q : D.rt .non H) : tRetN D σ H := q
theorem w_next (q : D.nx σ H) : tNext D σ H := q
theorem w_if {c : TT} (q : c σ H fun b H1 => if b = true then t D σ H1 else u D σ H1) : tIfS c t u D σ H := q
theorem w_test (q : te σ H fun x H' => ∃ k, x = .bl k ∧ QT k H') : tTest te σ H QT := q
theorem w_tB (q : te σ H fun x H' => ∃ k, x = .bl k ∧ QT k H') : tB te σ H QT := q
theorem w_bl {k : Bool} {P : Bool → Prop} (q : P k) : ∃ c, V.bl k = .bl c ∧ P c := ⟨k, rfl, q⟩
theorem w_and (q : tt σ H fun c H1 => if c = true then tu σ H1 QT else QT false H1) : tAnd tt tu σ H QT := q
theorem w_or (q : tt σ H fun c H1 => if c = true then QT true H1 else tu σ H1 QT) : tOr tt tu σ H QT := q
theorem w_not (q : tt σ H fun c H1 => QT (!c) H1) : tNot tt σ H QT := q
theorem w_andV (q : ta σ H fun x H1 => ∃ c, x = .bl c ∧ if c = true then tb σ H1 Q else Q (.bl false) H1) : tAndV ta tb σ H Q := q
theorem w_orV (q : ta σ H fun x H1 => ∃ c, x = .bl c ∧ if c = true then Q (.bl true) H1 else tb σ H1 Q) : tOrV ta tb σ H Q := q
theorem w_notV (q : ta σ H fun x H1 => ∃ c, x = .bl c ∧ Q (.bl (!c)) H1) : tNotV ta σ H Q := q
theorem w_ifE (q : tt σ H fun c H1 => if c = true then ta σ H1 Q else tb σ H1 Q) : tIf tt ta tb σ H Q := q
theorem w_tup (q : as σ H fun xs H1 => xs.length ≤ sizeLine ∧ ∀ p, H1 p = none → atV Q (.ref p) (upd H1 p (.tup xs))) : tTup as σ H Q := q
theorem w_lst (q : as σ H fun xs H1 => xs.length ≤ sizeLine ∧ ∀ p, H1 p = none → atV Q (.ref p) (upd H1 p (.lst xs))) : tLst as σ H Q := q
theorem w_call {sp : Sp} {dvs : List V} {E : XK} (q : as σ H fun vs H1 => sp (vs ++ dvs) H1 Q E) : tCall sp dvs E as σ H Q := q
theorem w_yes (q : QT true H) : tYes σ H QT := q
theorem w_chain {r r' : R2} (q : ta σ H fun x H1 => tb σ H1 fun y H2 => r x y H2 fun z H3 => ∃ k, z = .bl k ∧ (if k = true then tc σ H3 fun w' H4 => r' y w' H4 Q else Q (.bl false) H3)) : tChain r r' ta tb tc σ H Q := q
theorem w_I0 {g : Int → Int → V} (q : Q (g a b) H) : rI0 g (.int a) (.int b) H Q := ⟨a, b, rfl, rfl, q⟩
theorem w_I {C : Int → Int → Prop} {g : Int → Int → V} (c : C a b) (q : Q (g a b) H) : rI C g (.int a) (.int b) H Q := ⟨a, b, rfl, rfl, c, q⟩
theorem w_U {g : Int → V} (q : Q (g a) H) : rU g (.int a) H Q := ⟨a, rfl, q⟩
theorem w_eq (h : scal x y = true) (q : Q (.bl (decide (x = y))) H) : rEq x y H Q := ⟨h, q⟩
theorem w_ne (h : scal x y = true) (q : Q (.bl (!decide (x = y))) H) : rNe x y H Q := ⟨h, q⟩
theorem w_ixL {p : Addr} {xs : List V} (h : SqL K H p xs) (e : atI xs a = some v) (q : Q v H) : rIxL K (.ref p) (.int a) H Q := ⟨p, xs, a, v, rfl, rfl, h, e, q⟩
theorem w_ixT {p : Addr} {xs : List V} (h : SqT K H p xs) (e : atI xs a = some v) (q : Q v H) : rIxT K (.ref p) (.int a) H Q := ⟨p, xs, a, v, rfl, rfl, h, e, q⟩
theorem w_len {p : Addr} {xs : List V} (h : SqL K H p xs) (q : Q (.int xs.length) H) : rLen K [.ref p] H Q := ⟨p, xs, rfl, .inl h, q⟩
theorem w_lenT {p : Addr} {xs : List V} (h : SqT K H p xs) (q : Q (.int xs.length) H) : rLen K [.ref p] H Q := ⟨p, xs, rfl, .inr h, q⟩
theorem w_abs (q : Q (.int (if a < 0 then -a else a)) H) : rAbs [.int a] H Q := ⟨a, rfl, q⟩
theorem w_max2 (q : Q (.int (if b > a then b else a)) H) : rMax2 [.int a, .int b] H Q := ⟨a, b, rfl, q⟩
theorem w_min2 (q : Q (.int (if b < a then b else a)) H) : rMin2 [.int a, .int b] H Q := ⟨a, b, rfl, q⟩
theorem w_int1 (q : Q (.int a) H) : rInt1 [.int a] H Q := .inl ⟨a, rfl, q⟩
theorem w_int1b {k : Bool} (q : Q (.int (if k then 1 else 0)) H) : rInt1 [.bl k] H Q := .inr ⟨k, rfl, q⟩
theorem w_tupL {p : Addr} {xs : List V} (h : SqL K H p xs) (q : ∀ l, H l = none → atV Q (.ref l) (upd H l (.tup xs))) : rTupOf K [.ref p] H Q := ⟨p, xs, rfl, .inl ⟨h, q⟩⟩
theorem w_tupT {p : Addr} {xs : List V} (h : SqT K H p xs) (q : Q (.ref p) H) : rTupOf K [.ref p] H Q := ⟨p, xs, rfl, .inr ⟨h, q⟩⟩
theorem w_setL {p : Addr} {xs : List V} {Qs : Hp → Prop} (h : H p = some (.lst xs)) (e : ixN xs.length a = some j) (q : Qs (upd H p (.lst (xs.set j v)))) : rSetL (.ref p) (.int a) v H Qs := ⟨p, xs, a, j, rfl, rfl, h, e, q⟩
theorem w_gsub {to ti : TE} {ts : TSet} {Qs : L2.St → Hp → Prop} (q : to σ H fun o H1 => ti σ H1 fun i H2 => ts o i v H2 fun H3 => Qs σ H3) : gSub to ti ts v σ H Qs := q
theorem w_bm {T : String} {r : V → List V → Hp → VK → Prop} (q : ta σ H fun x H1 => tyV K T x H1 ∧ as σ H1 fun xs H2 => r x xs H2 Q) : tBM K T r ta as σ H Q := q
theorem w_bm0 {T : String} {r : V → List V → Hp → VK → Prop} (q : ta σ H fun x H1 => tyV K T x H1 ∧ r x [] H1 Q) : tBM0 K T r ta σ H Q := q
theorem w_append {p : Addr} {xs : List V} (h : H p = some (.lst xs)) (l : xs.length < sizeLine) (q : Q .non (upd H p (.lst (xs ++ [v])))) : rAppend (.ref p) [v] H Q := ⟨p, xs, v, rfl, rfl, h, l, q⟩
theorem w_cat {p r : Addr} {xs ys : List V} (h : H p = some (.lst xs)) (h2 : H r = some (.lst ys)) (l : xs.length + ys.length ≤ sizeLine) (q : ∀ p, H p = none → atV Q (.ref p) (upd H p (.lst (xs ++ ys)))) : rCat (.ref p) (.ref r) H Q := ⟨p, r, xs, ys, rfl, rfl, h, h2, l, q⟩
theorem w_fld {f : Str} (q : ta σ H fun x H1 => ∃ a C dx fs v, x = .ref a ∧ H1 a = some (.ins C dx fs) ∧ Cls K C ∧ NoAttr K C f ∧ fs.lookup f = some v ∧ Q v H1) : tFld K ta f σ H Q := q
theorem w_sl {r : V → Option Int → Option Int → Hp → VK → Prop} {tl th : TO} (q : te σ H fun x H1 => tl σ H1 fun l H2 => th σ H2 fun u H3 => r x l u H3 Q) : tSl r te tl th σ H Q := q
theorem w_noPart {Qo : Option Int → Hp → Prop} (q : Qo none H) : tNoPart σ H Qo := q
theorem w_part {Qo : Option Int → Hp → Prop} (q : te σ H fun x H1 => ∃ i, x = .int i ∧ Qo (some i) H1) : tPart te σ H Qo := q
theorem w_isI {P : Int → Prop} (q : P a) : ∃ i, V.int a = .int i ∧ P i := ⟨a, rfl, q⟩
theorem w_revL {K : PySem.W.Frag} (q : te σ H fun x H1 => ∃ a xs, x = .ref a ∧ SqL K H1 a xs ∧ ∀ p, H1 p = none → atV Q (.ref p) (upd H1 p (.lst xs.reverse))) : tRevL K te σ H Q := q
theorem w_isN (q : Q (.bl (decide (x = .non))) H) : rIsN x .non H Q := ⟨rfl, q⟩
theorem w_notN (q : Q (.bl (!decide (x = .non))) H) : rNotN x .non H Q := ⟨rfl, q⟩
theorem w_bits (q : te σ H fun x H1 => ∃ i, x = .int i ∧ Q (.int (Builtin.Int.intBits i : Nat)) H1) : tBits te σ H Q := q
theorem w_gtup {K : PySem.W.Frag} {tg : TGs} {p : Addr} {xs : List V} {k : Nat} {Qs : L2.St → Hp → Prop} (h : SqT K H p xs) (l : xs.length = k) (q : tg xs σ H Qs) : gTup K k tg (.ref p) σ H Qs := ⟨p, xs, rfl, h, l, q⟩
theorem w_gcons {tg : TG} {tr : TGs} {xs : List V} {Qs : L2.St → Hp → Prop} (q : tg v σ H fun σ' H' => tr xs σ' H' Qs) : gCons tg tr (v :: xs) σ H Qs := ⟨v, xs, rfl, q⟩
theorem w_gnil {Qs : L2.St → Hp → Prop} (q : Qs σ H) : gNil [] σ H Qs := ⟨rfl, q⟩
theorem w_for {wi : TI} {g : TG} {tb : TS} (q : wi σ H fun J H1 => ∃ W : Nat → Nat → L2.St → Hp → Prop, (∃ m, W 0 m σ H1) ∧ ∀ i m σ H, W i m σ H →
      (J.stop i H ∧ D.nx σ H) ∨ (J.go i H ∧ ∃ N : L2.St → Hp → Prop, (∀ σ' H', N σ' H' → ∃ m', m' < m ∧ W (i + 1) m' σ' H') ∧ ∀ x H', J.yld i H x H' → g x σ H' fun σ2 H2 => tb { D with nx := N, ct := N, bk := D.nx } σ2 H2)) : tFor wi g tb D σ H := q
theorem w_rng1 {R : It → Hp → Prop} (q : as σ H fun vs H1 => ∃ j : Int, vs = [.int j] ∧ -(2 ^ 62) ≤ j ∧ j < 2 ^ 62 ∧ R (Itr 0 j.toNat) H1) : iRng1 as σ H R := q
theorem w_rng1i {P : Int → Prop} (h0 : -(2 ^ 62) ≤ n) (h1 : n < 2 ^ 62) (q : P n) : ∃ j : Int, [V.int n] = [.int j] ∧ -(2 ^ 62) ≤ j ∧ j < 2 ^ 62 ∧ P j := ⟨n, rfl, h0, h1, q⟩
theorem w_rng2 {R : It → Hp → Prop} (q : as σ H fun vs H1 => ∃ i j : Int, vs = [.int i, .int j] ∧ (-(2 ^ 62) ≤ i ∧ i < 2 ^ 62 ∧ -(2 ^ 62) ≤ j ∧ j < 2 ^ 62) ∧ R (Itr i (j - i).toNat) H1) : iRng2 as σ H R := q
theorem w_rng2i {P : Int → Int → Prop} (h0 : -(2 ^ 62) ≤ n ∧ n < 2 ^ 62 ∧ -(2 ^ 62) ≤ m ∧ m < 2 ^ 62) (q : P n m) : ∃ i j : Int, [V.int n, V.int m] = [.int i, .int j] ∧ (-(2 ^ 62) ≤ i ∧ i < 2 ^ 62 ∧ -(2 ^ 62) ≤ j ∧ j < 2 ^ 62) ∧ P i j := ⟨n, m, rfl, h0, q⟩
theorem w_andsz {xs : List V} {P : Prop} (h : Nat.ble xs.length 100000 = true) (q : P) : xs.length ≤ sizeLine ∧ P := ⟨Nat.le_trans (Nat.le_of_ble_eq_true h) (by decide), q⟩
theorem w_iList {R : It → Hp → Prop} (q : te σ H fun x H1 => ∃ a, x = .ref a ∧ (∃ xs, SqL K H1 a xs) ∧ R (Itl K a) H1) : iList K te σ H R := q
theorem w_iTup {R : It → Hp → Prop} (q : te σ H fun x H1 => ∃ a, x = .ref a ∧ (∃ xs, SqT K H1 a xs) ∧ R (Itt K a) H1) : iTup K te σ H R := q
theorem w_iAt {p : Addr} {P : Addr → Prop} (q : P p) : ∃ a, V.ref p = .ref a ∧ P a := ⟨p, rfl, q⟩
end
theorem w_lc {wi : TI} {g : TG} {tt : TT} {te : TE} {vs : List Nat} {σ : L2.St} {H : Hp} {Q : VK} (q : wi σ H fun J H1 => ∀ D, H1 D = none → ∃ W : Nat → Nat → Hp → Prop, (∃ m, W 0 m (upd H1 D (.lst []))) ∧ ∀ i m H, W i m H →
  (J.stop i H ∧ Q (.ref D) H) ∨ (J.go i H ∧ ∃ Nx : Hp → Prop, (∀ H', Nx H' → ∃ m', m' < m ∧ W (i + 1) m' H') ∧ ∀ x H', J.yld i H x H' → g x (wipe σ vs) H' fun σ2 H2 => wipe σ2 vs = wipe σ vs ∧ tt σ2 H2 fun b H3 =>
    if b = true then te σ2 H3 fun y H4 => ∃ acc, H4 D = some (.lst acc) ∧ acc.length < sizeLine ∧ Nx (upd H4 D (.lst (acc ++ [y]))) else Nx H3)) : tLc wi g tt te vs σ H Q := q
theorem w_iStr {te : TE} {σ : L2.St} {H : Hp} {R : It → Hp → Prop} (q : te σ H fun v H1 => ∃ x, v = .str x ∧ R (Its x) H1) : iStr te σ H R := q
theorem w_isS {z : Str} {P : Str → Prop} (q : P z) : ∃ x, V.str z = .str x ∧ P x := ⟨z, rfl, q⟩
theorem w_iL {K : PySem.W.Frag} {H : Hp} {a : Addr} {xs : List V} {P : Prop} (h : SqL K H a xs) (q : P) : (∃ xs, SqL K H a xs) ∧ P := ⟨⟨xs, h⟩, q⟩
theorem w_iT {K : PySem.W.Frag} {H : Hp} {a : Addr} {xs : List V} {P : Prop} (h : SqT K H a xs) (q : P) : (∃ xs, SqT K H a xs) ∧ P := ⟨⟨xs, h⟩, q⟩
theorem w_leS {x y : Str} {H : Hp} {Q : VK} (q : Q (.bl (!decide (y.cps.toList < x.cps.toList))) H) : rLeS (.str x) (.str y) H Q := ⟨x, y, rfl, rfl, q⟩
theorem w_all {K : PySem.W.Frag} {H : Hp} {Q : VK} {a : Addr} {bs : List Bool} (h : SqL K H a (bs.map V.bl)) (q : Q (.bl (bs.all id)) H) : rAll K [.ref a] H Q := ⟨a, bs, rfl, h, q⟩
theorem w_ord {H : Hp} {Q : VK} {c : Nat} (q : Q (.int (c : Int)) H) : rOrd [.str ⟨#[c]⟩] H Q := ⟨_, rfl, rfl, q⟩
theorem w_nx {N : L2.St → Hp → Prop} {rt : VK} {bk ct : L2.St → Hp → Prop} {σ : L2.St} {H : Hp} (q : N σ H) : Ends.nx ⟨N, rt, bk, ct⟩ σ H := q
theorem w_rt {N : L2.St → Hp → Prop} {rt : VK} {bk ct : L2.St → Hp → Prop} {v : V} {H : Hp} (q : rt v H) : Ends.rt ⟨N, rt, bk, ct⟩ v H := q
theorem w_ct {N : L2.St → Hp → Prop} {rt : VK} {bk ct : L2.St → Hp → Prop} {σ : L2.St} {H : Hp} (q : ct σ H) : Ends.ct ⟨N, rt, bk, ct⟩ σ H := q
theorem w_bk {N : L2.St → Hp → Prop} {rt : VK} {bk ct : L2.St → Hp → Prop} {σ : L2.St} {H : Hp} (q : bk σ H) : Ends.bk ⟨N, rt, bk, ct⟩ σ H := q
theorem sq {K : PySem.W.Frag} {H : Hp} {a : Addr} {xs : List V} (h : H a = some (.lst xs)) : SqL K H a xs := .inl (.inl h)
theorem sqt {K : PySem.W.Frag} {H : Hp} {a : Addr} {xs : List V} (h : H a = some (.tup xs)) : SqT K H a xs := .inl (.inl h)
theorem upd_new {H : Hp} {p q : Addr} {o u : HO} (n : H p = none) (h : H q = some u) : upd H p o q = some u := (upd_ne (ne_of_none h n)).trans h
theorem ite_d {p : Prop} [Decidable p] {A B : Prop} (h1 : p → A) (h2 : ¬ p → B) : if decide p = true then A else B := by
  by_cases h : p
  · rw [if_pos (decide_eq_true h)]; exact h1 h
  · rw [if_neg (by rw [decide_eq_false h]; decide)]; exact h2 h
theorem ite_nd {p : Prop} [Decidable p] {A B : Prop} (h1 : ¬ p → A) (h2 : p → B) : if (!decide p) = true then A else B := by
  by_cases h : p
  · rw [if_neg (by rw [decide_eq_true h]; decide)]; exact h2 h
  · rw [if_pos (by rw [decide_eq_false h]; rfl)]; exact h1 h
theorem wmul {i j : Int} {a b : Nat} (ha : i.natAbs < 2 ^ a) (hb : j.natAbs < 2 ^ b) (h : a + b ≤ 900000) : CMulW i j :=
  wide_mul (a := a + 1) (b := b + 1) (Nat.lt_trans ha (Nat.pow_lt_pow_right (by decide) (Nat.lt_succ_self _))) (Nat.lt_trans hb (Nat.pow_lt_pow_right (by decide) (Nat.lt_succ_self _))) (Nat.succ_pos _) (Nat.succ_pos _) (by omega)
theorem wdiv {i j : Int} {b : Nat} (h : 0 < j) (hb : j.natAbs < 2 ^ b) (h9 : b ≤ 8000) : CDivW i j :=
  wide_div (b := b + 1) h (Nat.lt_trans hb (Nat.pow_lt_pow_right (by decide) (Nat.lt_succ_self _))) (Nat.succ_pos _) (by omega)
/-- products: one side small, or both of bounded bits -/
noncomputable def CMx (i j : Int) : Prop := CMul i j ∨ CMulW i j
theorem oMul {X : Cx} : OpR X (binaryOp .Mult) (rI CMx fun i j => .int (i * j)) := opI fun _ _ _ _ _ _ _ hc q => hc.elim (fun h => mul_int q h.ok) (fun h => mul_int q h.ok)
theorem mx_l {i j : Int} (h : -(2 ^ 64) < i ∧ i < 2 ^ 64) : CMx i j := .inl (.inl h)
theorem mx_r {i j : Int} (h : -(2 ^ 64) < j ∧ j < 2 ^ 64) : CMx i j := .inl (.inr h)
theorem mx_w {i j : Int} {a b : Nat} (ha : i.natAbs < 2 ^ a) (hb : j.natAbs < 2 ^ b) (h : a + b ≤ 900000) : CMx i j := .inr (wmul ha hb h)
theorem wdiv60 {i j : Int} (h : 0 < j) (hb : j < 2 ^ 60) : CDivW i j := wdiv (b := 60) h (by omega) (by decide)
structure Bt (mg : Str → Option Value) : Prop where
  len : mg "len" = none
  int : mg "int" = none
  abs : mg "abs" = none
  max : mg "max" = none
  min : mg "min" = none
  range : mg "range" = none
  isinstance : mg "isinstance" = none
  list : mg "list" = none
  tuple : mg "tuple" = none
  str : mg "str" = none
  bool : mg "bool" = none
  ord : mg "ord" = none
  all : mg "all" = none
  enumerate : mg "enumerate" = none
  zip : mg "zip" = none
/-- a list of three ints at a: what is left of a great number, a seed, a count up to c -/
noncomputable def Purse (H : Hp) (a : Addr) (c : Int) : Prop := ∃ x y z : Int, H a = some (.lst [.int x, .int y, .int z]) ∧ 0 ≤ x ∧ x < 2 ^ 1600 ∧ 0 ≤ y ∧ y < 2 ^ 31 ∧ 0 ≤ z ∧ z ≤ c
/-- all but what stands at a is kept -/
noncomputable def Keep (a : Addr) (H H' : Hp) : Prop := ∀ b o, b ≠ a → H b = some o → H' b = some o
theorem Keep.refl {a : Addr} {H : Hp} : Keep a H H := fun _ _ _ h => h
theorem Keep.trans {a : Addr} {H H1 H2 : Hp} (k : Keep a H H1) (l : Keep a H1 H2) : Keep a H H2 := fun b o n h => l b o n (k b o n h)
theorem Keep.of {a : Addr} {H H' : Hp} (s : Same H H') : Keep a H H' := fun b o _ h => s b o h
theorem Keep.at_ {a b : Addr} {o : HO} {H H' : Hp} (k : Keep a H H') (n : b ≠ a) (h : H b = some o) : H' b = some o := k b o n h
theorem Same.new {H : Hp} {p : Addr} {o : HO} (n : H p = none) : Same H (upd H p o) := fun b u h => upd_new n h
theorem Purse.same {H H' : Hp} {a : Addr} {c : Int} (p : Purse H a c) (s : Same H H') : Purse H' a c := by
  obtain ⟨x, y, z, h, r⟩ := p
  exact ⟨x, y, z, s _ _ h, r⟩
theorem Purse.le {H : Hp} {a : Addr} {c d : Int} (p : Purse H a c) (h : c ≤ d) : Purse H a d := by
  obtain ⟨x, y, z, h0, h1, h2, h3, h4, h5, h6⟩ := p
  exact ⟨x, y, z, h0, h1, h2, h3, h4, h5, by omega⟩
section
variable {P : Program} {w : World} {K : PySem.W.Frag} {mg : Str → Option Value} {base : Heap}
/-- a def of the module without defaults -/
structure Dn (K : PySem.W.Frag) (mg : Str → Option Value) (x : Str) (st : Stmt) (ps : List Str) : Prop where
  ex : ∃ (f : Addr) (fd : FuncData), L2.Fun K x x st f fd ∧ mg x = some (.ref f) ∧ Binds K fd ps []
theorem Dn.cal {x : Str} {st : Stmt} {N ps : List Str} {k : Nat} {sp : Sp} (F : Dn K mg x st ps) (S : FnScope N ps (defScope st)) (len : ∀ vs H Q E, sp vs H Q E → vs.length = ps.length)
    (hbody : ∀ (f : Addr) (cdv : Value) (A : Around) (outer : List Env) (s : Shared) (H : Hp) (vs : List V) (Q : VK) (E : XK), Room k (A.deeper (envOfC x (defScope st) s.heap.objs.size f cdv)) → sp vs H Q E →
      ∃ t, PSs (cxOf CX0 P w K mg base N x (defScope st) f cdv A outer s H E).nox (defBody st) t ∧ t { nx := fun _ H' => Q .non H', rt := Q } (start N vs) H) : C8.Cal P w K mg base (k + 1) x sp [] := by
  obtain ⟨f, fd, F1, m, b⟩ := F.ex
  exact ⟨f, fd, ps, [], F1.ok S len (fun cdv A outer s H vs Q E hr h => hbody f cdv A outer s H vs Q E hr h), m, F1.kp, b, .nil⟩
end
theorem atI_ints {ns : List Int} {i : Int} (h0 : 0 ≤ i) (h1 : i < (ns.map V.int).length) : atI (ns.map V.int) i = some (.int (ns.getD i.toNat 0)) := by
  obtain ⟨j, rfl⟩ := Int.eq_ofNat_of_zero_le h0
  rw [List.length_map] at h1
  have h2 : j < ns.length := by omega
  refine atI_nat ?_
  rw [List.getElem?_map, List.getElem?_eq_getElem h2]
  simp [List.getD, h2]
theorem Keep.upd {a : Addr} {H H' : Hp} {o : HO} (k : Keep a H H') : Keep a H (upd H' a o) := fun b u n h => by rw [upd_ne n]; exact k b u n h
section
variable {c : TT} {tb : TS} {D : Ends} {σ : L2.St} {H : Hp}
theorem while_go (Pv : L2.St → Hp → Prop) (μ : L2.St → Hp → Nat) (h0 : Pv σ H) (hs : ∀ σ H, Pv σ H → c σ H fun b H1 => if b = true then (∃ N : L2.St → Hp → Prop, (∀ σ' H', N σ' H' → ∃ m', m' < μ σ H ∧ (m' = μ σ' H' ∧ Pv σ' H')) ∧
      tb { D with nx := N, ct := N, bk := D.nx } σ H1) else D.nx σ H1) : tWhile c tb D σ H := ⟨fun m σ H => m = μ σ H ∧ Pv σ H, ⟨_, rfl, h0⟩, fun m σ H h => by
  obtain ⟨e, p⟩ := h
  subst e
  exact hs σ H p⟩
theorem while_n {Pv : L2.St → Hp → Prop} {μ : L2.St → Hp → Nat} {k : Nat} (q : tb { D with nx := fun σ' H' => μ σ' H' < k ∧ Pv σ' H', ct := fun σ' H' => μ σ' H' < k ∧ Pv σ' H', bk := D.nx } σ H) :
    ∃ N : L2.St → Hp → Prop, (∀ σ' H', N σ' H' → ∃ m', m' < k ∧ (m' = μ σ' H' ∧ Pv σ' H')) ∧ tb { D with nx := N, ct := N, bk := D.nx } σ H := ⟨_, fun _ _ h => ⟨_, h.1, rfl, h.2⟩, q⟩
end
theorem w_isi {K : PySem.W.Frag} {H : Hp} {Q : VK} {x : V} {t : Value} {n : String} {b : Bool} (ty : TyX K H x t) (k : PySem.W.kitOne K t (.type n) = some b) (q : Q (.bl b) H) : rIsi K [x, .ty n] H Q := ⟨x, .ty n, t, .type n, b, rfl, .ty n, ty, k, q⟩
theorem w_isiC {K : PySem.W.Frag} {H : Hp} {Q : VK} {x : V} {t : Value} {C : Addr} {b : Bool} (ty : TyX K H x t) (k : PySem.W.kitOne K t (.ref C) = some b) (q : Q (.bl b) H) : rIsi K [x, .ref C] H Q := ⟨x, .ref C, t, .ref C, b, rfl, .own C, ty, k, q⟩
theorem w_isi2 {K : PySem.W.Frag} {H : Hp} {Q : VK} {x : V} {t : Value} {m n : String} {p : Addr} {b : Bool} (h : H p = some (.tup [.ty m, .ty n])) (ty : TyX K H x t) (k : PySem.W.kitAny K t [.type m, .type n] = some b) (q : Q (.bl b) H) : rIsiT K [x, .ref p] H Q :=
  ⟨x, p, _, t, _, b, rfl, h, .cons (.ty m) (.cons (.ty n) .nil), ty, k, q⟩
theorem ty_int {K : PySem.W.Frag} {H : Hp} (i : Int) : TyX K H (.int i) (.type "int") := .base (.int i)
noncomputable def spIsInt (K : PySem.W.Frag) : Sp := fun vs H Q _ => ∃ (v : V) (t : Value) (b1 b2 : Bool), vs = [v] ∧ TyX K H v t ∧ PySem.W.kitOne K t (.type "int") = some b1 ∧ PySem.W.kitOne K t (.type "bool") = some b2 ∧ Q (.bl (b1 && !b2)) H
theorem use_isInt {K : PySem.W.Frag} {H : Hp} {Q : VK} {E : XK} {i : Int} (q : Q (.bl true) H) : spIsInt K ([.int i] ++ []) H Q E := ⟨.int i, _, true, false, rfl, ty_int i, kit_ty (by decide +kernel), kit_ty (by decide +kernel), q⟩
noncomputable def spRaised : Sp := fun vs H Q _ => ∃ (f p : Int) (b : Nat), vs = [.int f, .int p] ∧ 0 ≤ p ∧ p < 2 ^ 40 ∧ f.natAbs < 2 ^ b ∧ b * p.toNat + b ≤ 100000 ∧ Q (.int (f ^ p.toNat)) H
noncomputable def Pr (n : Int) : Prop := 1 < n ∧ ∀ d : Int, 2 ≤ d → d * d ≤ n → n % d ≠ 0
noncomputable def spPrime : Sp := fun vs H Q _ => ∃ n : Int, vs = [.int n] ∧ n < 2 ^ 60 ∧ ∀ b : Bool, (b = true ↔ Pr n) → Q (.bl b) H
theorem natAbs_pow_lt {f : Int} {b : Nat} (h : f.natAbs < 2 ^ b) (n : Nat) : (f ^ n).natAbs < 2 ^ (b * n + 1) := by
  rw [Int.natAbs_pow]
  have h1 : f.natAbs ^ n ≤ (2 ^ b) ^ n := Nat.pow_le_pow_left (Nat.le_of_lt h) n
  rw [← Nat.pow_mul] at h1
  exact Nat.lt_of_le_of_lt h1 (Nat.pow_lt_pow_right (by decide) (Nat.lt_succ_self _))
section
variable {J : It} {G : Hp → Prop} {te : TE} {vs : List Nat} {σ : L2.St} {H : Hp} {D : Addr} {Qd : Hp → Prop} {j : Nat}
theorem lc_pure (xs ys : List V) (w : Walk J xs.length G (YAt xs)) (hD : H D = none) (hG : ∀ H', Same H H' → G H') (hl : ys.length = xs.length) (sz : ys.length ≤ 100000)
    (wp : ∀ v, wipe ((wipe σ vs).set j v) vs = wipe σ vs)
    (step : ∀ (i : Nat) (x y : V) (H' : Hp), xs[i]? = some x → ys[i]? = some y → Same H H' → ∀ Q' : VK, (∀ H'', Same H' H'' → Q' y H'') → te ((wipe σ vs).set j (some x)) H' Q')
    (q : ∀ H', Same H H' → H' D = some (.lst ys) → Qd H') :
    ∃ W : Nat → Nat → Hp → Prop, (∃ m, W 0 m (upd H D (.lst []))) ∧ ∀ i m H, W i m H →
      (J.stop i H ∧ Qd H) ∨ (J.go i H ∧ ∃ Nx : Hp → Prop, (∀ H', Nx H' → ∃ m', m' < m ∧ W (i + 1) m' H') ∧ ∀ x H', J.yld i H x H' → gName j x (wipe σ vs) H' fun σ2 H2 => wipe σ2 vs = wipe σ vs ∧ tYes σ2 H2 fun b H3 =>
        if b = true then te σ2 H3 fun y H4 => ∃ acc, H4 D = some (.lst acc) ∧ acc.length < sizeLine ∧ Nx (upd H4 D (.lst (acc ++ [y]))) else Nx H3) := by
  refine lc_it w (fun i H' => H' D = some (.lst (ys.take i)) ∧ Same H H') ⟨upd_same, Same.new hD⟩ (fun i H' _ h => hG H' h.2) ?_ ?_
  · rintro i x H1 H' hi ⟨h1, h2⟩ ⟨rfl, hx⟩
    refine ⟨wp _, w_yes ?_⟩
    rw [if_pos rfl]
    have hi' : i < ys.length := by omega
    refine step i x ys[i] H' hx (by simp [hi']) h2 _ fun H'' h3 => ?_
    refine ⟨_, h3 _ _ h1, ?_, ?_, ?_⟩
    · rw [List.length_take]
      have : (100000 : Nat) < sizeLine := by decide
      omega
    · rw [upd_same, List.take_succ_eq_append_getElem hi']
    · exact fun b o e => by
        rw [upd_ne (ne_of_none e hD)]
        exact h3 _ _ (h2 _ _ e)
  · rintro H' ⟨h1, h2⟩
    refine q H' h2 ?_
    rw [h1, ← hl, List.take_length]
end
theorem walk_strY {z : Str} : Walk (Its z) (z.cps.toList.map fun c => V.str ⟨#[c]⟩).length (fun _ => True) (YAt (z.cps.toList.map fun c => V.str ⟨#[c]⟩)) := by
  have h := walk_str (z := z)
  have e : (z.cps.toList.map fun c => V.str ⟨#[c]⟩).length = z.cps.size := by simp
  rw [e]
  refine h.mono (fun _ h => h) (fun i H x H' hi _ y => ?_)
  obtain ⟨rfl, c, hc, rfl⟩ := y
  refine ⟨rfl, ?_⟩
  rw [List.getElem?_map, Array.getElem?_toList, hc]
  rfl
/-- a text's value and its letters -/
inductive TextAt (H : Hp) : V → List Int → Prop where
  | str (z : Str) (h : ∀ c ∈ z.cps.toList, 32 ≤ c ∧ c ≤ 126) (l : z.length ≤ 100000) : TextAt H (.str z) (z.cps.toList.map Int.ofNat)
  | lst (a : Addr) (ls : List Int) (h : H a = some (.lst (ls.map V.int))) (l : ls.length ≤ 100000) : TextAt H (.ref a) ls
  | tup (a : Addr) (ls : List Int) (h : H a = some (.tup (ls.map V.int))) (l : ls.length ≤ 100000) : TextAt H (.ref a) ls
theorem TextAt.same {H H' : Hp} {v : V} {ls : List Int} (t : TextAt H v ls) (s : Same H H') : TextAt H' v ls := by
  cases t with
  | str z h l => exact .str z h l
  | lst a _ h l => exact .lst a _ (s _ _ h) l
  | tup a _ h l => exact .tup a _ (s _ _ h) l
theorem TextAt.len {H : Hp} {v : V} {ls : List Int} (t : TextAt H v ls) : ls.length ≤ 100000 := by
  cases t with
  | str z h l => rw [List.length_map]; exact l
  | lst a _ h l => exact l
  | tup a _ h l => exact l
theorem lt1 {a b : Nat} : (([a] : List Nat) < [b]) ↔ a < b := by simp [List.cons_lt_cons_iff]
theorem sign_lo {c : Nat} (h : 32 ≤ c) : decide ((Str.mk #[c]).cps.toList < (Str.ofString " ").cps.toList) = false := decide_eq_false fun z => by
  have : c < 32 := lt1.mp z
  omega
theorem sign_hi {c : Nat} (h : c ≤ 126) : decide ((Str.ofString "~").cps.toList < (Str.mk #[c]).cps.toList) = false := decide_eq_false fun z => by
  have : 126 < c := lt1.mp z
  omega
theorem all_true {α : Type} (l : List α) : (l.map fun _ => true).all id = true := by
  induction l with
  | nil => rfl
  | cons a r ih => rw [List.map_cons, List.all_cons, ih]; rfl
theorem get_map {α β : Type} {f : α → β} {l : List α} {i : Nat} {y : β} (h : (l.map f)[i]? = some y) : ∃ x, l[i]? = some x ∧ f x = y := by
  rw [List.getElem?_map] at h
  cases e : l[i]? with
  | none => rw [e] at h; cases h
  | some x => rw [e] at h; exact ⟨x, rfl, Option.some.inj h⟩
noncomputable def spIsText : Sp := fun vs H Q _ => ∃ (v : V) (ls : List Int), vs = [v] ∧ TextAt H v ls ∧ ∀ H', Same H H' → Q (.bl true) H'
noncomputable def spRead : Sp := fun vs H Q _ => ∃ (v : V) (ls : List Int), vs = [v] ∧ TextAt H v ls ∧ ∀ H' t, Same H H' → H' t = some (.tup (ls.map V.int)) → Q (.ref t) H'
theorem kitA {K : PySem.W.Frag} {t m n : String} {b : Bool} (h : (match kitB t m with | some true => some true | some false => (match kitB t n with | some true => some true | some false => some false | none => none) | none => none) = some b) : PySem.W.kitAny K (.type t) [.type m, .type n] = some b := h
noncomputable def num (ps : List (Int × Int)) : Int := ps.foldl (fun n p => n * p.1 ^ p.2.toNat) 1
noncomputable def Asc : Int → List (Int × Int) → Prop
  | _, [] => True
  | l, q :: r => l < q.1 ∧ 0 < q.2 ∧ Pr q.1 ∧ Asc q.1 r
noncomputable def Small (ps : List (Int × Int)) : Prop := (∀ q ∈ ps, 0 < q.1 ∧ q.1 < 1024 ∧ 0 < q.2 ∧ q.2 ≤ 100) ∧ ps.length ≤ 64
theorem num_snoc (ps : List (Int × Int)) (q : Int × Int) : num (ps ++ [q]) = num ps * q.1 ^ q.2.toNat := by
  unfold num
  rw [List.foldl_append]
  rfl
theorem num_take {ps : List (Int × Int)} {i : Nat} {q : Int × Int} (h : ps[i]? = some q) : num (ps.take (i + 1)) = num (ps.take i) * q.1 ^ q.2.toNat := by
  obtain ⟨hi, e⟩ := List.getElem?_eq_some_iff.mp h
  rw [List.take_succ_eq_append_getElem hi, num_snoc, e]
theorem num_bound {ps : List (Int × Int)} (h : Small ps) : ∀ i, i ≤ ps.length → 0 < num (ps.take i) ∧ (num (ps.take i)).natAbs < 2 ^ (1010 * i + 1)
  | 0, _ => by
    rw [List.take_zero]
    exact ⟨by decide, by decide⟩
  | i + 1, hi => by
    have ih := num_bound h i (by omega)
    have hlt : i < ps.length := by omega
    have hq := h.1 ps[i] (List.getElem_mem hlt)
    rw [num_take (q := ps[i]) (by simp [hlt])]
    have h1 : ((ps[i].1) ^ (ps[i].2.toNat)).natAbs < 2 ^ (10 * ps[i].2.toNat + 1) := natAbs_pow_lt (b := 10) (by show ps[i].1.natAbs < 1024; omega) _
    refine ⟨Int.mul_pos ih.1 (Int.pow_pos hq.1), ?_⟩
    have h2 := wide_lt ih.2 h1
    refine Nat.lt_of_lt_of_le h2 (Nat.pow_le_pow_right (by decide) ?_)
    omega
theorem num_pos {ps : List (Int × Int)} (h : Small ps) : 0 < num ps := by
  have := (num_bound h ps.length (Nat.le_refl _)).1
  rwa [List.take_length] at this
theorem num_lt {ps : List (Int × Int)} (h : Small ps) : (num ps).natAbs < 2 ^ 70000 := by
  have := (num_bound h ps.length (Nat.le_refl _)).2
  rw [List.take_length] at this
  refine Nat.lt_of_lt_of_le this (Nat.pow_le_pow_right (by decide) ?_)
  have := h.2
  omega
theorem Asc.at_ : ∀ {l : Int} {ps : List (Int × Int)} {i : Nat} {q : Int × Int}, Asc l ps → ps[i]? = some q → ((ps.take i).getLast?.map (·.1)).getD l < q.1 ∧ 0 < q.2 ∧ Pr q.1
  | l, [], i, q, _, h => by simp at h
  | l, r :: ps, 0, q, a, h => by
    have e : r = q := by simpa using h
    subst e
    exact ⟨a.1, a.2.1, a.2.2.1⟩
  | l, r :: ps, i + 1, q, a, h => by
    have ih := Asc.at_ (i := i) a.2.2.2 (by simpa using h)
    refine ⟨?_, ih.2⟩
    have e := ih.1
    rw [List.take_succ_cons, List.getLast?_cons]
    cases hh : (ps.take i).getLast? with
    | none => rw [hh] at e; exact e
    | some z => rw [hh] at e; exact e
noncomputable def Tp (H : Hp) (p : Int × Int) (t : Addr) : Prop := H t = some (.tup [.int p.1, .int p.2])
theorem paired_get {α β : Type} {R : α → β → Prop} : ∀ {xs : List α} {ys : List β} {i : Nat} {y : β}, Paired R xs ys → ys[i]? = some y → ∃ x, xs[i]? = some x ∧ R x y
  | _, _, _, _, .nil, h => by simp at h
  | _, _, 0, _, .cons r _, h => by
    have e := Option.some.inj (by simpa using h)
    subst e
    exact ⟨_, rfl, r⟩
  | _, _, i + 1, _, .cons _ t, h => by
    obtain ⟨x, h1, h2⟩ := paired_get (i := i) t (by simpa using h)
    exact ⟨x, by simpa using h1, h2⟩
theorem paired_imp {α β : Type} {R S : α → β → Prop} (h : ∀ x y, R x y → S x y) : ∀ {xs : List α} {ys : List β}, Paired R xs ys → Paired S xs ys
  | _, _, .nil => .nil
  | _, _, .cons r t => .cons (h _ _ r) (paired_imp h t)
theorem lk0 {f : Str} {v : V} {r : List (Str × V)} : List.lookup f ((f, v) :: r) = some v := by simp [List.lookup]
theorem lkS {f g : Str} {u : V} {r : List (Str × V)} (h : f ≠ g) : List.lookup f ((g, u) :: r) = List.lookup f r := by
  rw [List.lookup]
  have e : (f == g) = false := by simpa using h
  rw [e]
theorem putS {f g : Str} {u v : V} {r : List (Str × V)} (h : g ≠ f) : putF f v ((g, u) :: r) = (g, u) :: putF f v r := by
  unfold putF
  rw [if_neg h]
  cases r <;> rfl
theorem put0 {f : Str} {v : V} : putF f v [] = [(f, v)] := rfl
/-- a class whose instances are plain -/
structure ClsF (K : PySem.W.Frag) (C : Addr) : Prop where
  cl : Cls K C
  ha : PySem.W.findIn K (.ref C) "__class__" = some (some (.builtin "object.__class__"))
  hn : PySem.W.specialIn K (.builtin "object.__class__") "__get__" = some (some (.builtin "getset_descriptor.__get__"))
  htk : PySem.W.takesIn K (.builtin "object.__class__") = some true
  hm : PySem.W.mroIn K C (.type "object") = some true
theorem ClsF.ty {K : PySem.W.Frag} {C : Addr} (c : ClsF K C) {H : Hp} {a dx : Addr} {fs : List (Str × V)} (h : H a = some (.ins C dx fs)) : TyX K H (.ref a) (.ref C) := .base (.ins h c.cl c.ha c.hn c.htk c.hm)
theorem kit_own {K : PySem.W.Frag} {C : Addr} : PySem.W.kitOne K (.ref C) (.ref C) = some true := by
  unfold PySem.W.kitOne
  rw [if_pos (by simp)]
/-- the addresses of the three classes -/
structure CA where
  md : Addr
  kg : Addr
  wy : Addr
structure Kx (K : PySem.W.Frag) (mg : Str → Option Value) (c : CA) : Prop where
  md : ClsF K c.md
  kg : ClsF K c.kg
  wy : ClsF K c.wy
  mgMd : mg "Modulus" = some (.ref c.md)
  mgMk : mg "Marking" = some (.ref c.kg)
  mgWy : mg "Way" = some (.ref c.wy)
  number : NoAttr K c.md "number"
  factors : NoAttr K c.md "factors"
  low : NoAttr K c.kg "low"
  shift : NoAttr K c.kg "shift"
  lead : NoAttr K c.kg "lead"
  marking : NoAttr K c.wy "marking"
  modulus : NoAttr K c.wy "modulus"
  wnumber : NoAttr K c.wy "number"
  base : NoAttr K c.wy "base"
noncomputable def mdF (n : Int) (t : Addr) : List (Str × V) := [("number", .int n), ("factors", .ref t)]
noncomputable def mkF (low : Bool) (shift : Int) (lead : Bool) : List (Str × V) := [("low", .bl low), ("shift", .int shift), ("lead", .bl lead)]
noncomputable def wyF (k m : Addr) (n b : Int) : List (Str × V) := [("marking", .ref k), ("modulus", .ref m), ("number", .int n), ("base", .int b)]
noncomputable def ModAt (c : CA) (H : Hp) (m : Addr) (ps : List (Int × Int)) : Prop := ∃ (dx t : Addr) (ts : List Addr), H m = some (.ins c.md dx (mdF (num ps) t)) ∧ H t = some (.tup (ts.map V.ref)) ∧ Paired (Tp H) ps ts ∧ Asc 0 ps ∧ Small ps
noncomputable def MkAt (c : CA) (H : Hp) (k : Addr) (low : Bool) (shift : Int) (lead : Bool) : Prop := ∃ dx : Addr, H k = some (.ins c.kg dx (mkF low shift lead))
/-- how letters are added up -/
structure Sty where
  low : Bool
  shift : Int
  lead : Bool
noncomputable def WayAt (c : CA) (H : Hp) (a : Addr) (b : Int) (ps : List (Int × Int)) (y : Sty) : Prop := ∃ (dx m k : Addr), H a = some (.ins c.wy dx (wyF k m (num ps) b)) ∧ ModAt c H m ps ∧ MkAt c H k y.low y.shift y.lead ∧ 0 ≤ b ∧ b < num ps
theorem ModAt.same {c : CA} {H H' : Hp} {m : Addr} {ps : List (Int × Int)} (h : ModAt c H m ps) (s : Same H H') : ModAt c H' m ps := by
  obtain ⟨dx, t, ts, h1, h2, h3, h4⟩ := h
  exact ⟨dx, t, ts, s _ _ h1, s _ _ h2, paired_imp (fun _ _ z => s _ _ z) h3, h4⟩
theorem MkAt.same {c : CA} {H H' : Hp} {k : Addr} {l : Bool} {s : Int} {d : Bool} (h : MkAt c H k l s d) (e : Same H H') : MkAt c H' k l s d := by
  obtain ⟨dx, h1⟩ := h
  exact ⟨dx, e _ _ h1⟩
theorem WayAt.same {c : CA} {H H' : Hp} {a : Addr} {b : Int} {ps : List (Int × Int)} {y : Sty} (h : WayAt c H a b ps y) (s : Same H H') : WayAt c H' a b ps y := by
  obtain ⟨dx, m, k, h1, h2, h3, h4⟩ := h
  exact ⟨dx, m, k, s _ _ h1, h2.same s, h3.same s, h4⟩
/-- coefficients of the sum, that of the highest power first -/
noncomputable def hf (y : Sty) (ls : List Int) : List Int := (if y.lead then 1 else 0) :: (if y.low then (ls.map (· + y.shift)).reverse else ls.map (· + y.shift))
noncomputable def restAt (cs : List Int) (b n : Int) : Int := cs.foldl (fun f c => (f * b + c) % n) 0
noncomputable def mark (y : Sty) (b n : Int) (ls : List Int) : Int := restAt (hf y ls) b n
section
variable {σ : L2.St} {H : Hp} {D : Ends} {Q : VK} {K : PySem.W.Frag} {ta tv : TE} {f : Str} {x C dx : Addr} {fs : List (Str × V)} {v y : V}
theorem w_fldi {P : V → Prop} (h : H x = some (.ins C dx fs)) (c : Cls K C) (n : NoAttr K C f) (l : fs.lookup f = some v) (q : P v) : ∃ a C dx fs v, V.ref x = .ref a ∧ H a = some (.ins C dx fs) ∧ Cls K C ∧ NoAttr K C f ∧ fs.lookup f = some v ∧ P v := ⟨x, C, dx, fs, v, rfl, h, c, n, l, q⟩
theorem w_sfld (q : tv σ H fun y H1 => ta σ H1 fun x H2 => ∃ a C dx fs, x = .ref a ∧ H2 a = some (.ins C dx fs) ∧ Cls K C ∧ NoAttr K C f ∧ fs.length < 1000 ∧ D.nx σ (upd H2 a (.ins C dx (putF f y fs)))) : sFld K ta tv f D σ H := q
theorem w_sfldi {P : Hp → Prop} (h : H x = some (.ins C dx fs)) (c : Cls K C) (n : NoAttr K C f) (l : fs.length < 1000) (q : P (upd H x (.ins C dx (putF f y fs)))) : ∃ a C dx fs, V.ref x = .ref a ∧ H a = some (.ins C dx fs) ∧ Cls K C ∧ NoAttr K C f ∧ fs.length < 1000 ∧ P (upd H a (.ins C dx (putF f y fs))) :=
  ⟨x, C, dx, fs, rfl, h, c, n, l, q⟩
theorem w_make {sp : Sp} {dvs : List V} {E : XK} {as : TA} (q : as σ H fun vs H1 => ∀ x dx, H1 x = none → H1 dx = none → dx ≠ x → sp (.ref x :: (vs ++ dvs)) (upd (upd H1 dx (.own x)) x (.ins C dx [])) (fun v H2 => v = .non ∧ Q (.ref x) H2) E) : tMake C sp dvs E as σ H Q := q
theorem w_meth {m : Str} {sp : Sp} {dvs : List V} {E : XK} {as : TA} (q : ta σ H fun x H1 => ∃ a dx fs, x = .ref a ∧ H1 a = some (.ins C dx fs) ∧ fs.lookup m = none ∧ as σ H1 fun vs H2 => sp (x :: (vs ++ dvs)) H2 Q E) : tMeth C m sp dvs E ta as σ H Q := q
theorem w_methi {m : Str} {P : Addr → Prop} (h : H x = some (.ins C dx fs)) (l : fs.lookup m = none) (q : P x) : ∃ a dx fs, V.ref x = .ref a ∧ H a = some (.ins C dx fs) ∧ fs.lookup m = none ∧ P a := ⟨x, dx, fs, rfl, h, l, q⟩
theorem w_iEnum {K : PySem.W.Frag} {as : TA} {R : It → Hp → Prop} (q : as σ H fun vs H1 => ∃ a xs, vs = [.ref a] ∧ SqL K H1 a xs ∧ R (Ite K a) H1) : iEnum K as σ H R := q
theorem w_enumi {K : PySem.W.Frag} {a : Addr} {xs : List V} {P : Addr → Prop} (h : SqL K H a xs) (q : P a) : ∃ a' xs', [V.ref a] = [.ref a'] ∧ SqL K H a' xs' ∧ P a' := ⟨a, xs, rfl, h, q⟩
end
theorem mk_same {H H' : Hp} {x dx C : Addr} (nx : H x = none) (nd : H dx = none) (k : ∀ b o, b ≠ x → (upd (upd H dx (.own x)) x (.ins C dx [])) b = some o → H' b = some o) : Same H H' := fun b o e =>
  k b o (ne_of_none e nx) (by rw [upd_ne (ne_of_none e nx), upd_ne (ne_of_none e nd)]; exact e)
/-- __init__ of an own class by its body -/
theorem fnD_ok {P : Program} {w : World} {K : PySem.W.Frag} {mg : Str → Option Value} {base : Heap} {x qual : Str} {st : Stmt} {dvs : List V} {kws : List (Str × V)} {f : Addr} {fd : FuncData} {N ps : List Str} {k : Nat} {sp : Sp}
    (F : FunD K x qual (defArgs st) (defBody st) (defScope st) dvs kws f fd) (S : FnScope N ps (defScope st)) (len : ∀ vs H Q E, sp vs H Q E → vs.length = ps.length)
    (hbody : ∀ (cdv : Value) (A : Around) (outer : List Env) (s : Shared) (H : Hp) (vs : List V) (Q : VK) (E : XK), Room k (A.deeper (envOfC qual (defScope st) s.heap.objs.size f cdv)) → sp vs H Q E →
      ∃ t, PSs (cxOf CX0 P w K mg base N qual (defScope st) f cdv A outer s H E).nox (defBody st) t ∧ t { nx := fun _ H' => Q .non H', rt := Q } (start N vs) H) : FnOk P w K mg base CX0 (k + 1) f fd ps sp := by
  refine F.ok S len fun cdv A outer s H vs Q E hr h => ?_
  obtain ⟨t, h1, h2⟩ := hbody cdv A outer s H vs Q E hr h
  exact ⟨t, h1.nox, h2⟩
noncomputable def spIsFactor : Sp := fun vs H Q _ => ∃ (t : Addr) (l p k : Int), vs = [.ref t, .int l] ∧ H t = some (.tup [.int p, .int k]) ∧ p < 2 ^ 60 ∧ ∀ b : Bool, (b = true ↔ l < p ∧ 0 < k ∧ Pr p) → Q (.bl b) H
noncomputable def spModInit (c : CA) : Sp := fun vs H Q _ => ∃ (x dx l : Addr) (ts : List Addr) (ps : List (Int × Int)), vs = [.ref x, .ref l] ∧ H x = some (.ins c.md dx []) ∧ H l = some (.lst (ts.map V.ref)) ∧ Paired (Tp H) ps ts ∧ Asc 0 ps ∧ Small ps ∧
  ∀ H' t, (∀ b o, b ≠ x → H b = some o → H' b = some o) → H' x = some (.ins c.md dx (mdF (num ps) t)) → H' t = some (.tup (ts.map V.ref)) → Q .non H'
theorem use_mod {c : CA} {H : Hp} {PP : Addr → Hp → Prop} {E : XK} {l : Addr} {ts : List Addr} {ps : List (Int × Int)} (hl : H l = some (.lst (ts.map V.ref))) (hp : Paired (Tp H) ps ts) (ha : Asc 0 ps) (hs : Small ps) (q : ∀ m H', H m = none → Same H H' → ModAt c H' m ps → PP m H') :
    ∀ x dx, H x = none → H dx = none → dx ≠ x → spModInit c (.ref x :: ([.ref l] ++ [])) (upd (upd H dx (.own x)) x (.ins c.md dx [])) (fun v H2 => v = .non ∧ PP x H2) E := fun x dx nx nd ne => by
  have up : Same H (upd (upd H dx (.own x)) x (.ins c.md dx [])) := fun b o e => by rw [upd_ne (ne_of_none e nx), upd_ne (ne_of_none e nd)]; exact e
  refine ⟨x, dx, l, ts, ps, rfl, upd_same, up _ _ hl, paired_imp (fun _ _ z => up _ _ z) hp, ha, hs, fun H' t k h1 h2 => ⟨rfl, ?_⟩⟩
  have sm : Same H H' := mk_same nx nd k
  exact q x H' nx sm ⟨dx, t, ts, h1, h2, paired_imp (fun _ _ z => sm _ _ z) hp, ha, hs⟩
noncomputable def spMkInit (c : CA) : Sp := fun vs H Q _ => ∃ (x dx : Addr) (l : Bool) (s : Int) (d : Bool), vs = [.ref x, .bl l, .int s, .bl d] ∧ H x = some (.ins c.kg dx []) ∧
  ∀ H', (∀ b o, b ≠ x → H b = some o → H' b = some o) → H' x = some (.ins c.kg dx (mkF l s d)) → Q .non H'
theorem use_mk {c : CA} {H : Hp} {PP : Addr → Hp → Prop} {E : XK} {l : Bool} {s : Int} {d : Bool} (q : ∀ m H', H m = none → Same H H' → MkAt c H' m l s d → PP m H') :
    ∀ x dx, H x = none → H dx = none → dx ≠ x → spMkInit c [.ref x, .bl l, .int s, .bl d] (upd (upd H dx (.own x)) x (.ins c.kg dx [])) (fun v H2 => v = .non ∧ PP x H2) E := fun x dx nx nd ne =>
  ⟨x, dx, l, s, d, rfl, upd_same, fun H' k h1 => ⟨rfl, q x H' nx (mk_same nx nd k) ⟨dx, h1⟩⟩⟩
noncomputable def spHf (c : CA) : Sp := fun vs H Q _ => ∃ (k a : Addr) (y : Sty) (ls : List Int), vs = [.ref k, .ref a] ∧ MkAt c H k y.low y.shift y.lead ∧ H a = some (.tup (ls.map V.int)) ∧ ls.length ≤ 100000 ∧ ∀ H' l, Same H H' → H' l = some (.lst ((hf y ls).map V.int)) → Q (.ref l) H'
noncomputable def spRestAt : Sp := fun vs H Q _ => ∃ (a : Addr) (cs : List Int) (b n : Int) (B : Nat), vs = [.ref a, .int b, .int n] ∧ H a = some (.lst (cs.map V.int)) ∧ 0 ≤ b ∧ b < n ∧ n.natAbs < 2 ^ B ∧ B ≤ 100000 ∧ Q (.int (restAt cs b n)) H
noncomputable def spMkOf (c : CA) : Sp := fun vs H Q _ => ∃ (v : V) (y : Sty), vs = [v] ∧ ((v = .non ∧ y = ⟨false, 0, false⟩) ∨ ∃ k, v = .ref k ∧ MkAt c H k y.low y.shift y.lead) ∧ ∀ H' k, Same H H' → MkAt c H' k y.low y.shift y.lead → Q (.ref k) H'
noncomputable def spReqMod (c : CA) : Sp := fun vs H Q _ => ∃ (m dx : Addr) (fs : List (Str × V)), vs = [.ref m] ∧ H m = some (.ins c.md dx fs) ∧ Q .non H
noncomputable def spWayInit (c : CA) : Sp := fun vs H Q _ => ∃ (x dx m : Addr) (b : Int) (mv : V) (ps : List (Int × Int)) (y : Sty), vs = [.ref x, .int b, .ref m, mv] ∧ H x = some (.ins c.wy dx []) ∧ ModAt c H m ps ∧ ((mv = .non ∧ y = ⟨false, 0, false⟩) ∨ ∃ k, mv = .ref k ∧ MkAt c H k y.low y.shift y.lead) ∧
  ∀ H' k, (∀ b o, b ≠ x → H b = some o → H' b = some o) → H' x = some (.ins c.wy dx (wyF k m (num ps) (b % num ps))) → MkAt c H' k y.low y.shift y.lead → Q .non H'
theorem use_way {c : CA} {H : Hp} {PP : Addr → Hp → Prop} {E : XK} {m : Addr} {b : Int} {mv : V} {ps : List (Int × Int)} {y : Sty} (hm : ModAt c H m ps) (hk : (mv = .non ∧ y = ⟨false, 0, false⟩) ∨ ∃ k, mv = .ref k ∧ MkAt c H k y.low y.shift y.lead)
    (q : ∀ m H', H m = none → Same H H' → WayAt c H' m (b % num ps) ps y → PP m H') :
    ∀ x dx, H x = none → H dx = none → dx ≠ x → spWayInit c [.ref x, .int b, .ref m, mv] (upd (upd H dx (.own x)) x (.ins c.wy dx [])) (fun v H2 => v = .non ∧ PP x H2) E := fun x dx nx nd ne => by
  have up : Same H (upd (upd H dx (.own x)) x (.ins c.wy dx [])) := fun b o e => by rw [upd_ne (ne_of_none e nx), upd_ne (ne_of_none e nd)]; exact e
  refine ⟨x, dx, m, b, mv, ps, y, rfl, upd_same, hm.same up, ?_, fun H' k kp h1 h2 => ⟨rfl, ?_⟩⟩
  · rcases hk with h | ⟨k, e, h⟩
    · exact .inl h
    · exact .inr ⟨k, e, h.same up⟩
  · have sm : Same H H' := mk_same nx nd kp
    have hn : 0 < num ps := by
      obtain ⟨_, _, _, _, _, _, _, h⟩ := hm
      exact num_pos h
    exact q x H' nx sm ⟨dx, m, k, h1, hm.same sm, h2, Int.emod_nonneg _ (by omega), Int.emod_lt_of_pos _ hn⟩
noncomputable def spOfLetters (c : CA) : Sp := fun vs H Q _ => ∃ (x a : Addr) (b : Int) (ps : List (Int × Int)) (y : Sty) (ls : List Int), vs = [.ref x, .ref a] ∧ WayAt c H x b ps y ∧ H a = some (.tup (ls.map V.int)) ∧ ls.length ≤ 100000 ∧ ∀ H', Same H H' → Q (.int (mark y b (num ps) ls)) H'
noncomputable def spMarkOf (c : CA) : Sp := fun vs H Q _ => ∃ (x : Addr) (v : V) (b : Int) (ps : List (Int × Int)) (y : Sty) (ls : List Int), vs = [.ref x, v] ∧ WayAt c H x b ps y ∧ TextAt H v ls ∧ ∀ H', Same H H' → Q (.int (mark y b (num ps) ls)) H'
noncomputable def spTwo (c : CA) (r : Sty → Int → Int → List Int → List Int → Bool) : Sp := fun vs H Q _ => ∃ (x : Addr) (v u : V) (b : Int) (ps : List (Int × Int)) (y : Sty) (ls ms : List Int), vs = [.ref x, v, u] ∧ WayAt c H x b ps y ∧ TextAt H v ls ∧ TextAt H u ms ∧ ∀ H', Same H H' → Q (.bl (r y b (num ps) ls ms)) H'
noncomputable def rAgree (y : Sty) (b n : Int) (ls ms : List Int) : Bool := decide (mark y b n ls = mark y b n ms)
section
variable {X : Cx} {k j : Nat} {x : Str} {C : Addr} {sp : Sp} {dvs : List V} {p pos : Pos} {ks : List Str} {gV : List V → List V → List V} {kws : List Keyword} {tk : TA}
theorem pe_mk0 (c : C8.Mak X.prog X.w X.K X.mg X.base k x C sp dvs) (hr : Room j X.A) (hk : k + 1 ≤ j) (hg : Gl X x) (hdb : (x == ("__debug__" : Str)) = false := by decide) : PE X (.Call (.Name x p) [] [] pos) (tMake C sp dvs L2.E0 tNil) := by
  obtain ⟨f, fd, ps, ds, M, F, hm, b, d⟩ := c.ex
  exact pe_make0 M F (hr.mono hk) hg hm b d pass0 hdb
structure MakK (P : Program) (w : World) (K : PySem.W.Frag) (mg : Str → Option Value) (base : Heap) (k : Nat) (x : Str) (C : Addr) (ks : List Str) (sp : Sp) (gV : List V → List V → List V) : Prop where
  ex : ∃ (f : Addr) (fd : FuncData) (ps : List Str) (g : List Value → List Value → List Value), Mk K C f ∧ FnOk P w K mg base L2.CX0 k f fd ps sp ∧ mg x = some (.ref C) ∧ KBn K fd ps 1 ks g gV
theorem pe_mkK0 (c : MakK X.prog X.w X.K X.mg X.base k x C ks sp gV) (hr : Room j X.A) (hk : k + 1 ≤ j) (hg : Gl X x) (hkw : PK X kws tk)
    (hall : (backToKw pos (keywordEach kws X.env)).all (·.1.isSome) = true := by rfl) (hks : (backToKw pos (keywordEach kws X.env)).filterMap (·.1) = ks := by rfl) (hdb : (x == ("__debug__" : Str)) = false := by decide)
    (hpl : ((backTo pos (starEach [] X.env)).any (·.1) || (backToKw pos (keywordEach kws X.env)).any (·.1.isNone)) = false := by rfl) :
    PE X (.Call (.Name x p) [] kws pos) (tMakeK C 0 ks.length sp gV L2.E0 tNil tk) := by
  obtain ⟨f, fd, ps, g, M, F, hm, b⟩ := c.ex
  exact pe_makeK0 M F (hr.mono hk) hg hm b pass0 hkw hall hks hdb hpl
theorem w_makeK {σ : L2.St} {H : Hp} {Q : VK} {n m : Nat} {E : XK} {t tk : TA} (q : t σ H fun vs H1 => tk σ H1 fun zs H2 => vs.length = n ∧ zs.length = m ∧ ∀ x dx, H2 x = none → H2 dx = none → dx ≠ x → sp (gV (.ref x :: vs) zs) (upd (upd H2 dx (.own x)) x (.ins C dx [])) (fun v H3 => v = .non ∧ Q (.ref x) H3) E) : tMakeK C n m sp gV E t tk σ H Q := q
theorem w_callN {σ : L2.St} {H : Hp} {Q : VK} {n m : Nat} {E : XK} {t tk : TA} (q : t σ H fun vs H1 => tk σ H1 fun zs H2 => vs.length = n ∧ zs.length = m ∧ sp (gV vs zs) H2 Q E) : tCallN n m sp gV E t tk σ H Q := q
end
section
variable {K : PySem.W.Frag} {H : Hp}
theorem dp_ints : ∀ ls : List Int, DpAll K H (ls.map V.int) (ls.map PyData.int)
  | [] => .nil
  | i :: r => .cons (.int i) (dp_ints r)
theorem eqv_ints : ∀ ls ms : List Int, PyData.eqvAll (ls.map PyData.int) (ms.map PyData.int) = decide (ls = ms)
  | [], [] => by simp [PyData.eqvAll]
  | [], _ :: _ => by simp [PyData.eqvAll]
  | _ :: _, [] => by simp [PyData.eqvAll]
  | i :: r, j :: t => by
    rw [List.map_cons, List.map_cons, PyData.eqvAll, eqv_ints r t, PyData.eqv]
    simp only [List.cons.injEq, Bool.decide_and]
    congr 1
theorem lay_ints : ∀ ls : List Int, PyData.canLayAll0 (ls.map PyData.int) = true
  | [] => rfl
  | i :: r => by
    rw [List.map_cons, PyData.canLayAll0, lay_ints r]
    rfl
theorem depth_ints : ∀ ls : List Int, PyData.depthAll (ls.map PyData.int) = 0
  | [] => rfl
  | i :: r => by
    rw [List.map_cons, PyData.depthAll, depth_ints r]
    rfl
theorem shaped_lst (ls : List Int) : SeqAt.shaped (.list (ls.map PyData.int)) = true := by
  unfold SeqAt.shaped
  rw [PyData.canLay0, lay_ints, PyData.depth, depth_ints]
  rfl
theorem w_neLL {a b : Addr} {ls ms : List Int} {Q : VK} (ha : SqL K H a (ls.map V.int)) (hb : SqL K H b (ms.map V.int)) (q : Q (.bl (!decide (ls = ms))) H) : rNeD K (.ref a) (.ref b) H Q :=
  ⟨_, _, .lst ha (dp_ints ls), .lst hb (dp_ints ms), shaped_lst _, shaped_lst _, by rw [PyData.eqv, eqv_ints]; exact q⟩
theorem w_revi {x : Addr} {xs : List V} {P : Addr → Hp → Prop} (h : SqL K H x xs) (q : ∀ p, H p = none → P p (upd H p (.lst xs.reverse))) : ∃ a xs, V.ref x = .ref a ∧ SqL K H a xs ∧ ∀ p, H p = none → P p (upd H p (.lst xs.reverse)) := ⟨x, xs, rfl, h, q⟩
end
theorem mk_low {l : Bool} {s : Int} {d : Bool} : (mkF l s d).lookup ("low" : Str) = some (.bl l) := lk0
theorem mk_shift {l : Bool} {s : Int} {d : Bool} : (mkF l s d).lookup ("shift" : Str) = some (.int s) := (lkS (by decide +kernel)).trans lk0
theorem mk_lead {l : Bool} {s : Int} {d : Bool} : (mkF l s d).lookup ("lead" : Str) = some (.bl d) := (lkS (by decide +kernel)).trans ((lkS (by decide +kernel)).trans lk0)
theorem mk_no {l : Bool} {s : Int} {d : Bool} {m : Str} (h1 : m ≠ ("low" : Str)) (h2 : m ≠ ("shift" : Str)) (h3 : m ≠ ("lead" : Str)) : (mkF l s d).lookup m = none := (lkS h1).trans ((lkS h2).trans ((lkS h3).trans rfl))
theorem md_number {n : Int} {t : Addr} : (mdF n t).lookup ("number" : Str) = some (.int n) := lk0
theorem md_factors {n : Int} {t : Addr} : (mdF n t).lookup ("factors" : Str) = some (.ref t) := (lkS (by decide +kernel)).trans lk0
theorem wy_marking {k m : Addr} {n b : Int} : (wyF k m n b).lookup ("marking" : Str) = some (.ref k) := lk0
theorem wy_modulus {k m : Addr} {n b : Int} : (wyF k m n b).lookup ("modulus" : Str) = some (.ref m) := (lkS (by decide +kernel)).trans lk0
theorem wy_number {k m : Addr} {n b : Int} : (wyF k m n b).lookup ("number" : Str) = some (.int n) := (lkS (by decide +kernel)).trans ((lkS (by decide +kernel)).trans lk0)
theorem wy_base {k m : Addr} {n b : Int} : (wyF k m n b).lookup ("base" : Str) = some (.int b) := (lkS (by decide +kernel)).trans ((lkS (by decide +kernel)).trans ((lkS (by decide +kernel)).trans lk0))
theorem wy_no {k m : Addr} {n b : Int} {f : Str} (h1 : f ≠ ("marking" : Str)) (h2 : f ≠ ("modulus" : Str)) (h3 : f ≠ ("number" : Str)) (h4 : f ≠ ("base" : Str)) : (wyF k m n b).lookup f = none := (lkS h1).trans ((lkS h2).trans ((lkS h3).trans ((lkS h4).trans rfl)))
theorem rest_take {cs : List Int} {i : Nat} {v b n : Int} (h : cs[i]? = some v) : restAt (cs.take (i + 1)) b n = (restAt (cs.take i) b n * b + v) % n := by
  obtain ⟨hi, e⟩ := List.getElem?_eq_some_iff.mp h
  unfold restAt
  rw [List.take_succ_eq_append_getElem hi, List.foldl_append, e]
  rfl
theorem rest_range {b n : Int} (hn : 0 < n) : ∀ (cs : List Int), 0 ≤ restAt cs b n ∧ restAt cs b n < n := fun cs => by
  unfold restAt
  have : ∀ (cs : List Int) (a : Int), 0 ≤ a → a < n → 0 ≤ cs.foldl (fun f c => (f * b + c) % n) a ∧ cs.foldl (fun f c => (f * b + c) % n) a < n := by
    intro cs
    induction cs with
    | nil => exact fun a h1 h2 => ⟨h1, h2⟩
    | cons c r ih => exact fun a h1 h2 => ih _ (Int.emod_nonneg _ (by omega)) (Int.emod_lt_of_pos _ hn)
  exact this cs 0 (Int.le_refl _) hn
theorem map_rev (f : Int → V) (l : List Int) : (l.map f).reverse = l.reverse.map f := by rw [List.map_reverse]
theorem w_tyL {K : PySem.W.Frag} {H : Hp} {a : Addr} {xs : List V} {P : Prop} (h : SqL K H a xs) (q : P) : tyV K "list" (.ref a) H ∧ P := ⟨Or.inl ⟨rfl, _, h⟩, q⟩
theorem decI {a b : Int} : decide (V.int a = V.int b) = decide (a = b) := by
  by_cases z : a = b
  · rw [decide_eq_true z, decide_eq_true (by rw [z])]
  · rw [decide_eq_false z, decide_eq_false (fun w => z (by injection w))]
theorem w_m1 {σ : L2.St} {H : Hp} {Q : VK} {r : V → List V → Hp → VK → Prop} {to te : TE} (q : to σ H fun x H1 => (∃ a, x = .str a) ∧ te σ H1 fun y H2 => r x [y] H2 Q) : tM1 r to te σ H Q := q
theorem w_isStr {z : Str} {P : Prop} (q : P) : (∃ a, V.str z = .str a) ∧ P := ⟨⟨z, rfl⟩, q⟩
section
variable {a b : Addr} {c : Int} {H H' : Hp} {o : HO}
theorem Purse.ne (p : Purse H a c) (h : H b = some o) (d : ∀ x y z : Int, o ≠ .lst [.int x, .int y, .int z]) : b ≠ a := fun e => by
  obtain ⟨x, y, z, h1, _⟩ := p
  rw [e, h1] at h
  exact d x y z (Option.some.inj h).symm
theorem Purse.fresh (p : Purse H a c) (h : H b = none) : b ≠ a := fun e => by
  obtain ⟨x, y, z, h1, _⟩ := p
  rw [e, h1] at h
  cases h
theorem Keep.free (k : Keep a H H') (p : Purse H' a c) (h : H' b = none) : H b = none := by
  cases e : H b with
  | none => rfl
  | some o =>
    by_cases z : b = a
    · obtain ⟨_, _, _, e2, _⟩ := p
      rw [z, e2] at h
      cases h
    · rw [k _ _ z e] at h
      cases h
theorem Keep.tup {xs : List V} (k : Keep a H H') (p : Purse H a c) (h : H b = some (.tup xs)) : H' b = some (.tup xs) := k b _ (p.ne h fun _ _ _ z => by cases z) h
theorem Keep.ins {C dx : Addr} {fs : List (Str × V)} (k : Keep a H H') (p : Purse H a c) (h : H b = some (.ins C dx fs)) : H' b = some (.ins C dx fs) := k b _ (p.ne h fun _ _ _ z => by cases z) h
/-- a list of pairs -/
noncomputable def PrL (H : Hp) (l : Addr) (ps : List (Int × Int)) : Prop := ∃ ts : List Addr, H l = some (.lst (ts.map V.ref)) ∧ Paired (Tp H) ps ts
theorem refs_ne {ts : List Addr} (x y z : Int) : HO.lst (ts.map V.ref) ≠ .lst [.int x, .int y, .int z] := fun e => by
  injection e with e
  cases ts with
  | nil => cases e
  | cons t r =>
    rw [List.map_cons] at e
    injection e with e1
    cases e1
theorem PrL.keep {l : Addr} {ps : List (Int × Int)} (h : PrL H l ps) (p : Purse H a c) (k : Keep a H H') : PrL H' l ps := by
  obtain ⟨ts, h1, h2⟩ := h
  exact ⟨ts, k l _ (p.ne h1 refs_ne) h1, paired_imp (fun _ _ z => k.tup p z) h2⟩
theorem PrL.same {l : Addr} {ps : List (Int × Int)} (h : PrL H l ps) (s : Same H H') : PrL H' l ps := by
  obtain ⟨ts, h1, h2⟩ := h
  exact ⟨ts, s _ _ h1, paired_imp (fun _ _ z => s _ _ z) h2⟩
theorem ModAt.keep {ca : CA} {m : Addr} {ps : List (Int × Int)} (h : ModAt ca H m ps) (p : Purse H a c) (k : Keep a H H') : ModAt ca H' m ps := by
  obtain ⟨dx, t, ts, h1, h2, h3, h4⟩ := h
  exact ⟨dx, t, ts, k.ins p h1, k.tup p h2, paired_imp (fun _ _ z => k.tup p z) h3, h4⟩
theorem MkAt.keep {ca : CA} {m : Addr} {l : Bool} {s : Int} {d : Bool} (h : MkAt ca H m l s d) (p : Purse H a c) (k : Keep a H H') : MkAt ca H' m l s d := by
  obtain ⟨dx, h1⟩ := h
  exact ⟨dx, k.ins p h1⟩
theorem WayAt.keep {ca : CA} {m : Addr} {b : Int} {ps : List (Int × Int)} {y : Sty} (h : WayAt ca H m b ps y) (p : Purse H a c) (k : Keep a H H') : WayAt ca H' m b ps y := by
  obtain ⟨dx, m1, k1, h1, h2, h3, h4⟩ := h
  exact ⟨dx, m1, k1, k.ins p h1, h2.keep p k, h3.keep p k, h4⟩
theorem Keep.new (p : Purse H a c) {q : Addr} (n : H q = none) : Keep a H (L2.upd H q o) := .of (Same.new n)
end
theorem Asc.snoc : ∀ {l : Int} {ps : List (Int × Int)} {q : Int × Int}, Asc l ps → (ps.getLast?.map (·.1)).getD l < q.1 → 0 < q.2 → Pr q.1 → Asc l (ps ++ [q])
  | l, [], q, _, h1, h2, h3 => ⟨h1, h2, h3, trivial⟩
  | l, r :: ps, q, a, h1, h2, h3 => by
    refine ⟨a.1, a.2.1, a.2.2.1, Asc.snoc a.2.2.2 ?_ h2 h3⟩
    rw [List.getLast?_cons] at h1
    cases hh : ps.getLast? with
    | none => rw [hh] at h1; exact h1
    | some z => rw [hh] at h1; exact h1
noncomputable instance (n : Int) : Decidable (∀ d : Int, 2 ≤ d → d * d ≤ n → n % d ≠ 0) := 
  if h : ∀ k : Fin 64, (2 ≤ k.val ∧ (k.val : Int) * k.val ≤ n) → n % (k.val : Int) ≠ 0 then
    if h2 : n < 4096 then .isTrue (fun d h3 h4 => by
      have hd : d < 64 := by
        refine Int.not_le.mp fun z => ?_
        have := Int.mul_le_mul z z (by decide) (by omega)
        omega
      have e : ((d.toNat : Nat) : Int) = d := Int.toNat_of_nonneg (by omega)
      have := h ⟨d.toNat, by omega⟩ ⟨by show 2 ≤ d.toNat; omega, by show ((d.toNat : Nat) : Int) * ((d.toNat : Nat) : Int) ≤ n; rw [e]; exact h4⟩
      rwa [show (((⟨d.toNat, by omega⟩ : Fin 64).val : Nat) : Int) = d from e] at this)
    else if h5 : ∀ k : Fin n.toNat, (2 ≤ k.val ∧ (k.val : Int) * k.val ≤ n) → n % (k.val : Int) ≠ 0 then .isTrue (fun d h3 h4 => by
      have hd : d < n := by
        refine Int.not_le.mp fun z => ?_
        have : n * 2 ≤ d * d := Int.mul_le_mul z h3 (by decide) (by omega)
        omega
      have e : ((d.toNat : Nat) : Int) = d := Int.toNat_of_nonneg (by omega)
      have := h5 ⟨d.toNat, by omega⟩ ⟨by show 2 ≤ d.toNat; omega, by show ((d.toNat : Nat) : Int) * ((d.toNat : Nat) : Int) ≤ n; rw [e]; exact h4⟩
      rwa [show (((⟨d.toNat, by omega⟩ : Fin n.toNat).val : Nat) : Int) = d from e] at this)
    else .isFalse fun z => h5 fun k hk => z k.val (by omega) hk.2
  else .isFalse fun z => h fun k hk => z k.val (by omega) hk.2
noncomputable instance (n : Int) : Decidable (Pr n) := inferInstanceAs (Decidable (_ ∧ _))
theorem Asc.lt : ∀ {l : Int} {ps : List (Int × Int)}, Asc l ps → ∀ q ∈ ps, l < q.1 ∧ 0 < q.2 ∧ Pr q.1
  | _, [], _, q, h => by cases h
  | l, r :: ps, a, q, h => by
    rcases List.mem_cons.mp h with e | e
    · rw [e]; exact ⟨a.1, a.2.1, a.2.2.1⟩
    · have := Asc.lt a.2.2.2 q e
      exact ⟨Int.lt_trans a.1 this.1, this.2⟩
/-- the first of the places below N at which P holds -/
noncomputable def Fst (P : Nat → Prop) (N : Nat) : Option Nat → Prop
  | none => ∀ e, e < N → ¬ P e
  | some e => e < N ∧ P e ∧ ∀ j, j < e → ¬ P j
theorem Fst.same {P P' : Nat → Prop} {N M S : Nat} {r r' : Option Nat} (h : Fst P N r) (h' : Fst P' M r') (e : ∀ j, P j ↔ P' j) (st : ∀ j, S ≤ j → P j → P S) (hN : S < N) (hM : S < M) : r = r' := by
  have low : ∀ j, P j → ∃ i, i ≤ S ∧ i ≤ j ∧ P i := fun j hj => by
    by_cases c : S ≤ j
    · exact ⟨S, Nat.le_refl _, c, st j c hj⟩
    · exact ⟨j, by omega, Nat.le_refl _, hj⟩
  cases r with
  | none =>
    cases r' with
    | none => rfl
    | some e' =>
      obtain ⟨i, h1, h2, h3⟩ := low e' ((e e').mpr h'.2.1)
      exact absurd h3 (h i (by omega))
  | some e1 =>
    cases r' with
    | none =>
      obtain ⟨i, h1, h2, h3⟩ := low e1 h.2.1
      exact absurd ((e i).mp h3) (h' i (by omega))
    | some e2 =>
      have a1 : ¬ e1 < e2 := fun z => h'.2.2 e1 z ((e e1).mp h.2.1)
      have a2 : ¬ e2 < e1 := fun z => h.2.2 e2 z ((e e2).mpr h'.2.1)
      have : e1 = e2 := by omega
      rw [this]
theorem walk_rangeY {lo : Int} {n : Nat} : Walk (Itr lo n) ((List.range n).map fun i : Nat => V.int (lo + i)).length (fun _ => True) (YAt ((List.range n).map fun i : Nat => V.int (lo + i))) := by
  have h := walk_range (lo := lo) (n := n)
  have e : ((List.range n).map fun i : Nat => V.int (lo + i)).length = n := by simp
  rw [e]
  refine h.mono (fun _ h => h) (fun i H x H' hi _ y => ?_)
  obtain ⟨rfl, rfl⟩ := y
  refine ⟨rfl, ?_⟩
  rw [List.getElem?_map, List.getElem?_range hi]
  rfl
noncomputable def hv (cs : List Int) (b : Int) : Int := cs.foldl (fun f c => f * b + c) 0
theorem hv_fold (cs : List Int) (b : Int) : ∀ a : Int, cs.foldl (fun f c => f * b + c) a = a * b ^ cs.length + hv cs b := by
  unfold hv
  induction cs with
  | nil => intro a; simp
  | cons c r ih =>
    intro a
    rw [List.foldl_cons, List.foldl_cons, ih, ih (0 * b + c), List.length_cons, Int.pow_succ, Int.zero_mul, Int.zero_add, Int.add_mul, Int.mul_assoc, Int.mul_comm b]
    omega
theorem hv_cons (c : Int) (cs : List Int) (b : Int) : hv (c :: cs) b = c * b ^ cs.length + hv cs b := by
  show List.foldl _ _ _ = _
  rw [List.foldl_cons, hv_fold, Int.zero_mul, Int.zero_add]
theorem rest_hv (cs : List Int) (b n : Int) : restAt cs b n = hv cs b % n := by
  unfold restAt hv
  have : ∀ (cs : List Int) (a a' : Int), a % n = a' % n → (cs.foldl (fun f c => (f * b + c) % n) a) % n = (cs.foldl (fun f c => f * b + c) a') % n := by
    intro cs
    induction cs with
    | nil => exact fun a a' h => h
    | cons c r ih =>
      intro a a' h
      rw [List.foldl_cons, List.foldl_cons]
      refine ih _ _ ?_
      rw [Int.emod_emod_of_dvd _ (Int.dvd_refl n), Int.add_emod, Int.mul_emod, h, ← Int.mul_emod, ← Int.add_emod]
  cases cs with
  | nil => simp
  | cons c r =>
    have h := this (c :: r) 0 0 rfl
    rw [← h]
    have h2 : ∀ (cs : List Int) (a : Int), a % n = a → (cs.foldl (fun f c => (f * b + c) % n) a) % n = cs.foldl (fun f c => (f * b + c) % n) a := by
      intro cs
      induction cs with
      | nil => exact fun a h => h
      | cons c r ih => exact fun a h => ih _ (Int.emod_emod_of_dvd _ (Int.dvd_refl n))
    exact (h2 (c :: r) 0 (by simp)).symm
noncomputable def spMixed : Sp := fun vs H Q _ => ∃ a b : Int, vs = [.int a, .int b] ∧ 0 ≤ a ∧ a < 2 ^ 31 ∧ 0 ≤ b ∧ b < 2 ^ 60 ∧ ∀ r : Int, 0 ≤ r → r < 2 ^ 31 → Q (.int r) H
noncomputable def spPurse (K : PySem.W.Frag) : Sp := fun vs H Q _ => ∃ (a : Addr) (ns : List Int) (i : Int), vs = [.ref a, .int i] ∧ SqL K H a (ns.map V.int) ∧ 0 ≤ i ∧ i < 2 ^ 40 ∧
  ∀ p H', H p = none → Same H H' → Purse H' p (1000 * i) → Q (.ref p) H'
noncomputable def spDraw : Sp := fun vs H Q _ => ∃ (a : Addr) (n c : Int), vs = [.ref a, .int n] ∧ 0 < n ∧ n < 2 ^ 60 ∧ c < 2 ^ 50 ∧ Purse H a c ∧
  ∀ r H', 0 ≤ r → r < n → Keep a H H' → Purse H' a (c + 1) → Q (.int r) H'
theorem use_draw {H : Hp} {Q : VK} {E : XK} {a : Addr} {n c : Int} (p : Purse H a c) (n0 : 0 < n) (n1 : n < 2 ^ 60) (hc : c < 2 ^ 50) (q : ∀ r H', 0 ≤ r → r < n → Keep a H H' → Purse H' a (c + 1) → Q (.int r) H') :
    spDraw ([.ref a, .int n] ++ []) H Q E := ⟨a, n, c, rfl, n0, n1, hc, p, q⟩
noncomputable def spGreat : Sp := fun vs H Q _ => ∃ (a : Addr) (n c : Int), vs = [.ref a, .int n] ∧ 0 ≤ n ∧ n < 1000 ∧ c < 2 ^ 49 ∧ Purse H a c ∧
  ∀ r H', 0 ≤ r → r < 10 ^ n.toNat → Keep a H H' → Purse H' a (c + n) → Q (.int r) H'
theorem use_great {H : Hp} {Q : VK} {E : XK} {a : Addr} {n c : Int} (p : Purse H a c) (n0 : 0 ≤ n) (n1 : n < 1000) (hc : c < 2 ^ 49) (q : ∀ r H', 0 ≤ r → r < 10 ^ n.toNat → Keep a H H' → Purse H' a (c + n) → Q (.int r) H') :
    spGreat ([.ref a, .int n] ++ []) H Q E := ⟨a, n, c, rfl, n0, n1, hc, p, q⟩
noncomputable def spStyle : Sp := fun vs H Q _ => ∃ (a : Addr) (c : Int), vs = [.ref a] ∧ c < 2 ^ 48 ∧ Purse H a c ∧
  ∀ p H' (y : Sty), H p = none → Keep a H H' → Purse H' a (c + 34) → H' p = some (.lst [.bl y.low, .int y.shift, .bl y.lead]) → y.shift.natAbs < 10 ^ 31 → Q (.ref p) H'
theorem w_st {t : TS} {N : List Str} {vs : List V} {σ' : L2.St} {D : Ends} {H : Hp} (h : L2.start N vs = σ') (q : t D σ' H) : t D (L2.start N vs) H := by rw [h]; exact q
theorem w_setN {te : TE} {i : Nat} {σ : L2.St} {σ' : V → L2.St} {D : Ends} {H : Hp} (h : ∀ x, σ.set i (some x) = σ' x) (q : te σ H fun x H1 => D.nx (σ' x) H1) : tAsg te (gName i) D σ H := by
  have e : (fun x H1 => D.nx (σ' x) H1) = fun x H1 => gName i x σ H1 D.nx := by
    funext x H1
    rw [← h x]
    rfl
  show te σ H fun x H1 => gName i x σ H1 D.nx
  rw [← e]
  exact q
theorem w_nxD {D : Ends} {σ : L2.St} {H : Hp} (q : D.nx σ H) : D.nx σ H := q
theorem w_rtD {D : Ends} {v : V} {H : Hp} (q : D.rt v H) : D.rt v H := q
theorem w_ctD {D : Ends} {σ : L2.St} {H : Hp} (q : D.ct σ H) : D.ct σ H := q
theorem w_bkD {D : Ends} {σ : L2.St} {H : Hp} (q : D.bk σ H) : D.bk σ H := q
end Bc
namespace Bc
open PySem PySem.Spec PyProof.Rows L2
theorem sz {n : Nat} (h : n ≤ 100000) : n ≤ sizeLine := Nat.le_trans h (by decide)
theorem vals_rev : ∀ {zs : List V} {ws : List Value}, Vals zs ws → Vals zs.reverse ws.reverse
  | _, _, .nil => .nil
  | _, _, .cons r t => by
    rw [List.reverse_cons, List.reverse_cons]
    exact Vals.append (vals_rev t) (.cons r .nil)
theorem small1 {p k : Int} (h : 0 < p ∧ p < 1024 ∧ 0 < k ∧ k ≤ 100) : Small [(p, k)] := ⟨fun q hq => by
  have : q = (p, k) := by simpa using hq
  rw [this]; exact h, by show 1 ≤ 64; decide⟩
noncomputable def spLaw (K : PySem.W.Frag) : Sp := fun vs H Q _ => ∃ (a : Addr) (ns : List Int), vs = [.ref a] ∧ SqL K H a (ns.map V.int) ∧ ns.length ≤ 63 ∧ ∀ H', Q (.bl true) H'
end Bc
namespace Bc
open PySem PySem.Spec PyProof.Rows L2
noncomputable def NotAt (a : Addr) : V → Prop
  | .ref p => p ≠ a
  | _ => True
theorem TextAt.keep {a : Addr} {H H' : Hp} {v : V} {ls : List Int} (t : TextAt H v ls) (n : NotAt a v) (k : Keep a H H') : TextAt H' v ls := by
  cases t with
  | str z h l => exact .str z h l
  | lst p _ h l => exact .lst p _ (k _ _ n h) l
  | tup p _ h l => exact .tup p _ (k _ _ n h) l
end Bc
namespace Bc
open PySem PySem.Spec PyProof.Rows L2
section
variable {X : Cx} {k j : Nat} {C : Addr} {sp : Sp} {tf : TE} {t : TA} {fe e : Expr} {es : List Expr} {pos : Pos}
structure CalO (P : Program) (w : World) (K : PySem.W.Frag) (mg : Str → Option Value) (base : Heap) (k : Nat) (C : Addr) (sp : Sp) : Prop where
  ex : ∃ g : Addr, StX.CallO K C g ∧ FnR P w K mg base L2.CX0 k g sp
noncomputable def tCO (C : Addr) (sp : Sp) (E : XK) (tf : TE) (t : TA) : TE := fun σ H Q => tf σ H fun y H1 => ∃ a, y = V.ref a ∧ t σ H1 fun vs H2 => ((∃ dx vs, SlX.Slt H2 a C dx vs) ∨ ∃ dx fs, H2 a = some (.ins C dx fs)) ∧ sp (V.ref a :: vs) H2 Q E
theorem pe_cO (hf : PE X fe tf) (c : CalO X.prog X.w X.K X.mg X.base k C sp) (hr : Room j X.A) (hk : k ≤ j) (ha : PA X (e :: es) t)
    (ht : eval (.Call fe (e :: es) [] pos) X.env = (do callWith pos (← eval fe X.env) [] (backTo pos (starEach (e :: es) X.env)) (backToKw pos (keywordEach [] X.env))) := by rfl)
    (he : starEach (e :: es) X.env = (false, eval e X.env) :: starEach es X.env := by rfl) (hpl : (backTo pos (starEach es X.env)).any (·.1) = false := by rfl) : PE X (.Call fe (e :: es) [] pos) (tCO C sp L2.E0 tf t) := by
  obtain ⟨g, c1, F⟩ := c.ex
  exact StX.pe_callO hf c1 F (hr.mono hk) pass0 ha ht he hpl
theorem w_cO {σ : L2.St} {H : Hp} {Q : VK} {E : XK} (q : tf σ H fun y H1 => ∃ a, y = V.ref a ∧ t σ H1 fun vs H2 => ((∃ dx vs, SlX.Slt H2 a C dx vs) ∨ ∃ dx fs, H2 a = some (.ins C dx fs)) ∧ sp (V.ref a :: vs) H2 Q E) : tCO C sp E tf t σ H Q := q
end
theorem WayAt.pos {c : CA} {H : Hp} {x : Addr} {b : Int} {ps : List (Int × Int)} {y : Sty} (h : WayAt c H x b ps y) : 0 < num ps := by
  obtain ⟨_, _, _, _, _, _, h1, h2⟩ := h
  omega
theorem decB {a b : Bool} : decide (V.bl a = V.bl b) = decide (a = b) := by cases a <;> cases b <;> rfl
end Bc
namespace Bc
open PySem PySem.Spec PyProof.Rows L2
/-- 1 + b + .. -/
noncomputable def geo (b : Int) (n : Nat) : Int := hv (List.replicate n 1) b
theorem geo_succ (b : Int) (n : Nat) : geo b (n + 1) = b ^ n + geo b n := by
  unfold geo
  rw [List.replicate_succ, hv_cons, List.length_replicate, Int.one_mul]
theorem hv_map (s b : Int) : ∀ ls : List Int, hv (ls.map (· + s)) b = hv ls b + s * geo b ls.length
  | [] => by simp [geo, hv]
  | l :: r => by
    rw [List.map_cons, hv_cons, hv_cons, hv_map s b r, List.length_map, List.length_cons, geo_succ]
    grind
/-- the mark, by the sum -/
theorem mark_hv (y : Sty) (b n : Int) (ls : List Int) : mark y b n ls = ((if y.lead then 1 else 0) * b ^ ls.length + hv (if y.low then ls.reverse else ls) b + y.shift * geo b ls.length) % n := by
  unfold mark hf
  rw [rest_hv, hv_cons]
  by_cases h : y.low = true
  · rw [if_pos h, if_pos h, ← List.map_reverse, hv_map, List.length_map, List.length_reverse, Int.add_assoc]
  · rw [if_neg h, if_neg h, hv_map, List.length_map, Int.add_assoc]
/-- the two rows of the search for an inverse -/
noncomputable def InvRow (r n one two f l : Int) : Prop := (one ≤ n ∧ two ≤ n) ∧ 0 < one ∧ 0 ≤ two ∧ (∃ u, f * r = one + n * u) ∧ (∃ v, l * r = two + n * v) ∧ Int.gcd one two = Int.gcd r n ∧ ∃ s F L : Int, (s = 1 ∨ s = -1) ∧ f = -s * F ∧ l = s * L ∧ 0 ≤ F ∧ 0 ≤ L ∧ L * one + F * two = n
theorem InvRow.start {r n : Int} (hn : 0 < n) : InvRow r n n (r % n) 0 1 := by
  have hlt := Int.emod_lt_of_pos r hn
  refine ⟨⟨by omega, by omega⟩, hn, Int.emod_nonneg _ (by omega), ⟨-1, by omega⟩, ⟨r / n, ?_⟩, ?_, 1, 0, 1, .inl rfl, rfl, rfl, by decide, by decide, by omega⟩
  · have := Int.emod_add_mul_ediv r n
    omega
  · have h := Int.gcd_mul_left_add_left n (r % n) (r / n)
    rw [Int.mul_ediv_add_emod] at h
    rw [Int.gcd_comm, h]
noncomputable def spRight : Sp := fun vs H Q _ => ∃ (a : Addr) (c : Int), vs = [.ref a] ∧ c < 2 ^ 46 ∧ Purse H a c ∧ ∀ H', Keep a H H' → Purse H' a (c + 10000) → Q (.bl true) H'
end Bc
namespace Bc
open PySem PySem.Spec PyProof.Rows L2
noncomputable def ld (y : Sty) : Int := if y.lead then 1 else 0
theorem cg {n x y : Int} : x % n = y % n ↔ ∃ k, x = y + n * k := by
  rw [Int.emod_eq_emod_iff_emod_sub_eq_zero, ← Int.dvd_iff_emod_eq_zero]
  constructor
  · rintro ⟨k, hk⟩
    exact ⟨k, by omega⟩
  · rintro ⟨k, hk⟩
    exact ⟨k, by omega⟩
theorem self_mod (n x : Int) : ∃ k, x % n = x + n * k := ⟨-(x / n), by rw [Int.emod_def]; grind⟩
end Bc
namespace Bc
open PySem PySem.Spec PyProof.Rows L2
noncomputable def rm (a : Addr) (H : Hp) : Hp := fun b => if b = a then none else H b
section
variable {a b p : Addr} {c d : Int} {H H' X : Hp} {o : HO} {Q : VK} {ca : CA} {K : PySem.W.Frag}
theorem rm_le : Same (rm a H) H := fun b o h => by
  unfold rm at h
  by_cases e : b = a
  · rw [if_pos e] at h; cases h
  · rwa [if_neg e] at h
theorem rm_of (n : b ≠ a) (h : H b = some o) : rm a H b = some o := by
  unfold rm
  rw [if_neg n]; exact h
theorem rm_none (h : H b = none) : rm a H b = none := by
  unfold rm
  by_cases e : b = a
  · rw [if_pos e]
  · rw [if_neg e]; exact h
theorem rm_self : rm a H a = none := by
  unfold rm
  rw [if_pos rfl]
theorem Keep.rm (k : Keep a H H') : Same (rm a H) (rm a H') := fun b o h => by
  by_cases e : b = a
  · rw [e, rm_self] at h; cases h
  · exact rm_of e (k b o e (rm_le _ _ h))
theorem _root_.L2.Same.rm (s : Same H H') : Same (rm a H) (rm a H') := Keep.rm (.of s)
theorem Keep.ofR (s : Same (Bc.rm a H) (Bc.rm a H')) : Keep a H H' := fun b o n h => rm_le _ _ (s b o (rm_of n h))
theorem rm_in (n : X a = none) (s : Same X H) : Same X (rm a H) := fun b o h => rm_of (fun e => by rw [e, n] at h; cases h) (s b o h)
theorem rm_updS : rm a (upd H a o) = rm a H := by
  funext b
  by_cases e : b = a
  · rw [e, rm_self, rm_self]
  · unfold rm
    rw [if_neg e, if_neg e, upd_ne e]
theorem same_rm (s : Same X (rm a H)) : Same X H := s.trans rm_le
theorem hpL (h : X b = some o) (s : Same X H) : H b = some o := s _ _ h
theorem al (q : ∀ p H', H p = none → Same H H' → H' p = some o → atV Q (.ref p) H') : ∀ p, H p = none → atV Q (.ref p) (upd H p o) := fun p n => q p _ n (Same.new n) upd_same
theorem alR (pu : Purse H a c) (q : ∀ p H', Same (rm a H) (rm a H') → Purse H' a c → rm a H' p = some o → rm a H p = none → atV Q (.ref p) H') : ∀ p, H p = none → atV Q (.ref p) (upd H p o) := fun p n =>
  q p _ (Same.new n).rm (pu.same (Same.new n)) (rm_of (pu.fresh n) upd_same) (rm_none n)
theorem PrL.rm {l : Addr} {ps : List (Int × Int)} (h : PrL H l ps) (pu : Purse H a c) : PrL (rm a H) l ps := by
  obtain ⟨ts, h1, h2⟩ := h
  exact ⟨ts, rm_of (pu.ne h1 refs_ne) h1, paired_imp (fun _ _ z => rm_of (pu.ne z fun _ _ _ w => by cases w) z) h2⟩
theorem ModAt.rm {m : Addr} {ps : List (Int × Int)} (h : ModAt ca H m ps) (pu : Purse H a c) : ModAt ca (rm a H) m ps := by
  obtain ⟨dx, t, ts, h1, h2, h3, h4⟩ := h
  exact ⟨dx, t, ts, rm_of (pu.ne h1 fun _ _ _ w => by cases w) h1, rm_of (pu.ne h2 fun _ _ _ w => by cases w) h2, paired_imp (fun _ _ z => rm_of (pu.ne z fun _ _ _ w => by cases w) z) h3, h4⟩
theorem MkAt.rm {m : Addr} {l : Bool} {s : Int} {e : Bool} (h : MkAt ca H m l s e) (pu : Purse H a c) : MkAt ca (rm a H) m l s e := by
  obtain ⟨dx, h1⟩ := h
  exact ⟨dx, rm_of (pu.ne h1 fun _ _ _ w => by cases w) h1⟩
theorem WayAt.rm {m : Addr} {b : Int} {ps : List (Int × Int)} {y : Sty} (h : WayAt ca H m b ps y) (pu : Purse H a c) : WayAt ca (rm a H) m b ps y := by
  obtain ⟨dx, m1, k1, h1, h2, h3, h4⟩ := h
  exact ⟨dx, m1, k1, rm_of (pu.ne h1 fun _ _ _ w => by cases w) h1, h2.rm pu, h3.rm pu, h4⟩
theorem TextAt.rm {v : V} {ls : List Int} (t : TextAt H v ls) (n : NotAt a v) : TextAt (rm a H) v ls := by
  cases t with
  | str z h l => exact .str z h l
  | lst p _ h l => exact .lst p _ (rm_of n h) l
  | tup p _ h l => exact .tup p _ (rm_of n h) l
variable {x m k : Addr} {bb : Int} {ps : List (Int × Int)} {y : Sty} {mg : Str → Option Value} {P : V → Prop}
theorem w_wbase (X : Kx K mg ca) (h : WayAt ca H x bb ps y) (q : P (.int bb)) : ∃ a C dx fs v, V.ref x = .ref a ∧ H a = some (.ins C dx fs) ∧ Cls K C ∧ NoAttr K C "base" ∧ fs.lookup ("base" : Str) = some v ∧ P v := by
  obtain ⟨dx, m, k, hx, _⟩ := h
  exact w_fldi hx X.wy.cl X.base wy_base q
theorem w_wnum (X : Kx K mg ca) (h : WayAt ca H x bb ps y) (q : P (.int (num ps))) : ∃ a C dx fs v, V.ref x = .ref a ∧ H a = some (.ins C dx fs) ∧ Cls K C ∧ NoAttr K C "number" ∧ fs.lookup ("number" : Str) = some v ∧ P v := by
  obtain ⟨dx, m, k, hx, _⟩ := h
  exact w_fldi hx X.wy.cl X.wnumber wy_number q
theorem w_wmark (X : Kx K mg ca) (h : WayAt ca H x bb ps y) (q : ∀ k, MkAt ca H k y.low y.shift y.lead → P (.ref k)) : ∃ a C dx fs v, V.ref x = .ref a ∧ H a = some (.ins C dx fs) ∧ Cls K C ∧ NoAttr K C "marking" ∧ fs.lookup ("marking" : Str) = some v ∧ P v := by
  obtain ⟨dx, m, k, hx, hm, hk, _⟩ := h
  exact w_fldi hx X.wy.cl X.marking wy_marking (q k hk)
theorem w_wmod (X : Kx K mg ca) (h : WayAt ca H x bb ps y) (q : ∀ m, ModAt ca H m ps → P (.ref m)) : ∃ a C dx fs v, V.ref x = .ref a ∧ H a = some (.ins C dx fs) ∧ Cls K C ∧ NoAttr K C "modulus" ∧ fs.lookup ("modulus" : Str) = some v ∧ P v := by
  obtain ⟨dx, m, k, hx, hm, hk, _⟩ := h
  exact w_fldi hx X.wy.cl X.modulus wy_modulus (q m hm)
theorem w_mnum (X : Kx K mg ca) (h : ModAt ca H m ps) (q : P (.int (num ps))) : ∃ a C dx fs v, V.ref m = .ref a ∧ H a = some (.ins C dx fs) ∧ Cls K C ∧ NoAttr K C "number" ∧ fs.lookup ("number" : Str) = some v ∧ P v := by
  obtain ⟨dx, t, ts, hx, _⟩ := h
  exact w_fldi hx X.md.cl X.number md_number q
theorem w_mfac (X : Kx K mg ca) (h : ModAt ca H m ps) (q : ∀ t ts, H t = some (.tup (ts.map V.ref)) → Paired (Tp H) ps ts → P (.ref t)) : ∃ a C dx fs v, V.ref m = .ref a ∧ H a = some (.ins C dx fs) ∧ Cls K C ∧ NoAttr K C "factors" ∧ fs.lookup ("factors" : Str) = some v ∧ P v := by
  obtain ⟨dx, t, ts, hx, h1, h2, _⟩ := h
  exact w_fldi hx X.md.cl X.factors md_factors (q t ts h1 h2)
theorem w_klow (X : Kx K mg ca) {l e : Bool} {s : Int} (h : MkAt ca H k l s e) (q : P (.bl l)) : ∃ a C dx fs v, V.ref k = .ref a ∧ H a = some (.ins C dx fs) ∧ Cls K C ∧ NoAttr K C "low" ∧ fs.lookup ("low" : Str) = some v ∧ P v := by
  obtain ⟨dx, hx⟩ := h
  exact w_fldi hx X.kg.cl X.low mk_low q
theorem w_kshift (X : Kx K mg ca) {l e : Bool} {s : Int} (h : MkAt ca H k l s e) (q : P (.int s)) : ∃ a C dx fs v, V.ref k = .ref a ∧ H a = some (.ins C dx fs) ∧ Cls K C ∧ NoAttr K C "shift" ∧ fs.lookup ("shift" : Str) = some v ∧ P v := by
  obtain ⟨dx, hx⟩ := h
  exact w_fldi hx X.kg.cl X.shift mk_shift q
theorem w_klead (X : Kx K mg ca) {l e : Bool} {s : Int} (h : MkAt ca H k l s e) (q : P (.bl e)) : ∃ a C dx fs v, V.ref k = .ref a ∧ H a = some (.ins C dx fs) ∧ Cls K C ∧ NoAttr K C "lead" ∧ fs.lookup ("lead" : Str) = some v ∧ P v := by
  obtain ⟨dx, hx⟩ := h
  exact w_fldi hx X.kg.cl X.lead mk_lead q
variable {E : XK} {n : Int} {l g : Addr} {PP : Addr → Hp → Prop}
theorem use_drawR (pu : Purse H a c) (n0 : 0 < n) (n1 : n < 2 ^ 60) (hc : c < 2 ^ 50) (q : ∀ r H', 0 ≤ r → r < n → Same (rm a H) (rm a H') → Purse H' a (c + 1) → Q (.int r) H') : spDraw ([.ref a, .int n] ++ []) H Q E :=
  use_draw pu n0 n1 hc fun r H' h0 h1 k p => q r H' h0 h1 k.rm p
theorem use_styleR (pu : Purse H a c) (hc : c < 2 ^ 48) (q : ∀ p H' (y : Sty), Same (rm a H) (rm a H') → Purse H' a (c + 34) → rm a H' p = some (.lst [.bl y.low, .int y.shift, .bl y.lead]) → y.shift.natAbs < 10 ^ 31 → Q (.ref p) H') : spStyle ([.ref a] ++ []) H Q E :=
  ⟨a, c, rfl, hc, pu, fun p H' y _ k p2 h => q p H' y k.rm p2 (rm_of (p2.ne h (fun _ _ _ w => by cases w)) h)⟩
theorem use_modR (pu : Purse H a c) (hl : PrL H l ps) (ha : Asc 0 ps) (hs : Small ps) (q : ∀ m H', Same (rm a H) (rm a H') → Purse H' a c → ModAt ca (rm a H') m ps → PP m H') :
    ∀ x dx, H x = none → H dx = none → dx ≠ x → spModInit ca (.ref x :: ([.ref l] ++ [])) (upd (upd H dx (.own x)) x (.ins ca.md dx [])) (fun v H2 => v = .non ∧ PP x H2) E := by
  obtain ⟨ts, h1, h2⟩ := hl
  exact use_mod h1 h2 ha hs fun m H' _ s hm => q m H' s.rm (pu.same s) (hm.rm (pu.same s))
theorem use_modS (hl : PrL H l ps) (ha : Asc 0 ps) (hs : Small ps) (q : ∀ m H', Same H H' → ModAt ca H' m ps → PP m H') :
    ∀ x dx, H x = none → H dx = none → dx ≠ x → spModInit ca (.ref x :: ([.ref l] ++ [])) (upd (upd H dx (.own x)) x (.ins ca.md dx [])) (fun v H2 => v = .non ∧ PP x H2) E := by
  obtain ⟨ts, h1, h2⟩ := hl
  exact use_mod h1 h2 ha hs fun m H' _ s hm => q m H' s hm
theorem use_wayR (pu : Purse H a c) (hm : ModAt ca H m ps) (hk : MkAt ca H k y.low y.shift y.lead) (q : ∀ x H', Same (rm a H) (rm a H') → Purse H' a c → WayAt ca (rm a H') x (bb % num ps) ps y → PP x H') :
    ∀ x dx, H x = none → H dx = none → dx ≠ x → spWayInit ca [.ref x, .int bb, .ref m, .ref k] (upd (upd H dx (.own x)) x (.ins ca.wy dx [])) (fun v H2 => v = .non ∧ PP x H2) E :=
  use_way hm (.inr ⟨k, rfl, hk⟩) fun x H' _ s hw => q x H' s.rm (pu.same s) (hw.rm (pu.same s))
theorem use_wayN (hm : ModAt ca H m ps) (q : ∀ x H', Same H H' → WayAt ca H' x (bb % num ps) ps ⟨false, 0, false⟩ → PP x H') :
    ∀ x dx, H x = none → H dx = none → dx ≠ x → spWayInit ca [.ref x, .int bb, .ref m, .non] (upd (upd H dx (.own x)) x (.ins ca.wy dx [])) (fun v H2 => v = .non ∧ PP x H2) E :=
  use_way hm (.inl ⟨rfl, rfl⟩) fun x H' _ s hw => q x H' s hw
end
end Bc
namespace Bc
open PySem PySem.Spec PyProof.Rows L2
end Bc
namespace Bc
open PySem PySem.Spec PyProof.Rows L2
section
variable {σ : L2.St} {H : Hp} {Q : VK} {ta tb : TE} {tr : L2.St → Hp → (Int → Int → Hp → Prop) → Prop} {R : Int → Int → Hp → Prop} {i j : Int} {P : Prop}
theorem w_lstRg (q : tr σ H fun a b H1 => RgOk a b ∧ ∀ q, H1 q = none → atV Q (.ref q) (upd H1 q (.lst (rgV a b)))) : tLstRg tr σ H Q := q
theorem w_rg1 (q : ta σ H fun x H1 => ∃ n, x = .int n ∧ R 0 n H1) : tRg1 ta σ H R := q
theorem w_rg2 (q : ta σ H fun x H1 => tb σ H1 fun y H2 => ∃ i j, x = .int i ∧ y = .int j ∧ R i j H2) : tRg2 ta tb σ H R := q
theorem w_rg2i {P : Int → Int → Prop} (q : P i j) : ∃ a b, V.int i = .int a ∧ V.int j = .int b ∧ P a b := ⟨i, j, rfl, rfl, q⟩
theorem w_rgok (h : -(2 ^ 62) ≤ i ∧ i < 2 ^ 62 ∧ -(2 ^ 62) ≤ j ∧ j < 2 ^ 62 ∧ (j - i).toNat ≤ 2 ^ 24) (q : P) : RgOk i j ∧ P := ⟨h, q⟩
end
section
variable {c : TT} {tb : TS} {D : Ends} {σ : L2.St} {H : Hp}
theorem while_m (Pv : Nat → L2.St → Hp → Prop) (m : Nat) (h0 : Pv m σ H) (hs : ∀ m σ H, Pv m σ H → c σ H fun b H1 => if b = true then (∃ N : L2.St → Hp → Prop, (∀ σ' H', N σ' H' → ∃ m', m' < m ∧ Pv m' σ' H') ∧
      tb { D with nx := N, ct := N, bk := D.nx } σ H1) else D.nx σ H1) : tWhile c tb D σ H := ⟨Pv, ⟨m, h0⟩, hs⟩
theorem while_nm {Pv : Nat → L2.St → Hp → Prop} {m : Nat} (q : tb { D with nx := fun σ' H' => ∃ m', m' < m ∧ Pv m' σ' H', ct := fun σ' H' => ∃ m', m' < m ∧ Pv m' σ' H', bk := D.nx } σ H) :
    ∃ N : L2.St → Hp → Prop, (∀ σ' H', N σ' H' → ∃ m', m' < m ∧ Pv m' σ' H') ∧ tb { D with nx := N, ct := N, bk := D.nx } σ H := ⟨_, fun _ _ h => h, q⟩
end
theorem w_unl {K : PySem.W.Frag} {H : Hp} {σ : L2.St} {tg : TGs} {p : Addr} {xs : List V} {k : Nat} {Qs : L2.St → Hp → Prop} (h : SqL K H p xs) (l : xs.length = k) (q : tg xs σ H Qs) : gUnl K k tg (.ref p) σ H Qs := ⟨p, xs, rfl, h, l, q⟩
end Bc
namespace Bc
open PySem PySem.Spec PyProof.Rows L2
noncomputable def LL (H : Hp) (r : Addr) (cuts : List (List Int)) : Prop := ∃ as : List Addr, H r = some (.lst (as.map V.ref)) ∧ Paired (fun c p => H p = some (.lst (c.map V.int))) cuts as
noncomputable def PM (y : Sty) (b n : Int) (H : Hp) (r : Addr) (us : List (List Int)) : Prop := ∃ qs : List Addr, H r = some (.lst (qs.map V.ref)) ∧ Paired (fun c q => H q = some (.lst [.int (mark y b n c), .int c.length])) us qs
theorem LL.same {H H' : Hp} {r : Addr} {cuts : List (List Int)} (h : LL H r cuts) (s : Same H H') : LL H' r cuts := by
  obtain ⟨as, h1, h2⟩ := h
  exact ⟨as, s _ _ h1, paired_imp (fun _ _ z => s _ _ z) h2⟩
theorem PM.same {y : Sty} {b n : Int} {H H' : Hp} {r : Addr} {us : List (List Int)} (h : PM y b n H r us) (s : Same H H') : PM y b n H' r us := by
  obtain ⟨as, h1, h2⟩ := h
  exact ⟨as, s _ _ h1, paired_imp (fun _ _ z => s _ _ z) h2⟩
theorem ints_inj {a b : List Int} (h : a.map V.int = b.map V.int) : a = b := by
  induction a generalizing b with
  | nil => cases b with | nil => rfl | cons => cases h
  | cons x r ih => cases b with
    | nil => cases h
    | cons z t =>
      injection h with h1 h2
      injection h1 with h1
      rw [h1, ih h2]
/-- letters exchanged one by one, those of ord still to come -/
noncomputable def Mix (ls ms cur : List Int) (ord : List Nat) : Prop := cur.length = ls.length ∧ ord.Nodup ∧ ∀ i, i < ls.length → cur[i]? = if i ∈ ord then ls[i]? else ms[i]?
theorem Mix.done {ls ms cur : List Int} (h : Mix ls ms cur []) (e : ms.length = ls.length) : cur = ms := by
  refine List.ext_getElem? fun i => ?_
  by_cases hi : i < ls.length
  · rw [h.2.2 i hi]; simp
  · rw [List.getElem?_eq_none (by have := h.1; omega), List.getElem?_eq_none (by omega)]
end Bc
namespace Bc
open PySem PySem.Spec PyProof.Rows L2
/-- __init__ of an error with one field -/
noncomputable def spErr (C : Addr) (f : Str) : Sp := fun vs H Q _ => ∃ (a : Addr) (v : V), vs = [.ref a, v] ∧ H a = some (exo a C none) ∧ ∀ dx, H dx = none → dx ≠ a → Q .non (upd (upd H dx (exd dx [(f, v)])) a (exo a C (some dx)))
structure Err (P : Program) (w : World) (K : PySem.W.Frag) (mg : Str → Option Value) (base : Heap) (k : Nat) (x : Str) (C : Addr) (f : Str) : Prop where
  ex : ∃ (fI : Addr) (fd : FuncData) (ps : List Str), OexC K C ∧ PySem.W.findIn K (.ref C) "__init__" = some (some (.ref fI)) ∧ PySem.W.typeIn K (.ref fI) = some (.type "function") ∧ FnOk P w K mg base L2.CX0 k fI fd ps (spErr C f) ∧ Binds K fd ps [] ∧ mg x = some (.ref C)
/-- what is known of an error that is caught -/
structure ErrC (K : PySem.W.Frag) (mg : Str → Option Value) (x : Str) (C : Addr) (f : Str) : Prop where
  gC : mg x = some (.ref C)
  xf : XfC K C
  no : PySem.W.findIn K (.ref C) f = some none
  te : PySem.W.exmOne K (.ref C) (.ref C) = some true
section
variable {X : Cx} {k j : Nat} {x f : Str} {C : Addr} {sp : Sp} {dvs : List V} {p pos pos2 : Pos} {e : Expr} {es : List Expr} {ta t : TA} {W : WX}
theorem ps_rse (c : Err X.prog X.w X.K X.mg X.base k x C f) (hc : X.calm = true) (hr : Room j X.A) (hk : k + 1 ≤ j) (tk : Takes X W) (hg : Gl X x) (ha : PA X (e :: es) ta)
    (hdb : (x == ("__debug__" : Str)) = false := by decide) (he : starEach (e :: es) X.env = (false, eval e X.env) :: starEach es X.env := by rfl) (hpl : (backTo pos (starEach es X.env)).any (·.1) = false := by rfl) :
    PS X (.Raise (some (.Call (.Name x p) (e :: es) [] pos)) none pos2) (fun _ σ H => tMkO C (spErr C f) [] ta σ H fun cls d H' => W cls d σ H') := by
  obtain ⟨fI, fd, ps, T, iC, tI, F, b, hm⟩ := c.ex
  exact ps_raise hc tk (pmk_oex T iC tI F (hr.mono hk) b .nil (fun _ _ _ _ _ _ _ h => h.elim) hg hm ha hdb he hpl)
theorem w_mkO {σ : L2.St} {H : Hp} {Q : XK} {dvs : List V} (q : ta σ H fun vs H1 => vs.length ≤ 1000 ∧ ∀ a, H1 a = none → sp (.ref a :: (vs ++ dvs)) (upd H1 a (exo a C none))
  (fun v H2 => v = .non ∧ ∃ (d : Addr) (fs : List (Str × V)), H2 a = some (exo a C (some d)) ∧ H2 d = some (exd d fs) ∧ H1 d = none ∧ Q (.ref C) (some d) (upd (del H2 a) d (.xd fs))) (fun _ _ _ => False)) : tMkO C sp dvs ta σ H Q := q
/-- the error flies: its dict is new, what stood stands -/
theorem w_fly {H : Hp} {E : XK} {E' : XK} {v : V} (q : ∀ d H2, H d = none → Same H H2 → H2 d = some (.xd [(f, v)]) → E (.ref C) (some d) H2) : [v].length ≤ 1000 ∧ ∀ a, H a = none → spErr C f (.ref a :: ([v] ++ [])) (upd H a (exo a C none))
    (fun u H2 => u = .non ∧ ∃ (d : Addr) (fs : List (Str × V)), H2 a = some (exo a C (some d)) ∧ H2 d = some (exd d fs) ∧ H d = none ∧ E (.ref C) (some d) (upd (del H2 a) d (.xd fs))) E' :=
  ⟨by show 1 ≤ 1000; decide, fun a na => ⟨a, v, rfl, upd_same, fun dx nd ne => ⟨rfl, dx, _, upd_same, by rw [upd_ne ne, upd_same], by rw [upd_ne ne] at nd; exact nd, q dx _ (by rw [upd_ne ne] at nd; exact nd) (fun b o h => by
    have nb : b ≠ a := ne_of_none h na
    have nb2 : b ≠ dx := ne_of_none h (by rw [upd_ne ne] at nd; exact nd)
    rw [upd_ne nb2, del_ne nb, upd_ne nb, upd_ne nb2, upd_ne nb]
    exact h) upd_same⟩⟩⟩
/-- a def that may raise -/
structure CalX (P : Program) (w : World) (K : PySem.W.Frag) (mg : Str → Option Value) (base : Heap) (k : Nat) (x : Str) (sp : Sp) (dvs : List V) : Prop where
  ex : ∃ (f : Addr) (fd : FuncData) (ps : List Str) (ds : List Value), FnOk P w K mg base (L2.CX P w) k f fd ps sp ∧ mg x = some (.ref f) ∧ PySem.W.keepIn K (.ref f) = true ∧ Binds K fd ps ds ∧ Vals dvs ds
theorem pe_cX (c : CalX X.prog X.w X.K X.mg X.base k x sp dvs) (hr : Room j X.A) (hk : k ≤ j) (hg : Gl X x) (tk : Takes X W) (ha : PA X (e :: es) t)
    (hdb : (x == ("__debug__" : Str)) = false := by decide) (he : starEach (e :: es) X.env = (false, eval e X.env) :: starEach es X.env := by rfl) (hpl : (backTo pos (starEach es X.env)).any (·.1) = false := by rfl) :
    PE X (.Call (.Name x p) (e :: es) [] pos) (tCallSD sp dvs (WE W) t) := by
  obtain ⟨f, fd, ps, ds, F, hm, kp, b, d⟩ := c.ex
  exact pe_callSD F (hr.mono hk) hg hm kp b d (fun σ => passAt tk σ) ha hdb he hpl
/-- a call of it that raises nothing -/
theorem pe_cL (c : CalX X.prog X.w X.K X.mg X.base k x sp dvs) (hr : Room j X.A) (hk : k ≤ j) (hg : Gl X x) (ha : PA X (e :: es) t)
    (hdb : (x == ("__debug__" : Str)) = false := by decide) (he : starEach (e :: es) X.env = (false, eval e X.env) :: starEach es X.env := by rfl) (hpl : (backTo pos (starEach es X.env)).any (·.1) = false := by rfl) :
    PE X (.Call (.Name x p) (e :: es) [] pos) (tCall sp dvs L2.E0 t) := by
  obtain ⟨f, fd, ps, ds, F, hm, kp, b, d⟩ := c.ex
  exact pe_call F (hr.mono hk) hg hm kp b d passL ha hdb he hpl
theorem w_callX {σ : L2.St} {H : Hp} {Q : VK} (q : t σ H fun vs H1 => sp (vs ++ dvs) H1 Q fun cls d H2 => W cls d σ H2) : tCallSD sp dvs (WE W) t σ H Q := q
structure CalXK (P : Program) (w : World) (K : PySem.W.Frag) (mg : Str → Option Value) (base : Heap) (k : Nat) (x : Str) (ks : List Str) (sp : Sp) (gV : List V → List V → List V) : Prop where
  ex : ∃ (f : Addr) (fd : FuncData) (ps : List Str) (g : List Value → List Value → List Value), FnOk P w K mg base (L2.CX P w) k f fd ps sp ∧ mg x = some (.ref f) ∧ PySem.W.keepIn K (.ref f) = true ∧ KBn K fd ps 0 ks g gV
theorem pe_cLK {ks : List Str} {gV : List V → List V → List V} {kws : List Keyword} {tk : TA} (c : CalXK X.prog X.w X.K X.mg X.base k x ks sp gV) (hr : Room j X.A) (hk : k ≤ j) (hg : Gl X x) (hkw : PK X kws tk)
    (hall : (backToKw pos (keywordEach kws X.env)).all (·.1.isSome) = true := by rfl) (hks : (backToKw pos (keywordEach kws X.env)).filterMap (·.1) = ks := by rfl) (hdb : (x == ("__debug__" : Str)) = false := by decide)
    (hpl : ((backTo pos (starEach [] X.env)).any (·.1) || (backToKw pos (keywordEach kws X.env)).any (·.1.isNone)) = false := by rfl) :
    PE X (.Call (.Name x p) [] kws pos) (tCallN 0 ks.length sp gV L2.E0 tNil tk) := by
  obtain ⟨f, fd, ps, g, F, hm, kp, b⟩ := c.ex
  refine ⟨fun pins s σ H Q I h => ?_⟩
  refine wpAny_Call_Name_kw (ld_glob I hg hm ?_ hdb)
  refine PySem.W.callWith_KW0 (h₀ := X.base) I.ok.mod.kin kp hall ?_ hpl
  refine thn (hkw.run pos pins s σ H _ I h) fun ws s2 ⟨zs, H2, I2, rz, l1, l2, q2⟩ => ⟨I2.kIn, ?_⟩
  rw [hks]
  exact run_fnN (us := []) (vs := []) F (hr.mono hk) b passL I2 .nil rz rfl l2 q2
end
section
variable {P : Program} {w : World} {K : PySem.W.Frag} {mg : Str → Option Value} {base : Heap}
theorem Dn.calX {x : Str} {st : Stmt} {N ps : List Str} {k : Nat} {sp : Sp} (F : Dn K mg x st ps) (S : FnScope N ps (defScope st)) (len : ∀ vs H Q E, sp vs H Q E → vs.length = ps.length)
    (hbody : ∀ (f : Addr) (cdv : Value) (A : Around) (outer : List Env) (s : Shared) (H : Hp) (vs : List V) (Q : VK) (E : XK), Room k (A.deeper (envOfC x (defScope st) s.heap.objs.size f cdv)) → sp vs H Q E →
      ∃ t, PSs (cxOf (L2.CX P w) P w K mg base N x (defScope st) f cdv A outer s H E) (defBody st) t ∧ t { nx := fun _ H' => Q .non H', rt := Q } (start N vs) H) : CalX P w K mg base (k + 1) x sp [] := by
  obtain ⟨f, fd, F1, m, b⟩ := F.ex
  exact ⟨f, fd, ps, [], F1.okX S len (fun cdv A outer s H vs Q E hr h => hbody f cdv A outer s H vs Q E hr h), m, F1.kp, b, .nil⟩
/-- the same for a def whose call by keywords is wanted, too -/
theorem fnX_ok {x qual : Str} {st : Stmt} {dvs : List V} {kws : List (Str × V)} {f : Addr} {fd : FuncData} {N ps : List Str} {k : Nat} {sp : Sp}
    (F : FunD K x qual (defArgs st) (defBody st) (defScope st) dvs kws f fd) (S : FnScope N ps (defScope st)) (len : ∀ vs H Q E, sp vs H Q E → vs.length = ps.length)
    (hbody : ∀ (cdv : Value) (A : Around) (outer : List Env) (s : Shared) (H : Hp) (vs : List V) (Q : VK) (E : XK), Room k (A.deeper (envOfC qual (defScope st) s.heap.objs.size f cdv)) → sp vs H Q E →
      ∃ t, PSs (cxOf (L2.CX P w) P w K mg base N qual (defScope st) f cdv A outer s H E) (defBody st) t ∧ t { nx := fun _ H' => Q .non H', rt := Q } (start N vs) H) : FnOk P w K mg base (L2.CX P w) (k + 1) f fd ps sp :=
  F.ok S len fun cdv A outer s H vs Q E hr h => hbody cdv A outer s H vs Q E hr h
end
theorem w_xf {a C : Addr} {cls : Value} {d : Option Addr} {f : Str} {te : TE} {σ : L2.St} {H : Hp} {Q : VK} (q : te σ H fun x H1 => x = .ref a ∧ cls = .ref C ∧ ∃ (dd : Addr) (fs : List (Str × V)) (v : V), d = some dd ∧ H1 dd = some (.xd fs) ∧ fs.lookup f = some v ∧ Q v H1) : tXf a cls d C f te σ H Q := q
theorem w_xfi {a C dd : Addr} {f : Str} {H : Hp} {v : V} {P : V → Prop} (h : H dd = some (.xd [(f, v)])) (q : P v) : V.ref a = .ref a ∧ Value.ref C = .ref C ∧ ∃ (d2 : Addr) (fs : List (Str × V)) (u : V), some dd = some d2 ∧ H d2 = some (.xd fs) ∧ fs.lookup f = some u ∧ P u := ⟨rfl, rfl, dd, _, v, rfl, h, lk0, q⟩
theorem exm_own {K : PySem.W.Frag} {S : Addr} (b : PySem.W.subIn K (.ref S) (.type "BaseException") = some true) (i : PySem.W.isClsIn K S = true) (t : PySem.W.typeIn K (.ref S) = some (.type "type")) (s : PySem.W.subIn K (.ref S) (.ref S) = some true) : PySem.W.exmOne K (.ref S) (.ref S) = some true := by
  have i' : (PySem.W.clsIn K S).isSome = true := i
  unfold PySem.W.exmOne PySem.W.kitCls
  simp only [b, i', t, s, BEq.rfl, Bool.and_self, if_true]
end Bc
namespace Bc
open PySem PySem.Spec PyProof.Rows L2
theorem gcd_mod (x n : Int) : Int.gcd (x % n) n = Int.gcd x n := by
  have h := Int.gcd_mul_left_add_left n (x % n) (x / n)
  rw [Int.mul_ediv_add_emod] at h
  exact h.symm
end Bc
namespace Bc
open PySem PySem.Spec PyProof.Rows L2
/-- what the Euclidean steps keep -/
noncomputable def InvOk (u n one other first second : Int) : Prop := 0 ≤ one ∧ 0 ≤ other ∧ other < one + 1 + n ∧ Int.gcd one other = Int.gcd n u ∧ (∃ k, first * u = one + n * k) ∧ (∃ k, second * u = other + n * k) ∧ ((0 ≤ second ∧ first ≤ 0 ∧ -first * other + second * one = n) ∨ (second ≤ 0 ∧ 0 ≤ first ∧ first * other + -second * one = n))
theorem InvOk.start {u n : Int} (hn : 0 < n) : InvOk u n n (u % n) 0 1 := by
  have h0 := Int.emod_nonneg u (show n ≠ 0 by omega)
  have h1 := Int.emod_lt_of_pos u hn
  refine ⟨by omega, h0, by omega, ?_, ⟨-1, by omega⟩, ⟨u / n, ?_⟩, .inl ⟨by decide, by decide, by omega⟩⟩
  · rw [Int.gcd_comm n (u % n), Int.gcd_comm n u]
    exact gcd_mod u n
  · rw [Int.one_mul]
    have := Int.mul_ediv_add_emod u n
    omega
theorem InvOk.le {u n one other first second : Int} (h : InvOk u n one other first second) (hn : 0 < n) (ho : 0 < other) : first.natAbs ≤ n.natAbs ∧ (0 < one → second.natAbs ≤ n.natAbs) ∧ one / other ≤ one ∧ 0 ≤ one / other := by
  obtain ⟨h1, h2, h3, h4, _, _, h5⟩ := h
  have hdiv : one / other ≤ one := Int.ediv_le_self _ h1
  have hdiv0 : 0 ≤ one / other := Int.ediv_nonneg h1 (by omega)
  have key : ∀ a b c d : Int, 0 ≤ a → 0 ≤ b → 0 ≤ c → 0 ≤ d → a * b + c * d = n → (0 < b → a ≤ n) ∧ (0 < d → c ≤ n) := fun a b c d ha hb hc hd e => by
    have p1 := Int.mul_nonneg ha hb
    have p2 := Int.mul_nonneg hc hd
    constructor
    · intro z
      have := Int.mul_le_mul_of_nonneg_left (show 1 ≤ b from z) ha
      omega
    · intro z
      have := Int.mul_le_mul_of_nonneg_left (show 1 ≤ d from z) hc
      omega
  rcases h5 with ⟨a1, a2, a3⟩ | ⟨a1, a2, a3⟩
  · obtain ⟨x1, x2⟩ := key (-first) other second one (by omega) h2 a1 h1 a3
    have := x1 ho
    exact ⟨by omega, fun z => by have := x2 z; omega, hdiv, hdiv0⟩
  · obtain ⟨x1, x2⟩ := key first other (-second) one a2 h2 (by omega) h1 a3
    have := x1 ho
    exact ⟨by omega, fun z => by have := x2 z; omega, hdiv, hdiv0⟩
theorem InvOk.done {u n one first second : Int} (h : InvOk u n one 0 first second) (hn : 0 < n) (hg : Int.gcd u n = 1) : u * (first % n) % n = 1 % n := by
  obtain ⟨h1, _, _, h4, ⟨k1, e1⟩, _⟩ := h
  have ho : one = 1 := by
    rw [Int.gcd_comm n u, hg] at h4
    have : Int.gcd one 0 = one.natAbs := Int.gcd_zero_right one
    omega
  obtain ⟨k, e⟩ := self_mod n first
  rw [e, cg]
  refine ⟨k1 + u * k, ?_⟩
  rw [Int.mul_add, Int.mul_comm u first, e1, ho]
  grind
end Bc
namespace Bc
open PySem PySem.Spec PyProof.Rows L2
/-- what is told of a part: its mark, or that it is open -/
noncomputable def DE (op : Prop) (m len : Int) (e : V) (G : Hp) : Prop := (¬ op ∧ e = .int m) ∨ (op ∧ ∃ p, e = .ref p ∧ G p = some (.lst [.str "open", .int len]))
theorem DE.same {op : Prop} {m len : Int} {e : V} {G G' : Hp} (h : DE op m len e G) (s : Same G G') : DE op m len e G' := by
  rcases h with h | ⟨h, p, e1, e2⟩
  · exact .inl h
  · exact .inr ⟨h, p, e1, s _ _ e2⟩
theorem map_int_inj {l m : List Int} (h : l.map V.int = m.map V.int) : l = m := by
  induction l generalizing m with
  | nil => cases m with
    | nil => rfl
    | cons _ _ => cases h
  | cons a t ih => cases m with
    | nil => cases h
    | cons b s =>
      rw [List.map_cons, List.map_cons] at h
      injection h with h1 h2
      injection h1 with h1
      rw [h1, ih h2]
end Bc
namespace Bc
open PySem PySem.Spec PyProof.Rows L2
/-- a clause: its class, the slot of its name if it has one, its suite's reading -/
structure Cl where
  c : Value
  i : Option Nat
  ts : Addr → Value → Option Addr → TS
noncomputable def clEnds (i : Option Nat) (D : Ends) : Ends := match i with
  | none => D
  | some i => { nx := fun σ' H' => D.nx (σ'.set i none) H', rt := D.rt, bk := fun σ' H' => D.bk (σ'.set i none) H', ct := fun σ' H' => D.ct (σ'.set i none) H' }
noncomputable def clSlot (i : Option Nat) (a : Addr) (σ : L2.St) : L2.St := match i with
  | none => σ
  | some i => σ.set i (some (.ref a))
/-- what the clauses wish of an error of the body -/
noncomputable def wCls (K : PySem.W.Frag) (Wout : WX) (D : Ends) : List Cl → WX
  | [] => Wout
  | k :: r => fun cls d σ H => ∃ b, PySem.W.exmOne K cls k.c = some b ∧ (b = true → ∀ a, H a = none → k.ts a cls d (clEnds k.i D) (clSlot k.i a σ) H) ∧ (b = false → wCls K Wout D r cls d σ H)
inductive ClsOk (X : Cx) : List ExceptHandler → List Cl → Prop
  | nil : ClsOk X [] []
  | as {x n : Str} {c : Value} {i : Nat} {ts : Addr → Value → Option Addr → TS} {b₀ : Stmt} {suite : List Stmt} {np pos' : Pos} {hds : List ExceptHandler} {l : List Cl} (hN : X.N.Nodup) (hi : X.N[i]? = some n) (hln : X.env.kindOf n = some .local) (hc : Names X x c)
      (hsu : ∀ (a : Addr) (oe : Obj) (cls : Value) (d : Option Addr) (pn : List (Addr × Obj)), Zc cls d oe → (∃ vs, oe.data = .fields vs) → PSs (X.suite a ((a, oe) :: pn)) (b₀ :: suite) (ts a cls d)) (r : ClsOk X hds l) :
      ClsOk X (.ExceptHandler (some (.Name x np)) (some n) (b₀ :: suite) pos' :: hds) (⟨c, some i, ts⟩ :: l)
  | no {x : Str} {c : Value} {ts : Addr → Value → Option Addr → TS} {b₀ : Stmt} {suite : List Stmt} {np pos' : Pos} {hds : List ExceptHandler} {l : List Cl} (hc : Names X x c)
      (hsu : ∀ (a : Addr) (oe : Obj) (cls : Value) (d : Option Addr) (pn : List (Addr × Obj)), Zc cls d oe → (∃ vs, oe.data = .fields vs) → PSs (X.suite a ((a, oe) :: pn)) (b₀ :: suite) (ts a cls d)) (r : ClsOk X hds l) :
      ClsOk X (.ExceptHandler (some (.Name x np)) none (b₀ :: suite) pos' :: hds) (⟨c, none, ts⟩ :: l)
section
variable {X : Cx} {body : List Stmt} {h₀ : ExceptHandler} {hds : List ExceptHandler} {l : List Cl} {pos : Pos} {tb : WX → TS} {Wout : WX}
theorem ps_try_cls (hs : X.stack = X.env :: X.outer) (hf : X.env.frame = some X.env.locals) (tk : Takes X Wout)
    (hb : ∀ (W : WX) (pn : List (Addr × Obj)) (xe : Value → Shared → Prop), Takes (X.tr pn xe) W → PassesOwn (model X.prog X.w) X.A X.env xe → PSs (X.tr pn xe) body (tb W))
    (hh : ClsOk X (h₀ :: hds) l) : PS X (.Try body (h₀ :: hds) [] [] pos) (fun D σ H => tb (wCls X.K Wout D l) D σ H) := by
  refine ⟨fun pins s σ H D I h => ?_⟩
  have ok := I.ok
  have hfr : X.A.frames = some (X.env :: X.outer) := by rw [ok.frames, hs]
  refine wpAny_Try_except ?_
  refine wpAny_mono ((hb (wCls X.K Wout D l) (X.pn ++ pins) (fun e s₁ => wpAny (model X.prog X.w) X.A (noteFrame e X.env) (fun _ s₂ => wpAny (model X.prog X.w) X.A (setFlight e none) (fun _ s₃ =>
    wpAny (model X.prog X.w) X.A (handleBy e X.env (h₀ :: hds)) (SP X pins D) X.xe s₃) X.xe s₂) X.xe s₁) (fun u s' xx => ?_) PassesOwn.looking).run [] s σ H D (I.toTry _) h) (fun f s1 hsp => ?_) (fun e s1 he => he)
  · obtain ⟨a, B, sI, pins', σ', H', cls, d, rfl, J', nb, up, sky, na, os, ag, w⟩ := xx
    have J : Inv X pins σ' H' sI := J'.ofTry ok
    have sky' : Sky B (X.env :: X.outer) a (Zc cls d) X.env.locals s'.heap := by rw [← hs]; exact sky
    show wpAny (model X.prog X.w) X.A (noteFrame (.ref a) X.env) _ _ _
    refine Sky.land Zc.steady hfr hf sky' fun h3 fl3 up3 => ?_
    have J3 : Inv X pins σ' H' { s' with heap := h3 } := J.landed nb fl3.1 (up.trans up3) os ag
    obtain ⟨oe3, vs3, he3, hz3, hd3⟩ := fl3.there
    have nfr : a ∉ frs (X.env :: X.outer) := fun hm => by
      obtain ⟨_, o', e', hnf⟩ := fl3.2.2.1.mem hm
      rw [he3] at e'
      cases e'
      exact hnf _ hd3
    have nL : a ≠ X.env.locals := fun z => nfr (List.mem_filterMap.mpr ⟨X.env, List.mem_cons_self, by rw [hf, z]⟩)
    have nF : a ∉ X.fs := fun hm => by
      obtain ⟨e, he, q⟩ := List.mem_filterMap.mp hm
      exact nfr (List.mem_filterMap.mpr ⟨e, List.mem_cons_of_mem _ he, q⟩)
    have S3 := J3.suite he3 hd3 na nL nF
    have LT : PySem.W.Looks (model X.prog X.w) h3 (typeOf (.ref a)) cls := fun A Q E s k q => wpAny_typeOf_ref (k _ _ he3) (by rw [hz3.1]; exact q)
    have test : ∀ {x : Str} {c : Value} {np : Pos} {Q : Value → Shared → Prop} {E : Value → Shared → Prop}, Names X x c → Q c { s' with heap := h3 } → wpAny (model X.prog X.w) (X.A.mark (some (.ref a))) (eval (.Name x np) X.env) Q E { s' with heap := h3 } := fun {x c np Q E} hc q => by
      obtain ⟨hg, hdbg, hm | ⟨hm, hv, hnn⟩⟩ := hc
      · exact ld_glob (X := X.suite a ((a, oe3) :: (X.pn ++ pins))) S3 hg hm q hdbg
      · exact ld_blt (X := X.suite a ((a, oe3) :: (X.pn ++ pins))) S3 hg hm hv q hnn hdbg
    have go : ∀ {hds' : List ExceptHandler} {l' : List Cl}, ClsOk X hds' l' → wCls X.K Wout D l' cls d σ' H' →
        wpAny (model X.prog X.w) X.A (handleBy (.ref a) X.env hds') (SP X pins D) X.xe { s' with heap := h3 } := by
      intro hds' l' hk
      induction hk with
      | nil =>
        intro w
        refine wpAny_handleBy_nil ?_
        obtain ⟨k1, k2, k3, oe, vs, T, oT, ts', he, hz, hd, h1, hr⟩ := id fl3
        unfold PySem.passOn
        refine wpAny_bind (wpAny_field he hd h1 ?_)
        rw [if_neg (show ¬ ((Value.ref T == Value.none) = true) from by simp)]
        have fin : wpAny (model X.prog X.w) X.A (setFlight (.ref a) X.env.frame) (fun _ s4 => wpAny (model X.prog X.w) X.A (throw (.ref a) : Sem Flow) (SP X pins D) X.xe s4) X.xe { s' with heap := h3 } := by
          rw [hf]
          refine HandSPX.setFlight_upZ fl3 fun h4 hh4 up4 => wpAny_throw (tk _ _ ?_)
          exact ⟨a, B, sI, pins, σ', H', cls, d, rfl, J, nb, (up.trans up3).trans up4, .inr (.inr (by rw [hs]; exact hh4)), na, os, ag, w⟩
        first
          | exact wpAny_bind (wpAny_pure (wpAny_bind fin))
          | exact wpAny_bind fin
      | @as x n c i ts b₀ suite np pos' hds2 l2 hN hi hln hc hsu r ih =>
        intro w
        obtain ⟨b, hb1, hyes, hno⟩ := w
        refine wpAny_handleBy_cons (codeAny_handlers_test ?_) (by intro q; cases q)
        refine test hc ((PySem.W.exm_one (M := model X.prog X.w) (J3.kIn) LT hb1).here ?_)
        cases b with
        | true =>
          refine codeAny_handlers_suite_as ?_
          refine HandSPX.lands_againZ fl3 fun h4 fl4 up4 => ?_
          have J4 : Inv X pins σ' H' { s' with heap := h4 } := J.landed nb fl4.1 ((up.trans up3).trans up4) os ag
          obtain ⟨oe4, vs4, he4, hz4, hd4⟩ := fl4.there
          have S4 := J4.suite he4 hd4 na nL nF
          refine store_ok (X := X.suite a ((a, oe4) :: (X.pn ++ pins))) (v := .ref a) S4 hN hi (.inl hln) rfl (fun s5 S5 => ?_) (.inr hln)
          refine wpAny_mono ((hsu a oe4 cls d (X.pn ++ pins) hz4 ⟨_, hd4⟩).run [] s5 _ H' _ S5 (hyes rfl a na)) (fun f s6 hsp => ?_) (fun _ _ z => False.elim z)
          have end_ : ∀ {σ6 : L2.St} {H6 : Hp} {Q : Shared → Prop}, Inv (X.suite a ((a, oe4) :: (X.pn ++ pins))) [] σ6 H6 s6 → (∀ s7, Inv X pins (σ6.set i none) H6 s7 → Q s7) →
              wpAny (model X.prog X.w) X.A (do bindName X.env n .none; unbindBehindTheSuite X.env n pos') (fun _ s7 => Q s7) X.xe s6 := fun {σ6 H6 Q} S6 hq => gone_ok (S6.unsuite ok) hN hi hln hq
          cases f with
          | next =>
            obtain ⟨σ6, H6, S6, q6⟩ := hsp
            exact end_ S6 fun s7 J7 => ⟨_, _, J7, q6⟩
          | brk =>
            obtain ⟨σ6, H6, S6, q6⟩ := hsp
            exact end_ S6 fun s7 J7 => ⟨_, _, J7, q6⟩
          | cont =>
            obtain ⟨σ6, H6, S6, q6⟩ := hsp
            exact end_ S6 fun s7 J7 => ⟨_, _, J7, q6⟩
          | ret u =>
            obtain ⟨v6, σ6, H6, S6, r6, q6⟩ := hsp
            exact end_ S6 fun s7 J7 => ⟨_, _, _, J7, r6, q6⟩
        | false =>
          show wpAny _ X.A (handleBy (.ref a) X.env hds2) _ _ _
          exact ih (hno rfl)
      | @no x c ts b₀ suite np pos' hds2 l2 hc hsu r ih =>
        intro w
        obtain ⟨b, hb1, hyes, hno⟩ := w
        refine wpAny_handleBy_cons (codeAny_handlers_test ?_) (by intro q; cases q)
        refine test hc ((PySem.W.exm_one (M := model X.prog X.w) (J3.kIn) LT hb1).here ?_)
        cases b with
        | true =>
          refine codeAny_handlers_suite ?_
          refine HandSPX.lands_againZ fl3 fun h4 fl4 up4 => ?_
          have J4 : Inv X pins σ' H' { s' with heap := h4 } := J.landed nb fl4.1 ((up.trans up3).trans up4) os ag
          obtain ⟨oe4, vs4, he4, hz4, hd4⟩ := fl4.there
          have S4 := J4.suite he4 hd4 na nL nF
          refine wpAny_mono ((hsu a oe4 cls d (X.pn ++ pins) hz4 ⟨_, hd4⟩).run [] _ _ H' _ S4 (hyes rfl a na)) (fun f s6 hsp => ?_) (fun _ _ z => False.elim z)
          cases f with
          | next =>
            obtain ⟨σ6, H6, S6, q6⟩ := hsp
            exact ⟨_, _, S6.unsuite ok, q6⟩
          | brk =>
            obtain ⟨σ6, H6, S6, q6⟩ := hsp
            exact ⟨_, _, S6.unsuite ok, q6⟩
          | cont =>
            obtain ⟨σ6, H6, S6, q6⟩ := hsp
            exact ⟨_, _, S6.unsuite ok, q6⟩
          | ret u =>
            obtain ⟨v6, σ6, H6, S6, r6, q6⟩ := hsp
            exact ⟨_, _, _, S6.unsuite ok, r6, q6⟩
        | false =>
          show wpAny _ X.A (handleBy (.ref a) X.env hds2) _ _ _
          exact ih (hno rfl)
    exact go hh w
  · cases f with
    | next =>
      obtain ⟨σ', H', J', q⟩ := hsp
      exact wpAny_execs_nil ⟨σ', H', J'.ofTry ok, q⟩
    | brk =>
      obtain ⟨σ', H', J', q⟩ := hsp
      exact ⟨σ', H', J'.ofTry ok, q⟩
    | cont =>
      obtain ⟨σ', H', J', q⟩ := hsp
      exact ⟨σ', H', J'.ofTry ok, q⟩
    | ret u =>
      obtain ⟨v, σ', H', J', r, q⟩ := hsp
      exact ⟨v, σ', H', J'.ofTry ok, r, q⟩
end
section
variable {K : PySem.W.Frag} {W : WX} {D : Ends} {c cls : Value} {i : Nat} {ts : Addr → Value → Option Addr → TS} {r : List Cl} {d : Option Addr} {σ : L2.St} {H : Hp}
theorem w_clsA (te : PySem.W.exmOne K cls c = some true) (q : ∀ a, H a = none → ts a cls d { nx := fun σ' H' => D.nx (σ'.set i none) H', rt := D.rt, bk := fun σ' H' => D.bk (σ'.set i none) H', ct := fun σ' H' => D.ct (σ'.set i none) H' } (σ.set i (some (.ref a))) H) :
    wCls K W D (⟨c, some i, ts⟩ :: r) cls d σ H := ⟨true, te, fun _ => q, fun z => by cases z⟩
theorem w_clsN (te : PySem.W.exmOne K cls c = some true) (q : ∀ a, H a = none → ts a cls d D σ H) : wCls K W D (⟨c, none, ts⟩ :: r) cls d σ H := ⟨true, te, fun _ => q, fun z => by cases z⟩
theorem w_cls0 {k : Cl} (te : PySem.W.exmOne K cls k.c = some false) (q : wCls K W D r cls d σ H) : wCls K W D (k :: r) cls d σ H := ⟨false, te, (fun z => by cases z), fun _ => q⟩
end
end Bc
namespace Bc
open PySem PySem.Spec PyProof.Rows L2
noncomputable def plainV : V → Bool
  | .byt _ => false
  | .flt _ => false
  | _ => true
noncomputable def Alk (K : PySem.W.Frag) (H : Hp) : Nat → V → V → Prop
  | 0, x, y => x = y ∧ plainV x = true
  | n + 1, x, y => (x = y ∧ plainV x = true) ∨ ∃ p q xs ys, x = .ref p ∧ y = .ref q ∧ SqL K H p xs ∧ SqL K H q ys ∧ Paired (Alk K H n) xs ys
theorem eq_self {x : V} {v u : Value} {A : Around} {s : Shared} (h : plainV x = true) (r : RelV x v) (r' : RelV x u) : PySem.SeqAt.EqAt A s v u true := by
  cases x with
  | non => cases r; cases r'; exact PySem.SeqAt.EqAt.same _
  | bl b => cases r; cases r'; exact PySem.SeqAt.EqAt.same _
  | int i =>
    obtain ⟨t, rfl⟩ := r
    obtain ⟨t', rfl⟩ := r'
    have := PySem.SeqAt.EqAt.int_int (A := A) (s := s) i t i t'
    rwa [beq_self_eq_true] at this
  | str z =>
    obtain ⟨t, rfl⟩ := r
    obtain ⟨t', rfl⟩ := r'
    have := PySem.SeqAt.EqAt.str_str (A := A) (s := s) z t z t'
    rwa [beq_self_eq_true] at this
  | byt b => cases h
  | flt b => cases h
  | ref a => cases r; cases r'; exact PySem.SeqAt.EqAt.same _
  | ty n => cases r; cases r'; exact PySem.SeqAt.EqAt.same _
section
variable {X : Cx} {pins : List (Addr × Obj)} {σ : L2.St} {H : Hp} {s : Shared}
theorem paired_at {α β : Type} {F : α → β → Prop} : ∀ {l : List α} {m : List β}, Paired F l m → ∀ j (h1 : j < l.length) (h2 : j < m.length), F l[j] m[j]
  | _, _, .cons h _, 0, _, _ => h
  | _, _, .cons _ r, j + 1, h1, h2 => paired_at r j (Nat.lt_of_succ_lt_succ h1) (Nat.lt_of_succ_lt_succ h2)
theorem rc_lists {F : V → V → Prop} {A : Around} {p q : Addr} {xs ys : List V} (I : Inv X pins σ H s) (hx : SqL X.K H p xs) (hy : SqL X.K H q ys) (hp : Paired F xs ys) (hu : A.units < cLine)
    (hF : ∀ x y v u, F x y → RelV x v → RelV y u → PySem.SeqAt.EqAt A.in1 s v u true) : PySem.SeqAt.RcAt A s (.ref p) (.ref q) true := by
  obtain ⟨is, r1, ⟨o1, n1, e1, c1, _, d1⟩, _⟩ := I.list hx
  obtain ⟨js, r2, ⟨o2, n2, e2, c2, _, d2⟩, _⟩ := I.list hy
  have l0 := hp.length
  have l1 := r1.length
  have l2 := r2.length
  have h := PySem.SeqAt.RcAt.lists (A := A) (e := fun _ => true) ⟨o1, e1, c1, n1, d1⟩ ⟨o2, e2, c2, n2, d2⟩ (by simp only [List.size_toArray]; omega) hu (fun j h1 h2 => by
    simp only [List.size_toArray] at h1 h2
    simp only [List.getElem_toArray]
    exact hF _ _ _ _ (paired_at hp j (by omega) (by omega)) (paired_at r1 j (by omega) h1) (paired_at r2 j (by omega) h2))
  rwa [show ((List.range is.toArray.size).all fun _ => true) = true from List.all_eq_true.mpr fun _ _ => rfl] at h
theorem Alk.eq (I : Inv X pins σ H s) : ∀ (n : Nat) (A : Around) (x y : V) (v u : Value), Alk X.K H n x y → RelV x v → RelV y u → A.units + n < cLine → PySem.SeqAt.EqAt A s v u true
  | 0, _, _, _, _, _, ⟨e, h⟩, r, r', _ => by subst e; exact eq_self h r r'
  | n + 1, A, _, _, _, _, .inl ⟨e, h⟩, r, r', _ => by subst e; exact eq_self h r r'
  | n + 1, A, _, _, _, _, .inr ⟨p, q, xs, ys, ex, ey, hx, hy, hp⟩, r, r', hu => by
    subst ex
    subst ey
    cases r
    cases r'
    by_cases hpq : p = q
    · subst hpq
      exact PySem.SeqAt.EqAt.same _
    · exact PySem.SeqAt.EqAt.of_refs hpq (rc_lists I hx hy hp (by omega) fun x y v u h r r' => Alk.eq I n A.in1 x y v u h r r' (by show A.units + 1 + n < cLine; omega))
noncomputable def rEqA (K : PySem.W.Frag) : R2 := fun x y H Q => ∃ n p q xs ys, x = .ref p ∧ y = .ref q ∧ n ≤ 50 ∧ SqL K H p xs ∧ SqL K H q ys ∧ Paired (Alk K H n) xs ys ∧ Q (.bl true) H
theorem op_eqA (hu : X.A.units + 64 < cLine) : OpR X (compareOp .Eq) (rEqA X.K) := by
  intro pins s σ H x y v u Q I rx ry h
  obtain ⟨n, p, q, xs, ys, rfl, rfl, hn, hx, hy, hp, k⟩ := h
  cases rx
  cases ry
  exact rc_lists I hx hy hp (by omega) (fun x y v u h r r' => Alk.eq I n X.A.in1 x y v u h r r' (by show X.A.units + 1 + n < cLine; omega)) X.prog X.w _ _ ⟨.bl true, H, I, rfl, k⟩
end
end Bc
namespace Bc
open PySem PySem.Spec PyProof.Rows L2
noncomputable def spReqOneX (K : PySem.W.Frag) (c : CA) (Ci : Addr) : Sp := fun vs H Q E => ∃ (v : V) (t : Value) (b : Bool), vs = [v] ∧ TyX K H v t ∧ PySem.W.kitOne K t (.ref c.wy) = some b ∧ (b = true → Q .non H) ∧
  (b = false → ∀ d H', H d = none → Same H H' → H' d = some (.xd [("thing", v)]) → E (.ref Ci) (some d) H')
/-- what is no way -/
structure NoW (K : PySem.W.Frag) (c : CA) : Prop where
  non : PySem.W.kitOne K (.type "NoneType") (.ref c.wy) = some false
  int : PySem.W.kitOne K (.type "int") (.ref c.wy) = some false
  bl : PySem.W.kitOne K (.type "bool") (.ref c.wy) = some false
  str : PySem.W.kitOne K (.type "str") (.ref c.wy) = some false
  lst : PySem.W.kitOne K (.type "list") (.ref c.wy) = some false
  dct : PySem.W.kitOne K (.type "dict") (.ref c.wy) = some false
  md : PySem.W.kitOne K (.ref c.md) (.ref c.wy) = some false
theorem w_dnew {σ : L2.St} {H : Hp} {Q : VK} (q : ∀ p, H p = none → atV Q (.ref p) (upd H p (.dK []))) : tDNewK σ H Q := q
theorem w_isB {a b : Bool} {H : Hp} {Q : VK} (q : Q (.bl (decide (a = b))) H) : rIsB (.bl a) (.bl b) H Q := ⟨a, b, rfl, rfl, q⟩
theorem kit_no {K : PySem.W.Frag} {t : Value} {C : Addr} (ne : (t == .ref C) = false) (i : PySem.W.isClsIn K C = true) (ty : PySem.W.typeIn K (.ref C) = some (.type "type")) (s : PySem.W.subIn K t (.ref C) = some false) : PySem.W.kitOne K t (.ref C) = some false := by
  have i' : (PySem.W.clsIn K C).isSome = true := i
  unfold PySem.W.kitOne PySem.W.kitCls
  simp only [ne, i', ty, s, BEq.rfl, Bool.and_self, if_true, Bool.false_eq_true, if_false]
theorem ref_no {K : PySem.W.Frag} {B C : Addr} (s : PySem.W.subIn K (.ref B) (.ref C) = some false) (s2 : PySem.W.subIn K (.ref C) (.ref C) = some true) : (Value.ref B == Value.ref C) = false := by
  cases h : (Value.ref B == Value.ref C) with
  | false => rfl
  | true =>
    have e : Value.ref B = Value.ref C := by simpa using h
    rw [e, s2] at s
    cases s
theorem exm_no {K : PySem.W.Frag} {B C : Addr} (b : PySem.W.subIn K (.ref C) (.type "BaseException") = some true) (i : PySem.W.isClsIn K C = true) (t : PySem.W.typeIn K (.ref C) = some (.type "type")) (s : PySem.W.subIn K (.ref B) (.ref C) = some false) : PySem.W.exmOne K (.ref B) (.ref C) = some false := by
  have i' : (PySem.W.clsIn K C).isSome = true := i
  unfold PySem.W.exmOne PySem.W.kitCls
  simp only [b, i', t, s, BEq.rfl, Bool.and_self, if_true]
end Bc
namespace Bc
open PySem PySem.Spec PyProof.Rows L2
section
variable {X : Cx} {k j : Nat} {x : Str} {sp : Sp} {e : Expr} {es : List Expr} {t : TA} {p pos : Pos}
/-- str of a bool -/
noncomputable def rStrB : List V → Hp → VK → Prop := fun xs H Q => ∃ b, xs = [.bl b] ∧ Q (.str (if b = true then "True" else "False")) H
end
end Bc
namespace Bc
open PySem PySem.Spec PyProof.Rows L2
structure Err0 (K : PySem.W.Frag) (mg : Str → Option Value) (x : Str) (C : Addr) : Prop where
  gC : mg x = some (.ref C)
  ex : PySem.W.excIn K C [.type "ValueError", .type "Exception", .type "BaseException", .type "object"] "ValueError.__new__" = true
  kp : PySem.W.keepIn K (.ref C) = true
  sb : PySem.W.subIn K (.ref C) (.type "BaseException") = some true
  ty : PySem.W.typeIn K (.ref C) = some (.type "type")
  te : PySem.W.exmOne K (.ref C) (.ref C) = some true
section
variable {X : Cx} {x : Str} {C : Addr} {W : WX} {p pos pos2 : Pos}
theorem pmk_none (c : Err0 X.K X.mg x C) (hg : Gl X x) (hdb : (x == ("__debug__" : Str)) = false := by decide) : PMk X (.Call (.Name x p) [] [] pos) (fun _ H Q => Q (.ref C) none H) := by
  intro pins s σ H Q I h
  refine wpAny_Call_Name_kw (ld_glob I hg c.gC (PySem.W.callWith_K0 I.kIn c.kp ?_) hdb)
  obtain ⟨_, _, _, _, _, _, _, _, _, _, _, _, _, _, _, _, _, hC, hN, hni, T⟩ := exc_obj I.kIn c.ex
  exact wpAny_call_exc_subT PySem.F.excBase_ValueError T hC hN hni (fun h' e hm => mk_of I hm (raises_own c.sb c.ty) h (I.hok.gone hm.new)) (Nat.zero_le _)
theorem ps_rse0 (c : Err0 X.K X.mg x C) (hc : X.calm = true) (tk : Takes X W) (hg : Gl X x) (hdb : (x == ("__debug__" : Str)) = false := by decide) :
    PS X (.Raise (some (.Call (.Name x p) [] [] pos)) none pos2) (fun _ σ H => W (.ref C) none σ H) := ps_raise hc tk (pmk_none c hg hdb)
end
end Bc
namespace Bc
open PySem PySem.Spec PyProof.Rows L2
section
variable {X : Cx} {pins : List (Addr × Obj)} {σ : L2.St} {H : Hp} {s : Shared}
theorem rcn_lists {F : V → V → Prop} {A : Around} {p q : Addr} {xs ys : List V} (I : Inv X pins σ H s) (hx : SqL X.K H p xs) (hy : SqL X.K H q ys) (hp : Paired F xs ys) (hu : A.units < cLine)
    (hF : ∀ x y v u, F x y → RelV x v → RelV y u → PySem.SeqAt.EqAt A.in1 s v u true) : PySem.SeqAt.RcNeAt A s (.ref p) (.ref q) false := by
  obtain ⟨is, r1, ⟨o1, n1, e1, c1, _, d1⟩, _⟩ := I.list hx
  obtain ⟨js, r2, ⟨o2, n2, e2, c2, _, d2⟩, _⟩ := I.list hy
  have l0 := hp.length
  have l1 := r1.length
  have l2 := r2.length
  have h := PySem.SeqAt.RcNeAt.lists (A := A) (e := fun _ => true) ⟨o1, e1, c1, n1, d1⟩ ⟨o2, e2, c2, n2, d2⟩ (by simp only [List.size_toArray]; omega) hu (fun j h1 h2 => by
    simp only [List.size_toArray] at h1 h2
    simp only [List.getElem_toArray]
    exact hF _ _ _ _ (paired_at hp j (by omega) (by omega)) (paired_at r1 j (by omega) h1) (paired_at r2 j (by omega) h2))
  rwa [show ((List.range is.toArray.size).all fun _ => true) = true from List.all_eq_true.mpr fun _ _ => rfl] at h
end
theorem w_strB {b : Bool} {H : Hp} {Q : VK} (q : Q (.str (if b = true then "True" else "False")) H) : rStrB [.bl b] H Q := ⟨b, rfl, q⟩
theorem w_rep {l : Addr} {k : Int} {xs : List V} {H : Hp} {Q : VK} (h : H l = some (.lst xs)) (h1 : -(2 ^ 63) ≤ k ∧ k < 2 ^ 63 ∧ xs.length * k.toNat ≤ sizeLine) (q : ∀ p, H p = none → atV Q (.ref p) (upd H p (.lst (List.replicate k.toNat xs).flatten))) : rRep (.ref l) (.int k) H Q := ⟨l, k, xs, rfl, rfl, h, h1.1, h1.2.1, h1.2.2, q⟩
end Bc
namespace Bc
open PySem PySem.Spec PyProof.Rows L2
/-- f, f b, f b b .. modulo n -/
noncomputable def FS (b n f : Int) : Nat → Int
  | 0 => f
  | e + 1 => FS b n f e * b % n
noncomputable def Pmiss (b n f A : Int) (e : Nat) : Prop := n / (Int.gcd (FS b n f e) n : Int) < A
theorem Fst.uniq {P : Nat → Prop} {N : Nat} {r r' : Option Nat} (h : Fst P N r) (h' : Fst P N r') : r = r' := by
  cases r with
  | none =>
    cases r' with
    | none => rfl
    | some e => exact absurd h'.2.1 (h e h'.1)
  | some e =>
    cases r' with
    | none => exact absurd h.2.1 (h' e h.1)
    | some e' =>
      have a1 : ¬ e < e' := fun z => h'.2.2 e z h.2.1
      have a2 : ¬ e' < e := fun z => h.2.2 e' z h'.2.1
      have : e = e' := by omega
      rw [this]
end Bc
namespace Bc
open PySem PySem.Spec PyProof.Rows L2
/-- the base to the power of a distance, less 1 -/
noncomputable def far (b n : Int) (t : Nat) : Int := FS b n b (t - 1)
noncomputable def facX (b n : Int) (t : Nat) : Int := (far b n t - 1) % n
/-- the first distance and exponent -/
noncomputable def Ex (b n A : Int) (N : Nat) (t e : Nat) : Prop := 1 ≤ t ∧ Fst (Pmiss b n (facX b n t) A) N (some e) ∧ ∀ s, 1 ≤ s → s < t → Fst (Pmiss b n (facX b n s) A) N none
theorem Ex.uniq {b n A : Int} {N M t t' e e' : Nat} (h : Ex b n A N t e) (h' : Ex b n A M t' e') (hs : ∀ s r r', 1 ≤ s → Fst (Pmiss b n (facX b n s) A) N r → Fst (Pmiss b n (facX b n s) A) M r' → r = r') : t = t' ∧ e = e' := by
  have a1 : ¬ t < t' := fun z => by
    have := hs t _ _ h.1 h.2.1 (h'.2.2 t h.1 z)
    cases this
  have a2 : ¬ t' < t := fun z => by
    have := hs t' _ _ h'.1 (h.2.2 t' h'.1 z) h'.2.1
    cases this
  have et : t = t' := by omega
  subst et
  have := hs t _ _ h.1 h.2.1 h'.2.1
  injection this with this
  exact ⟨rfl, this⟩
noncomputable instance (b n f A : Int) (e : Nat) : Decidable (Pmiss b n f A e) := inferInstanceAs (Decidable (_ < _))
noncomputable def exB (b n A : Int) (N t e : Nat) : Bool := decide (1 ≤ t) && decide (e < N) && decide (Pmiss b n (facX b n t) A e) && (List.range e).all (fun j => !decide (Pmiss b n (facX b n t) A j)) && (List.range t).all (fun s => s == 0 || (List.range N).all fun j => !decide (Pmiss b n (facX b n s) A j))
theorem Ex.of {b n A : Int} {N t e : Nat} (h : exB b n A N t e = true) : Ex b n A N t e := by
  unfold exB at h
  simp only [Bool.and_eq_true, decide_eq_true_eq, List.all_eq_true, List.mem_range, Bool.or_eq_true, beq_iff_eq, Bool.not_eq_true', decide_eq_false_iff_not] at h
  obtain ⟨⟨⟨⟨h1, h2⟩, h3⟩, h4⟩, h5⟩ := h
  exact ⟨h1, ⟨h2, h3, h4⟩, fun s s1 s2 => by
    rcases h5 s s2 with z | z
    · omega
    · exact z⟩
end Bc
namespace Bc
open PySem PySem.Spec PyProof.Rows L2
/-- what the law asks at an exponent -/
noncomputable def Pm (P r A : Int) (e : Nat) : Prop := 1 < P / (Int.gcd (FS r P (1 % P) e) P : Int) ∧ A % (P / (Int.gcd (FS r P (1 % P) e) P : Int)) = 0
noncomputable instance (P r A : Int) (e : Nat) : Decidable (Pm P r A e) := inferInstanceAs (Decidable (_ ∧ _))
/-- the first exponent, plus 1 -/
noncomputable def MetL (P r A : Int) (res : Option Nat) : Prop := ∃ f, Fst (Pm P r A) 64 f ∧ res = f.map (· + 1)
theorem MetL.uniq {P r A : Int} {x y : Option Nat} (h : MetL P r A x) (h' : MetL P r A y) : x = y := by
  obtain ⟨f, h1, rfl⟩ := h
  obtain ⟨g, h2, rfl⟩ := h'
  rw [h1.uniq h2]
end Bc
namespace Bc
open PySem PySem.Spec PyProof.Rows L2
end Bc
namespace Bc
open PySem PySem.Spec PyProof.Rows L2
theorem Asc.mono {l l' : Int} {ps : List (Int × Int)} (h : Asc l ps) (hl : l' ≤ l) : Asc l' ps := by
  cases ps with
  | nil => trivial
  | cons q r => exact ⟨by have := h.1; omega, h.2.1, h.2.2.1, h.2.2.2⟩
theorem Asc.take {ps : List (Int × Int)} : ∀ (n : Nat) {l : Int}, Asc l ps → Asc l (ps.take n) := by
  induction ps with
  | nil => intro n l _; rw [List.take_nil]; trivial
  | cons q r ih =>
    intro n l h
    cases n with
    | zero => trivial
    | succ n => exact ⟨h.1, h.2.1, h.2.2.1, ih n h.2.2.2⟩
theorem Asc.drop {ps : List (Int × Int)} : ∀ (n : Nat) {l : Int}, 0 ≤ l → Asc l ps → Asc 0 (ps.drop n) := by
  induction ps with
  | nil => intro n l _ _; rw [List.drop_nil]; trivial
  | cons q r ih =>
    intro n l h0 h
    cases n with
    | zero => exact h.mono h0
    | succ n => exact ih n (by have := h.1; omega) h.2.2.2
theorem Small.sub {ps qs : List (Int × Int)} (h : Small ps) (hs : ∀ q ∈ qs, q ∈ ps) (hl : qs.length ≤ ps.length) : Small qs := ⟨fun q hq => h.1 q (hs q hq), by have := h.2; omega⟩
end Bc
namespace Bc
open PySem PySem.Spec PyProof.Rows L2
noncomputable def sig : Nat → (Nat → Int) → Int
  | 0, _ => 0
  | n + 1, f => sig n f + f n
noncomputable def Per (h : Int → Int) (t : Int) : Prop := ∀ y, h (y + t) = h y
section
variable {h : Int → Int} {t u : Int}
theorem Per.neg (p : Per h t) : Per h (-t) := fun y => by
  have := p (y + -t)
  rw [show y + -t + t = y by omega] at this
  exact this.symm
theorem Per.add (p : Per h t) (q : Per h u) : Per h (t + u) := fun y => by rw [← Int.add_assoc, q, p]
theorem Per.nmul (p : Per h t) : ∀ c : Nat, Per h (t * c)
  | 0 => fun y => by rw [show t * ((0 : Nat) : Int) = 0 from Int.mul_zero t, Int.add_zero]
  | c + 1 => by
    rw [Int.natCast_succ, Int.mul_add, Int.mul_one]
    exact (p.nmul c).add p
theorem Per.mul (p : Per h t) (c : Int) : Per h (t * c) := by
  obtain ⟨n, e | e⟩ := c.eq_nat_or_neg
  · rw [e]; exact p.nmul n
  · rw [e, Int.mul_neg]; exact (p.nmul n).neg
theorem Per.gcd (a b : Nat) : Per h a → Per h b → Per h (Nat.gcd a b : Nat) := by
  refine Nat.gcd.induction (P := fun a b => Per h a → Per h b → Per h (Nat.gcd a b : Nat)) a b (fun n _ q => ?_) (fun m n _ ih p q => ?_)
  · rw [Nat.gcd_zero_left]; exact q
  · rw [Nat.gcd_rec]
    refine ih ?_ p
    have : ((n % m : Nat) : Int) = n + (m : Int) * (-((n / m : Nat) : Int)) := by
      have := Nat.div_add_mod n m
      have e : ((n : Nat) : Int) = (m : Int) * ((n / m : Nat) : Int) + ((n % m : Nat) : Int) := by exact_mod_cast this.symm
      rw [Int.mul_neg]
      omega
    rw [this]
    exact q.add (p.mul _)
end
/-- a function summed over the places that m letters, the first with the weight b^j, lead to -/
noncomputable def Qs (b : Int) (A : Nat) (s : Int) : Nat → Nat → (Int → Int) → Int → Int
  | 0, _, g, y => g y
  | m + 1, j, g, y => sig A fun l => Qs b A s m (j + 1) g (y + b ^ j * ((l : Int) + s))
/-- 1 at the multiples of N -/
noncomputable def chi (N : Int) (x : Int) : Int := if x % N = 0 then 1 else 0
end Bc
namespace Bc
open PySem PySem.Spec PyProof.Rows L2
end Bc
namespace Bc
open PySem PySem.Spec PyProof.Rows L2
section
variable {X : Cx}
theorem w_augS {to ti te : TE} {tget : V → V → Hp → VK → Prop} {tip : TIp} {tset : TSet} {D : Ends} {σ : L2.St} {H : Hp}
    (q : to σ H fun o H1 => ti σ H1 fun i H2 => tget o i H2 fun x H3 => te σ H3 fun y H4 => tip x y H4 fun z H5 => tset o i z H5 fun H6 => D.nx σ H6) : tAugS to ti te tget tip tset D σ H := q
end
/-- all alike -/
noncomputable def Flat (ns : List Int) : Prop := ∀ x ∈ ns, x = ns.getD 0 0
noncomputable instance (ns : List Int) : Decidable (Flat ns) := inferInstanceAs (Decidable (∀ x ∈ ns, _))
noncomputable def tLenSet1 (K : PySem.W.Frag) (ta : TE) : TE := fun σ H Q => ta σ H fun x H1 => ∃ (l : Addr) (ns : List Int), x = V.ref l ∧ SqL K H1 l (ns.map V.int) ∧ ns.length ≤ 4000 ∧ ns ≠ [] ∧ ∀ n : Nat, (n = 1 ↔ Flat ns) → Q (.int n) H1
theorem w_lenSet1 {K : PySem.W.Frag} {ta : TE} {σ : L2.St} {H : Hp} {Q : VK} (q : ta σ H fun x H1 => ∃ (l : Addr) (ns : List Int), x = V.ref l ∧ SqL K H1 l (ns.map V.int) ∧ ns.length ≤ 4000 ∧ ns ≠ [] ∧ ∀ n : Nat, (n = 1 ↔ Flat ns) → Q (.int n) H1) : tLenSet1 K ta σ H Q := q
end Bc
namespace Bc
open PySem PySem.Spec PyProof.Rows L2
theorem w_ifJ {c : TT} {t u : TS} {D : Ends} {σ : L2.St} {H : Hp} (R : L2.St → Hp → Prop) (rest : ∀ σ' H', R σ' H' → D.nx σ' H') (h : ∀ N : L2.St → Hp → Prop, (∀ σ' H', R σ' H' → N σ' H') → tIfS c t u { D with nx := N } σ H) : tIfS c t u D σ H := h D.nx rest
end Bc
namespace Bc
open PySem PySem.Spec PyProof.Rows L2
noncomputable def Gw (N : Int) (A : Nat) (s : Int) : List Int → Int → Int
  | [], z => chi N z
  | w :: ws, z => sig A fun l => Gw N A s ws (z - ((l : Int) + s) * w)
/-- the weights of the places -/
noncomputable def wts (b N : Int) (low : Bool) (n : Nat) : List Int := if low then (List.range n).map fun i => b ^ i % N else ((List.range n).map fun i => b ^ i % N).reverse
theorem wts_len (b N : Int) (low : Bool) (n : Nat) : (wts b N low n).length = n := by
  unfold wts
  cases low <;> simp
noncomputable def wsum (s : Int) : List Int → List Int → Int
  | w :: ws, l :: ls => (l + s) * w + wsum s ws ls
  | _, _ => 0
theorem wsum_app (s : Int) : ∀ {ws ls : List Int} (vs ms : List Int), ws.length = ls.length → wsum s (ws ++ vs) (ls ++ ms) = wsum s ws ls + wsum s vs ms
  | [], [], vs, ms, _ => by simp [wsum]
  | w :: ws, l :: ls, vs, ms, h => by
    rw [List.cons_append, List.cons_append, wsum, wsum, wsum_app s vs ms (by simpa using h)]
    omega
theorem wsum_rev (s : Int) : ∀ {ws ls : List Int}, ws.length = ls.length → wsum s ws.reverse ls.reverse = wsum s ws ls
  | [], [], _ => rfl
  | w :: ws, l :: ls, h => by
    have h' : ws.length = ls.length := by simpa using h
    rw [List.reverse_cons, List.reverse_cons, wsum_app s _ _ (by simpa using h'), wsum_rev s h', show wsum s [w] [l] = (l + s) * w + 0 by simp [wsum], wsum]
    omega
theorem wsum_mod (s N : Int) : ∀ ws ls : List Int, ∃ k, wsum s (ws.map (· % N)) ls = wsum s ws ls + N * k
  | [], _ => ⟨0, by simp [wsum]⟩
  | _ :: _, [] => ⟨0, by simp [wsum]⟩
  | w :: ws, l :: ls => by
    obtain ⟨k, hk⟩ := wsum_mod s N ws ls
    refine ⟨k - (l + s) * (w / N), ?_⟩
    rw [List.map_cons, wsum, wsum, hk, Int.mul_sub]
    have := Int.mul_ediv_add_emod w N
    have h2 : (l + s) * w = (l + s) * (N * (w / N) + w % N) := by rw [this]
    rw [Int.mul_add, Int.mul_left_comm] at h2
    omega
theorem wsum_high (s b : Int) : ∀ ls : List Int, wsum s ((List.range ls.length).map fun i => b ^ i).reverse ls = hv (ls.map (· + s)) b
  | [] => rfl
  | l :: ls => by
    rw [List.length_cons, List.range_succ, List.map_append, List.reverse_append]
    show wsum s (b ^ ls.length :: ((List.range ls.length).map fun i => b ^ i).reverse) (l :: ls) = hv ((l + s) :: ls.map (· + s)) b
    rw [hv_cons, List.length_map, ← wsum_high s b ls]
    rfl
theorem mark_wsum {y : Sty} {b N : Int} (ls : List Int) : ∃ k, mark y b N ls = ld y * b ^ ls.length + wsum y.shift (wts b N y.low ls.length) ls + N * k := by
  have e0 : ((List.range ls.length).map fun i => b ^ i % N) = ((List.range ls.length).map fun i => b ^ i).map (· % N) := by rw [List.map_map]; rfl
  have key : ∃ k, wsum y.shift (wts b N y.low ls.length) ls = hv (if y.low then (ls.map (· + y.shift)).reverse else ls.map (· + y.shift)) b + N * k := by
    unfold wts
    cases y.low with
    | true =>
      obtain ⟨k, hk⟩ := wsum_mod y.shift N ((List.range ls.length).map fun i => b ^ i) ls
      refine ⟨k, ?_⟩
      rw [if_pos rfl, if_pos rfl, e0, hk]
      congr 1
      have h := wsum_high y.shift b ls.reverse
      rw [List.length_reverse] at h
      rw [← wsum_rev y.shift (ws := (List.range ls.length).map fun i => b ^ i) (ls := ls) (by simp), h, List.map_reverse]
    | false =>
      obtain ⟨k, hk⟩ := wsum_mod y.shift N ((List.range ls.length).map fun i => b ^ i).reverse ls
      refine ⟨k, ?_⟩
      rw [if_neg (by decide), if_neg (by decide), e0, ← List.map_reverse, hk, wsum_high]
  obtain ⟨k, hk⟩ := key
  have e1 : mark y b N ls = hv (hf y ls) b % N := rest_hv _ _ _
  have e2 : hv (hf y ls) b = ld y * b ^ ls.length + hv (if y.low then (ls.map (· + y.shift)).reverse else ls.map (· + y.shift)) b := by
    unfold hf
    rw [hv_cons]
    congr 2
    cases y.low <;> simp
  have e3 := Int.mul_ediv_add_emod (hv (hf y ls) b) N
  refine ⟨-(hv (hf y ls) b / N) - k, ?_⟩
  rw [e1, hk, Int.mul_sub, Int.mul_neg]
  omega
/-- the letters lead from z to a multiple of N -/
structure Gd (N : Int) (A : Nat) (s : Int) (ws : List Int) (z : Int) (ts : List Int) : Prop where
  len : ts.length = ws.length
  let' : ∀ t ∈ ts, 0 ≤ t ∧ t < A
  sum : (z - wsum s ws ts) % N = 0
noncomputable def Rk (N : Int) (A : Nat) (s : Int) : List Int → Int → List Int → Int
  | w :: ws, z, l :: ls => (sig l.toNat fun i => Gw N A s ws (z - ((i : Int) + s) * w)) + Rk N A s ws (z - (l + s) * w) ls
  | _, _, _ => 0
section
variable {N s : Int} {A : Nat}
theorem Gd.cons {w l z : Int} {ws ls : List Int} (h0 : 0 ≤ l) (h1 : l < A) (g : Gd N A s ws (z - (l + s) * w) ls) : Gd N A s (w :: ws) z (l :: ls) := by
  refine ⟨by simpa using g.len, fun t ht => ?_, ?_⟩
  · rcases List.mem_cons.mp ht with e | e
    · rw [e]; exact ⟨h0, h1⟩
    · exact g.let' t e
  · have := g.sum
    rw [wsum]
    rwa [show z - ((l + s) * w + wsum s ws ls) = z - (l + s) * w - wsum s ws ls by omega]
end
section
variable {N s : Int} {A : Nat}
/-- the marks of the texts that are counted -/
theorem gd_mark {y : Sty} {b m : Int} {ts : List Int} (hm : 0 ≤ m ∧ m < N) (hl : ∀ t ∈ ts, 0 ≤ t ∧ t < A) : Gd N A y.shift (wts b N y.low ts.length) (m - ld y * b ^ ts.length) ts ↔ mark y b N ts = m := by
  obtain ⟨k, hk⟩ := mark_wsum (y := y) (b := b) (N := N) ts
  have hr := rest_range (b := b) (show 0 < N by omega) (hf y ts)
  have hr : 0 ≤ mark y b N ts ∧ mark y b N ts < N := hr
  constructor
  · intro g
    have h := g.sum
    have e : m - ld y * b ^ ts.length - wsum y.shift (wts b N y.low ts.length) ts = m - mark y b N ts + N * k := by omega
    rw [e, Int.add_mul_emod_self_left] at h
    have h2 := (Int.emod_eq_emod_iff_emod_sub_eq_zero).mpr h
    rw [Int.emod_eq_of_lt hm.1 hm.2, Int.emod_eq_of_lt hr.1 hr.2] at h2
    exact h2.symm
  · intro e
    refine ⟨(wts_len ..).symm, hl, ?_⟩
    rw [show m - ld y * b ^ ts.length - wsum y.shift (wts b N y.low ts.length) ts = 0 + N * k by omega, Int.add_mul_emod_self_left, Int.zero_emod]
end
end Bc
namespace Bc
open PySem PySem.Spec PyProof.Rows L2
noncomputable def srF (x : Addr) (A : Int) (sc : Addr) (L : Int) (ct : Addr) : List (Str × V) := [("way", .ref x), ("stock", .int A), ("scales", .ref sc), ("lead", .int L), ("counts", .ref ct)]
/-- a row of counts -/
noncomputable def RowAt (N : Int) (A : Nat) (s : Int) (H : Hp) (ws : List Int) (p : Addr) : Prop := ∃ xs : List Int, H p = some (.lst (xs.map V.int)) ∧ xs.length = N.toNat ∧ ∀ i, i < N.toNat → xs.getD i 0 = Gw N A s ws i
theorem RowAt.same {N s : Int} {A : Nat} {H H' : Hp} {ws : List Int} {p : Addr} (h : RowAt N A s H ws p) (e : Same H H') : RowAt N A s H' ws p := by
  obtain ⟨xs, h1, h2⟩ := h
  exact ⟨xs, e _ _ h1, h2⟩
theorem ints_refs {xs : List Int} {cs : List Addr} (h : cs ≠ []) : xs.map V.int ≠ cs.map V.ref := fun e => by
  cases cs with
  | nil => exact h rfl
  | cons c r =>
    cases xs with
    | nil => cases e
    | cons x t =>
      rw [List.map_cons, List.map_cons] at e
      injection e with e1
      cases e1
theorem lst_ne {H : Hp} {p q : Addr} {xs : List Int} {cs : List Addr} (h : cs ≠ []) (h1 : H p = some (.lst (xs.map V.int))) (h2 : H q = some (.lst (cs.map V.ref))) : p ≠ q := fun e => by
  rw [e, h2] at h1
  have := Option.some.inj h1
  injection this with this
  exact ints_refs h this.symm
theorem RowAt.up {N s : Int} {A : Nat} {H : Hp} {ws : List Int} {p q : Addr} {cs : List Addr} {o : HO} (h : RowAt N A s H ws p) (hc : cs ≠ []) (hq : H q = some (.lst (cs.map V.ref))) : RowAt N A s (upd H q o) ws p := by
  obtain ⟨xs, h1, h2⟩ := h
  exact ⟨xs, by rw [upd_ne (lst_ne hc h1 hq)]; exact h1, h2⟩
theorem RowAt.ins {N s : Int} {A : Nat} {H : Hp} {ws : List Int} {p q C dx : Addr} {fs : List (Str × V)} {o : HO} (h : RowAt N A s H ws p) (hq : H q = some (.ins C dx fs)) : RowAt N A s (upd H q o) ws p := by
  obtain ⟨xs, h1, h2⟩ := h
  exact ⟨xs, by rw [upd_ne (fun e => by rw [e, hq] at h1; cases h1)]; exact h1, h2⟩
/-- a Sorted of a way -/
noncomputable def SrAt (c : CA) (Cs : Addr) (H : Hp) (o x : Addr) (A : Int) (n : Nat) (b : Int) (ps : List (Int × Int)) (y : Sty) : Prop := ∃ (dx sc ct : Addr) (cs : List Addr) (k : Int), H o = some (.ins Cs dx (srF x A sc (ld y * b ^ n + num ps * k) ct)) ∧ WayAt c H x b ps y ∧ H sc = some (.lst ((wts b (num ps) y.low n).map V.int)) ∧ H ct = some (.lst (cs.map V.ref)) ∧ cs.length = n + 1 ∧
  ∀ (i : Nat) (p : Addr), cs[i]? = some p → RowAt (num ps) A.toNat y.shift H ((wts b (num ps) y.low n).drop i) p
theorem SrAt.same {c : CA} {Cs : Addr} {H H' : Hp} {o x : Addr} {A : Int} {n : Nat} {b : Int} {ps : List (Int × Int)} {y : Sty} (h : SrAt c Cs H o x A n b ps y) (e : Same H H') : SrAt c Cs H' o x A n b ps y := by
  obtain ⟨dx, sc, ct, cs, k, h1, h2, h3, h4, h5, h6⟩ := h
  exact ⟨dx, sc, ct, cs, k, e _ _ h1, h2.same e, e _ _ h3, e _ _ h4, h5, fun i p z => (h6 i p z).same e⟩
/-- the text with the number k among those with the mark m -/
noncomputable def NthT (N : Int) (A : Nat) (y : Sty) (b : Int) (n : Nat) (m k : Int) (ts : List Int) : Prop := Gd N A y.shift (wts b N y.low n) (m - ld y * b ^ n) ts ∧ Rk N A y.shift (wts b N y.low n) (m - ld y * b ^ n) ts = k
theorem NthT.mark {N : Int} {A : Nat} {y : Sty} {b : Int} {n : Nat} {m k : Int} {ts : List Int} (h : NthT N A y b n m k ts) (hm : 0 ≤ m ∧ m < N) : ts.length = n ∧ Bc.mark y b N ts = m ∧ Rk N A y.shift (wts b N y.low ts.length) (Bc.mark y b N ts - ld y * b ^ ts.length) ts = k := by
  obtain ⟨g, r⟩ := h
  have hl : ts.length = n := g.len.trans (wts_len ..)
  subst hl
  have e := (gd_mark hm g.let').mp g
  exact ⟨rfl, e, by rw [e]; exact r⟩
end Bc
namespace Bc
open PySem PySem.Spec PyProof.Rows L2
end Bc
namespace Bc
open PySem PySem.Spec PyProof.Rows L2
section
variable {J : It} {G : Hp → Prop} {te : TE} {vs : List Nat} {σ : L2.St} {H : Hp} {D : Addr} {Qd : Hp → Prop} {j : Nat}
/-- what is made of each item, by a relation that new things leave alone -/
theorem lc_rel (xs : List V) (R : V → V → Hp → Prop) (mono : ∀ x y G G', Same G G' → R x y G → R x y G') (w : Walk J xs.length G (YAt xs)) (hD : H D = none) (hG : ∀ H', Same H H' → G H') (sz : xs.length ≤ 100000)
    (wp : ∀ v, wipe ((wipe σ vs).set j v) vs = wipe σ vs)
    (step : ∀ (i : Nat) (x : V) (H' : Hp), xs[i]? = some x → Same H H' → (∃ acc, H' D = some (.lst acc)) → ∀ Q' : VK, (∀ (y : V) (H'' : Hp), Same H' H'' → R x y (rm D H'') → Q' y H'') → te ((wipe σ vs).set j (some x)) H' Q')
    (q : ∀ (H' : Hp) (ys : List V), Same H H' → H' D = some (.lst ys) → Paired (fun x y => R x y H') xs ys → Qd H') :
    ∃ W : Nat → Nat → Hp → Prop, (∃ m, W 0 m (upd H D (.lst []))) ∧ ∀ i m H, W i m H →
      (J.stop i H ∧ Qd H) ∨ (J.go i H ∧ ∃ Nx : Hp → Prop, (∀ H', Nx H' → ∃ m', m' < m ∧ W (i + 1) m' H') ∧ ∀ x H', J.yld i H x H' → gName j x (wipe σ vs) H' fun σ2 H2 => wipe σ2 vs = wipe σ vs ∧ tYes σ2 H2 fun b H3 =>
        if b = true then te σ2 H3 fun y H4 => ∃ acc, H4 D = some (.lst acc) ∧ acc.length < sizeLine ∧ Nx (upd H4 D (.lst (acc ++ [y]))) else Nx H3) := by
  refine lc_it w (fun i H' => ∃ ys : List V, Same H (rm D H') ∧ H' D = some (.lst ys) ∧ Paired (fun x y => R x y (rm D H')) (xs.take i) ys) ⟨[], ?_, upd_same, .nil⟩ (fun i H' _ h => by obtain ⟨_, k, _⟩ := h; exact hG H' (k.trans rm_le)) ?_ ?_
  · rw [rm_updS]
    exact rm_in hD (Same.refl _)
  · rintro i x H1 H' hi ⟨ys, h1, h3, h4⟩ ⟨rfl, hx⟩
    refine ⟨wp _, w_yes ?_⟩
    rw [if_pos rfl]
    have el := h4.length
    rw [List.length_take] at el
    refine step i x H' hx (h1.trans rm_le) ⟨_, h3⟩ _ fun y H2 s2 r => ?_
    have e : xs[i] = x := by rw [List.getElem?_eq_getElem hi] at hx; exact Option.some.inj hx
    refine ⟨ys, s2 _ _ h3, ?_, ys ++ [y], ?_, upd_same, ?_⟩
    · have : (100000 : Nat) < sizeLine := by decide
      omega
    · rw [rm_updS]
      exact h1.trans s2.rm
    · rw [rm_updS, List.take_succ_eq_append_getElem hi, e]
      exact Paired.snoc (paired_imp (fun _ _ z => mono _ _ _ _ s2.rm z) h4) r
  · rintro H' ⟨ys, h1, h3, h4⟩
    rw [List.take_length] at h4
    exact q H' ys (h1.trans rm_le) h3 (paired_imp (fun _ _ z => mono _ _ _ _ rm_le z) h4)
end
end Bc
namespace Bc
open PySem PySem.Spec PyProof.Rows L2
noncomputable def scF (l : Addr) (N : Int) (lw : Bool) (z : Addr) : List (Str × V) := [("bases", .ref l), ("number", .int N), ("low", .bl lw), ("zero", .ref z)]
noncomputable def zr (bs : List Int) : List Int := bs.map fun _ => 0
/-- a Scale -/
noncomputable def ScAt (Cq : Addr) (H : Hp) (o : Addr) (bs : List Int) (N : Int) (lw : Bool) : Prop := ∃ dx l z, H o = some (.ins Cq dx (scF l N lw z)) ∧ H l = some (.lst (bs.map V.int)) ∧ H z = some (.tup ((zr bs).map V.int))
theorem ScAt.same {Cq : Addr} {H H' : Hp} {o : Addr} {bs : List Int} {N : Int} {lw : Bool} (h : ScAt Cq H o bs N lw) (e : Same H H') : ScAt Cq H' o bs N lw := by
  obtain ⟨dx, l, z, h1, h2, h3⟩ := h
  exact ⟨dx, l, z, e _ _ h1, e _ _ h2, e _ _ h3⟩
/-- sums times the bases, plus a step -/
noncomputable def ledV (bs : List Int) (N : Int) (r : List Int) (s : Int) : List Int := List.zipWith (fun x b => (x * b + s) % N) r bs
theorem ledV_len {bs r : List Int} {N s : Int} (h : r.length = bs.length) : (ledV bs N r s).length = bs.length := by
  unfold ledV
  rw [List.length_zipWith, h, Nat.min_self]
noncomputable def kk (k : List Int) : List Key := k.map fun i => (.inl i : Key)
theorem nodup_sub {α : Type} [DecidableEq α] : ∀ {l m : List α}, l.Nodup → (∀ x ∈ l, x ∈ m) → l.length ≤ m.length
  | [], _, _, _ => Nat.zero_le _
  | x :: r, m, hn, hs => by
    obtain ⟨h1, h2⟩ := List.nodup_cons.mp hn
    have hx : x ∈ m := hs x List.mem_cons_self
    have := nodup_sub (m := m.erase x) h2 fun y hy => (List.mem_erase_of_ne (fun e : y = x => h1 (by rw [← e]; exact hy))).2 (hs y (List.mem_cons_of_mem _ hy))
    have e := List.length_erase_of_mem hx
    have hp : 0 < m.length := List.length_pos_of_mem hx
    rw [List.length_cons]
    omega
noncomputable def TLq (H : Hp) (l : Addr) (tss : List (List Int)) : Prop := ∃ ts : List Addr, H l = some (.lst (ts.map V.ref)) ∧ Paired (fun us t => H t = some (.tup (us.map V.int))) tss ts
theorem paired_appQ {α β : Type} {R : α → β → Prop} : ∀ {xs ys : List α} {us vs : List β}, Paired R xs us → Paired R ys vs → Paired R (xs ++ ys) (us ++ vs)
  | _, _, _, _, .nil, h => h
  | _, _, _, _, .cons r t, h => .cons r (paired_appQ t h)
end Bc
namespace Bc
open PySem PySem.Spec PyProof.Rows L2
/-- the sums that m steps, the first not 0, can leave -/
noncomputable def Sms (bs : List Int) (N : Int) (A : Nat) : Nat → List Int → Prop
  | 0, _ => False
  | 1, k => ∃ s : Int, s ≠ 0 ∧ -(A : Int) < s ∧ s < A ∧ k = ledV bs N (zr bs) s
  | m + 2, k => ∃ k', Sms bs N A (m + 1) k' ∧ ∃ s : Int, -(A : Int) < s ∧ s < A ∧ k = ledV bs N k' s
structure LeastS (bs : List Int) (N : Int) (A : Nat) (m : Nat) : Prop where
  pos : 1 ≤ m
  hit : Sms bs N A m (zr bs)
  no : ∀ j, j < m → ¬ Sms bs N A j (zr bs)
theorem Sms.len {bs : List Int} {N : Int} {A : Nat} : ∀ {m : Nat} {k : List Int}, Sms bs N A m k → k.length = bs.length
  | 0, _, h => h.elim
  | 1, _, h => by
    obtain ⟨s, _, _, _, rfl⟩ := h
    exact ledV_len (by unfold zr; rw [List.length_map])
  | m + 2, _, h => by
    obtain ⟨k', h', s, _, _, rfl⟩ := h
    exact ledV_len h'.len
/-- the steps as the program lists them -/
noncomputable def stps (A : Nat) : List Int := (List.range (2 * A - 1)).map fun i : Nat => 1 - (A : Int) + i
theorem stps_mem {A : Nat} {s : Int} : s ∈ stps A ↔ -(A : Int) < s ∧ s < A := by
  unfold stps
  rw [List.mem_map]
  constructor
  · rintro ⟨i, hi, rfl⟩
    have := List.mem_range.mp hi
    omega
  · intro h
    exact ⟨(s + A - 1).toNat, List.mem_range.mpr (by omega), by omega⟩
theorem least_ex {P : Nat → Prop} : ∀ {n : Nat}, P n → ∃ m, m ≤ n ∧ P m ∧ ∀ j, j < m → ¬ P j := by
  intro n
  induction n using Nat.strongRecOn with
  | ind n ih =>
    intro h
    by_cases c : ∃ j, j < n ∧ P j
    · obtain ⟨j, hj, pj⟩ := c
      obtain ⟨m, h1, h2⟩ := ih j hj pj
      exact ⟨m, by omega, h2⟩
    · exact ⟨n, Nat.le_refl _, h, fun j hj pj => c ⟨j, hj, pj⟩⟩
theorem Sms_one {b N : Int} {A : Nat} : ∀ {ds : List Int} {d : Int}, d ≠ 0 → (∀ x ∈ d :: ds, -(A : Int) < x ∧ x < A) → Sms [b] N A (ds.length + 1) [hv (d :: ds) b % N] := by
  have key : ∀ (ds : List Int) (m : Nat) (v : Int), Sms [b] N A (m + 1) [v % N] → (∀ x ∈ ds, -(A : Int) < x ∧ x < A) → Sms [b] N A (m + 1 + ds.length) [ds.foldl (fun f c => f * b + c) v % N] := by
    intro ds
    induction ds with
    | nil => exact fun m v h _ => h
    | cons x ds ih =>
      intro m v h hx
      have h1 : Sms [b] N A (m + 1 + 1) [(v * b + x) % N] := by
        refine ⟨_, h, x, (hx x List.mem_cons_self).1, (hx x List.mem_cons_self).2, ?_⟩
        show [(v * b + x) % N] = [(v % N * b + x) % N]
        rw [Int.add_emod (v % N * b), Int.mul_emod, Int.emod_emod_of_dvd _ (Int.dvd_refl N), ← Int.mul_emod, ← Int.add_emod]
      have := ih (m + 1) _ h1 fun y hy => hx y (List.mem_cons_of_mem _ hy)
      rw [List.length_cons, show m + 1 + (ds.length + 1) = m + 1 + 1 + ds.length by omega]
      exact this
  intro ds d hd hx
  have h0 : Sms [b] N A (0 + 1) [d % N] := ⟨d, hd, (hx d List.mem_cons_self).1, (hx d List.mem_cons_self).2, by
    show [d % N] = [(0 * b + d) % N]
    rw [Int.zero_mul, Int.zero_add]⟩
  have := key ds 0 d h0 fun y hy => hx y (List.mem_cons_of_mem _ hy)
  rw [show ds.length + 1 = 0 + 1 + ds.length by omega]
  have e : hv (d :: ds) b = ds.foldl (fun f c => f * b + c) d := by
    unfold hv
    rw [List.foldl_cons, Int.zero_mul, Int.zero_add]
  rw [e]
  exact this
theorem hv_zero (b : Int) (ds : List Int) : hv (0 :: ds) b = hv ds b := by
  unfold hv
  rw [List.foldl_cons, Int.zero_mul, Int.zero_add]
theorem hv_zsub {b : Int} : ∀ {ls ms : List Int}, ls.length = ms.length → hv (List.zipWith (· - ·) ls ms) b = hv ls b - hv ms b := by
  have key : ∀ (ls ms : List Int), ls.length = ms.length → ∀ u v : Int, (List.zipWith (· - ·) ls ms).foldl (fun f c => f * b + c) (u - v) = ls.foldl (fun f c => f * b + c) u - ms.foldl (fun f c => f * b + c) v := by
    intro ls
    induction ls with
    | nil =>
      intro ms h u v
      have : ms = [] := List.length_eq_zero_iff.mp h.symm
      subst this
      rfl
    | cons l ls ih =>
      intro ms h u v
      cases ms with
      | nil => simp at h
      | cons m ms =>
        rw [List.zipWith_cons_cons, List.foldl_cons, List.foldl_cons, List.foldl_cons, ← ih ms (by simpa using h)]
        congr 1
        rw [Int.sub_mul]
        omega
  intro ls ms h
  have := key ls ms h 0 0
  rw [Int.sub_zero] at this
  exact this
theorem strip {b N : Int} {A : Nat} : ∀ {ds : List Int}, (∃ x ∈ ds, x ≠ 0) → (∀ x ∈ ds, -(A : Int) < x ∧ x < A) → hv ds b % N = 0 → ∃ j, 1 ≤ j ∧ j ≤ ds.length ∧ Sms [b] N A j [0]
  | [], h, _, _ => by
    obtain ⟨x, hx, _⟩ := h
    cases hx
  | d :: ds, h, hb, hz => by
    by_cases e : d = 0
    · subst e
      rw [hv_zero] at hz
      obtain ⟨x, hx, hn⟩ := h
      have hx : x ∈ ds := (List.mem_cons.mp hx).resolve_left fun z => hn z
      obtain ⟨j, h1, h2, h3⟩ := strip ⟨x, hx, hn⟩ (fun y hy => hb y (List.mem_cons_of_mem _ hy)) hz
      exact ⟨j, h1, by rw [List.length_cons]; omega, h3⟩
    · have := Sms_one (b := b) (N := N) e hb
      rw [hz] at this
      exact ⟨ds.length + 1, by omega, by rw [List.length_cons]; exact Nat.le_refl _, this⟩
theorem zip_ne : ∀ {ls ms : List Int}, ls.length = ms.length → ls ≠ ms → ∃ x ∈ List.zipWith (· - ·) ls ms, x ≠ 0
  | [], [], _, h => absurd rfl h
  | [], _ :: _, h, _ => by simp at h
  | _ :: _, [], h, _ => by simp at h
  | l :: ls, m :: ms, h, hn => by
    rw [List.zipWith_cons_cons]
    by_cases e : l = m
    · subst e
      obtain ⟨x, hx, h0⟩ := zip_ne (ls := ls) (ms := ms) (by simpa using h) fun z => hn (by rw [z])
      exact ⟨x, List.mem_cons_of_mem _ hx, h0⟩
    · exact ⟨l - m, List.mem_cons_self, by omega⟩
theorem zip_bd {A : Nat} : ∀ {ls ms : List Int}, (∀ x ∈ ls, 0 ≤ x ∧ x < A) → (∀ x ∈ ms, 0 ≤ x ∧ x < A) → ∀ x ∈ List.zipWith (· - ·) ls ms, -(A : Int) < x ∧ x < A
  | [], _, _, _, x, h => by simp at h
  | _ :: _, [], _, _, x, h => by simp at h
  | l :: ls, m :: ms, h1, h2, x, h => by
    rw [List.zipWith_cons_cons] at h
    rcases List.mem_cons.mp h with e | e
    · have := h1 l List.mem_cons_self
      have := h2 m List.mem_cons_self
      omega
    · exact zip_bd (fun y hy => h1 y (List.mem_cons_of_mem _ hy)) (fun y hy => h2 y (List.mem_cons_of_mem _ hy)) x e
noncomputable def ltr (A : Nat) : Nat → List (List Int)
  | 0 => [[]]
  | n + 1 => (List.range A).flatMap fun l : Nat => (ltr A n).map fun t => (l : Int) :: t
theorem ltr_mem {A : Nat} : ∀ {n : Nat} {t : List Int}, t ∈ ltr A n → t.length = n ∧ ∀ x ∈ t, 0 ≤ x ∧ x < A
  | 0, t, h => by
    have : t = [] := List.mem_singleton.mp h
    subst this
    exact ⟨rfl, fun x h => by cases h⟩
  | n + 1, t, h => by
    obtain ⟨l, hl, hx⟩ := List.mem_flatMap.mp h
    obtain ⟨u, hu, rfl⟩ := List.mem_map.mp hx
    have hl := List.mem_range.mp hl
    obtain ⟨h1, h2⟩ := ltr_mem hu
    refine ⟨by rw [List.length_cons, h1], fun x hx => ?_⟩
    rcases List.mem_cons.mp hx with z | z
    · rw [z]
      omega
    · exact h2 x z
theorem flat_lenQ {α β : Type} {f : α → List β} {k : Nat} : ∀ l : List α, (∀ x, (f x).length = k) → (l.flatMap f).length = l.length * k
  | [], _ => by simp
  | x :: l, h => by
    rw [List.flatMap_cons, List.length_append, h, flat_lenQ l h, List.length_cons, Nat.succ_mul, Nat.add_comm]
theorem ltr_len (A : Nat) : ∀ n, (ltr A n).length = A ^ n
  | 0 => rfl
  | n + 1 => by
    show ((List.range A).flatMap fun l : Nat => (ltr A n).map fun t => (l : Int) :: t).length = _
    rw [flat_lenQ (k := A ^ n) _ (fun l => by rw [List.length_map, ltr_len A n]), List.length_range, Nat.pow_succ, Nat.mul_comm]
theorem ltr_nd (A : Nat) : ∀ n, (ltr A n).Nodup
  | 0 => List.pairwise_singleton _ _
  | n + 1 => by
    show List.Pairwise _ ((List.range A).flatMap fun l : Nat => (ltr A n).map fun t => (l : Int) :: t)
    rw [List.pairwise_flatMap]
    refine ⟨fun l _ => ?_, List.Pairwise.imp (fun {i j} (hij : i < j) x hx y hy e => ?_) List.pairwise_lt_range⟩
    · rw [List.pairwise_map]
      exact (ltr_nd A n).imp fun h e => h (List.cons.inj e).2
    · obtain ⟨t, _, rfl⟩ := List.mem_map.mp hx
      obtain ⟨u, _, rfl⟩ := List.mem_map.mp hy
      have := (List.cons.inj e).1
      omega
/-- more texts than marks: two that clash -/
theorem pigeonS {b N : Int} {A n : Nat} (hN : 0 < N) (h : N.toNat < A ^ n) : ∃ j, 1 ≤ j ∧ j ≤ n ∧ Sms [b] N A j (zr [b]) := by
  have hex : ∃ x ∈ ltr A n, ∃ y ∈ ltr A n, hv x b % N = hv y b % N ∧ x ≠ y := by
    refine Classical.byContradiction fun c => ?_
    have inj : ∀ x ∈ ltr A n, ∀ y ∈ ltr A n, hv x b % N = hv y b % N → x = y := fun x hx y hy e => Classical.byContradiction fun z => c ⟨x, hx, y, hy, e, z⟩
    have nd : ((ltr A n).map fun t => (hv t b % N).toNat).Nodup := by
      rw [List.nodup_iff_pairwise_ne, List.pairwise_map, List.pairwise_iff_getElem]
      intro i j hi hj hij e
      have h1 := Int.emod_nonneg (hv (ltr A n)[i] b) (show N ≠ 0 by omega)
      have h2 := Int.emod_nonneg (hv (ltr A n)[j] b) (show N ≠ 0 by omega)
      exact (List.pairwise_iff_getElem.mp (ltr_nd A n)) i j hi hj hij (inj _ (List.getElem_mem _) _ (List.getElem_mem _) (by omega))
    have := nodup_sub (m := List.range N.toNat) nd fun z hz => by
      obtain ⟨t, _, rfl⟩ := List.mem_map.mp hz
      have h1 := Int.emod_nonneg (hv t b) (show N ≠ 0 by omega)
      have h2 := Int.emod_lt_of_pos (hv t b) hN
      exact List.mem_range.mpr (by omega)
    rw [List.length_map, List.length_range, ltr_len] at this
    omega
  obtain ⟨x, hx, y, hy, e, hn⟩ := hex
  obtain ⟨lx, bx⟩ := ltr_mem hx
  obtain ⟨ly, by'⟩ := ltr_mem hy
  have hl : x.length = y.length := by omega
  obtain ⟨j, h1, h2, h3⟩ := strip (b := b) (N := N) (A := A) (zip_ne hl hn) (zip_bd bx by') (by rw [hv_zsub hl]; exact (Int.emod_eq_emod_iff_emod_sub_eq_zero).mp e)
  refine ⟨j, h1, ?_, h3⟩
  rw [List.length_zipWith, lx, ly, Nat.min_self] at h2
  exact h2
/-- the base that is the number of letters -/
theorem own_low {b N : Int} {A : Nat} (hA : 1 ≤ A) (hb : N ∣ b - A) : ∀ {m : Nat} {k : List Int}, Sms [b] N A m k → ∃ v : Int, k = [v % N] ∧ v ≠ 0 ∧ v < (A : Int) ^ m ∧ -((A : Int) ^ m) < v
  | 0, _, h => h.elim
  | 1, _, h => by
    obtain ⟨s, h0, h1, h2, rfl⟩ := h
    refine ⟨s, ?_, h0, by rw [Int.pow_one]; exact h2, by rw [Int.pow_one]; exact h1⟩
    show [(0 * b + s) % N] = _
    rw [Int.zero_mul, Int.zero_add]
  | m + 2, _, h => by
    obtain ⟨k', h', s, h1, h2, rfl⟩ := h
    obtain ⟨v, rfl, v0, v1, v2⟩ := own_low hA hb h'
    refine ⟨v * A + s, ?_, ?_, ?_, ?_⟩
    · show [(v % N * b + s) % N] = _
      congr 1
      obtain ⟨t, ht⟩ := hb
      have hv := Int.mul_ediv_add_emod v N
      rw [Int.emod_eq_emod_iff_emod_sub_eq_zero, ← Int.dvd_iff_emod_eq_zero]
      refine ⟨v % N * t - v / N * A, ?_⟩
      have e1 : b = A + N * t := by omega
      rw [e1]
      have e2 : v * (A : Int) = (N * (v / N) + v % N) * A := by rw [hv]
      rw [e2]
      grind
    · intro z
      rcases Int.lt_or_gt_of_ne v0 with g | g
      · have := Int.mul_le_mul_of_nonneg_right (show v ≤ -1 by omega) (show 0 ≤ (A : Int) by omega)
        omega
      · have := Int.mul_le_mul_of_nonneg_right (show 1 ≤ v by omega) (show 0 ≤ (A : Int) by omega)
        omega
    · rw [Int.pow_succ]
      have := Int.mul_le_mul_of_nonneg_right (show v ≤ (A : Int) ^ (m + 1) - 1 by omega) (show 0 ≤ (A : Int) by omega)
      rw [Int.sub_mul] at this
      omega
    · rw [Int.pow_succ]
      have := Int.mul_le_mul_of_nonneg_right (show -((A : Int) ^ (m + 1)) + 1 ≤ v by omega) (show 0 ≤ (A : Int) by omega)
      rw [Int.add_mul, Int.neg_mul] at this
      omega
theorem own_no {b N : Int} {A m : Nat} (hN : 0 < N) (hA : 1 ≤ A) (hb : N ∣ b - A) (h : (A : Int) ^ m ≤ N) : ¬ Sms [b] N A m (zr [b]) := fun c => by
  obtain ⟨v, e, v0, v1, v2⟩ := own_low hA hb c
  have e : 0 = v % N := (List.cons.inj e).1
  obtain ⟨t, ht⟩ := Int.dvd_of_emod_eq_zero e.symm
  have ht0 : t ≠ 0 := fun z => v0 (by rw [ht, z, Int.mul_zero])
  rcases Int.lt_or_gt_of_ne ht0 with g | g
  · have := Int.mul_le_mul_of_nonneg_left (show t ≤ -1 by omega) (show 0 ≤ N by omega)
    omega
  · have := Int.mul_le_mul_of_nonneg_left (show 1 ≤ t by omega) (show 0 ≤ N by omega)
    omega
/-- the least length whose number of texts is above N -/
structure Bnd (A : Nat) (N : Int) (m : Nat) : Prop where
  pos : 1 ≤ m
  hi : N < (A : Int) ^ m
  lo : m = 1 ∨ (A : Int) ^ (m - 1) ≤ N
theorem Bnd.low {A : Nat} {N : Int} {m j : Nat} (hA : 1 ≤ A) (h : Bnd A N m) (j1 : 1 ≤ j) (jm : j < m) : (A : Int) ^ j ≤ N := by
  have h1 := h.lo.resolve_left (by omega)
  have h2 : A ^ j ≤ A ^ (m - 1) := Nat.pow_le_pow_right hA (by omega)
  have e1 : ((A ^ j : Nat) : Int) = (A : Int) ^ j := Int.natCast_pow ..
  have e2 : ((A ^ (m - 1) : Nat) : Int) = (A : Int) ^ (m - 1) := Int.natCast_pow ..
  omega
theorem Bnd.any {A : Nat} {N b : Int} {m : Nat} (hN : 0 < N) (h : Bnd A N m) : ∃ j, LeastS [b] N A j ∧ j ≤ m := by
  have e1 : ((A ^ m : Nat) : Int) = (A : Int) ^ m := Int.natCast_pow ..
  have hh := h.hi
  obtain ⟨j, h1, h2, h3⟩ := pigeonS (b := b) (A := A) (n := m) hN (by omega)
  obtain ⟨i, g1, g2, g3⟩ := least_ex (P := fun j => Sms [b] N A j (zr [b])) h3
  refine ⟨i, ⟨?_, g2, g3⟩, by omega⟩
  cases i with
  | zero => exact g2.elim
  | succ i => omega
theorem Bnd.own {A : Nat} {N b : Int} {m : Nat} (hN : 0 < N) (hA : 1 ≤ A) (hb : N ∣ b - A) (h : Bnd A N m) : LeastS [b] N A m := by
  obtain ⟨j, hj, jm⟩ := h.any (b := b) hN
  by_cases c : j = m
  · rw [← c]; exact hj
  · exact absurd hj.hit (own_no hN hA hb (h.low hA hj.pos (by omega)))
theorem Sms.rng {bs : List Int} {N : Int} {A : Nat} (hN : 0 < N) : ∀ {m : Nat} {k : List Int}, Sms bs N A m k → ∀ x ∈ k, 0 ≤ x ∧ x < N := by
  have key : ∀ (r : List Int) (s : Int), ∀ x ∈ ledV bs N r s, 0 ≤ x ∧ x < N := fun r s x hx => by
    unfold ledV at hx
    obtain ⟨i, hi, rfl⟩ := List.getElem_of_mem hx
    rw [List.getElem_zipWith]
    exact ⟨Int.emod_nonneg _ (by omega), Int.emod_lt_of_pos _ hN⟩
  intro m k h
  match m, h with
  | 1, h => obtain ⟨s, _, _, _, rfl⟩ := h; exact key _ _
  | m + 2, h => obtain ⟨k', _, s, _, _, rfl⟩ := h; exact key _ _
theorem Sms.first {bs : List Int} {N : Int} {A : Nat} {k : List Int} : Sms bs N A 1 k ↔ k ∈ ((stps A).filter fun s => decide (s ≠ 0)).map (ledV bs N (zr bs)) := by
  rw [List.mem_map]
  constructor
  · rintro ⟨s, h0, h1, h2, rfl⟩
    exact ⟨s, List.mem_filter.mpr ⟨stps_mem.mpr ⟨h1, h2⟩, decide_eq_true h0⟩, rfl⟩
  · rintro ⟨s, h, rfl⟩
    obtain ⟨h1, h2⟩ := List.mem_filter.mp h
    have := stps_mem.mp h1
    exact ⟨s, of_decide_eq_true h2, this.1, this.2, rfl⟩
theorem stps_len (A : Nat) : (stps A).length = 2 * A - 1 := by
  unfold stps
  rw [List.length_map, List.length_range]
/-- no more than M sums -/
noncomputable def Few (bs : List Int) (N : Int) (M : Nat) : Prop := ∀ ks : List (List Int), ks.Nodup → (∀ k ∈ ks, k.length = bs.length ∧ ∀ x ∈ k, 0 ≤ x ∧ x < N) → ks.length ≤ M
theorem w_dnewT {σ : L2.St} {H : Hp} {Q : VK} (q : ∀ p, H p = none → atV Q (.ref p) (L2.upd H p (.dT []))) : tDNewT σ H Q := q
theorem w_setDq {o i v : V} {H : Hp} {Q : Hp → Prop} (q : ∃ a H', o = .ref a ∧ DPut H a i v H' ∧ Q H') : rSetD o i v H Q := q
theorem w_dnotin {td ty : TE} {σ : L2.St} {H : Hp} {Q : VK} (q : ty σ H fun y H1 => td σ H1 fun x H2 => ∃ a o, x = .ref a ∧ DGet H2 a y o ∧ Q (.bl (!o.isSome)) H2) : tDNotIn ty td σ H Q := q
theorem u66q {k : Nat} {A : Around} (r : Room k A) : A.units + 1 < cLine := by
  have := r.un
  omega
end Bc
namespace Bc
open PySem PySem.Spec PyProof.Rows L2
end Bc
namespace Bc
open PySem PySem.Spec PyProof.Rows L2
noncomputable abbrev NK := PySem.NestedKey
mutual
inductive KIs (H : Hp) : NK → V → Prop
  | int (i : Int) : KIs H (.num i) (.int i)
  | bl (b : Bool) : KIs H (.num (if b = true then 1 else 0)) (.bl b)
  | tup {a : Addr} {vs : List V} {ks : List NK} : H a = some (.tup vs) → KAll H ks vs → KIs H (.tup ks) (.ref a)
inductive KAll (H : Hp) : List NK → List V → Prop
  | nil : KAll H [] []
  | cons {k : NK} {v : V} {ks : List NK} {vs : List V} : KIs H k v → KAll H ks vs → KAll H (k :: ks) (v :: vs)
end
section
variable {P : Program} {w : World} {H H' : Hp} {h : Heap}
mutual
theorem KIs.keeps (s : ∀ b ys, H b = some (.tup ys) → H' b = some (.tup ys)) : ∀ (k : NK) (v : V), KIs H k v → KIs H' k v
  | .none, _, x => by cases x
  | .num i, _, x => by
    cases x with
    | int => exact .int _
    | bl b => exact .bl b
  | .text _, _, x => by cases x
  | .tup ks, _, x => by
    cases x with
    | tup ha hk => exact .tup (s _ _ ha) (KAll.keeps s ks _ hk)
theorem KAll.keeps (s : ∀ b ys, H b = some (.tup ys) → H' b = some (.tup ys)) : ∀ (ks : List NK) (vs : List V), KAll H ks vs → KAll H' ks vs
  | [], _, x => by
    cases x
    exact .nil
  | k :: ks, _, x => by
    cases x with
    | cons x1 x2 => exact .cons (KIs.keeps s k _ x1) (KAll.keeps s ks _ x2)
end
end
noncomputable abbrev NE := NK × Addr × V
noncomputable abbrev NT : List NE → List (NK × Addr × Value) → Prop := Paired fun p q => p.1 = q.1 ∧ p.2.1 = q.2.1 ∧ RelV p.2.2 q.2.2
noncomputable def nval (kvs : List NE) (k : NK) : Option V := (kvs.find? fun x => decide (x.1 = k)).map (·.2.2)
theorem NT.val {kvs : List NE} {xs : List (NK × Addr × Value)} (r : NT kvs xs) (k : NK) : RelO (nval kvs k) ((PySem.atKey xs k).map (·.2)) := by
  induction r with
  | nil => exact True.intro
  | @cons p q ps qs h t ih =>
    obtain ⟨h1, _, h2⟩ := h
    by_cases e : p.1 = k
    · have e' : q.1 = k := h1.symm.trans e
      have b : PySem.atKey (q :: qs) k = some q.2 := by simp [PySem.atKey, List.find?_cons, e']
      have c : nval (p :: ps) k = some p.2.2 := by simp [nval, List.find?_cons, e]
      rw [c, b]; exact h2
    · have e' : ¬ q.1 = k := fun z => e (h1.trans z)
      have b : PySem.atKey (q :: qs) k = PySem.atKey qs k := by simp [PySem.atKey, List.find?_cons, e']
      have c : nval (p :: ps) k = nval ps k := by simp [nval, List.find?_cons, e]
      rw [c, b]; exact ih
/-- the object of such a dict -/
noncomputable def ndP (P : Program) (w : World) (d : Addr) (kvs : List NE) : Heap → Prop := fun h => kvs.length ≤ sizeLine ∧ (d == sysModules) = false ∧ ∃ xs : List (NK × Addr × Value), NT kvs xs ∧
  ∃ o es ep, h.get? d = some o ∧ o.ExactDict ∧ o.data = .dict es ep ∧ es.toList = xs.map (entryOfKey (nestedKind P w)) ∧ (xs.map (·.1)).Nodup
noncomputable def ndO (P : Program) (w : World) (d : Addr) (kvs : List NE) : HO := .ext (ndP P w d kvs)
noncomputable def KeysAt (H : Hp) (kvs : List NE) : Prop := ∀ x ∈ kvs, KIs H x.1 (.ref x.2.1) ∧ x.1.depth ≤ 8
theorem KeysAt.keeps {H H' : Hp} {kvs : List NE} (h : KeysAt H kvs) (s : ∀ b ys, H b = some (.tup ys) → H' b = some (.tup ys)) : KeysAt H' kvs := fun x hx => ⟨KIs.keeps s _ _ (h x hx).1, (h x hx).2⟩
/-- d is such a dict, to be read or written -/
noncomputable def ND (P : Program) (w : World) (H : Hp) (d : Addr) (kvs : List NE) : Prop := H d = some (ndO P w d kvs) ∧ KeysAt H kvs
theorem ND.same {P : Program} {w : World} {H H' : Hp} {d : Addr} {kvs : List NE} (h : ND P w H d kvs) (s : Same H H') : ND P w H' d kvs := ⟨s _ _ h.1, h.2.keeps fun _ _ e => s _ _ e⟩
section
variable {P : Program} {w : World} {H : Hp} {Q : VK} {a b : Addr} {kvs : List NE} {k : NK} {v : V} {td ty : TE} {σ : L2.St} {Qs : Hp → Prop}
theorem w_dget (q : td σ H fun x H1 => ty σ H1 fun y H2 => ∃ a v, x = .ref a ∧ DGet H2 a y (some v) ∧ Q v H2) : tDGet td ty σ H Q := q
theorem ND.new (np : H b = none) : ND P w (upd H b (ndO P w b [])) b [] := ⟨upd_same, fun x hx => nomatch hx⟩
end
end Bc
namespace Bc
open PySem PySem.Spec PyProof.Rows L2
/-- {k: v}: one pair, the key a flat tuple -/
noncomputable def tDisp1 (tk tv : TE) : TE := fun σ H Q => ∀ p, H p = none → tk σ (upd H p (.dT [])) fun x H1 => tv σ H1 fun y H2 => ∃ (b : Addr) (k : List Key), x = .ref b ∧ H2 p = some (.dT []) ∧ H2 b = some (.tup (k.map kV)) ∧ atV Q (.ref p) (upd H2 p (.dT [(k, y)]))
theorem pe_disp1 {X : Cx} {pos : Pos} {k v : Expr} {tk tv : TE} (hu : X.A.units + 64 < cLine) (hk : PE X k tk) (hv : PE X v tv) : PE X (.Dict [some k] [v] pos) (tDisp1 tk tv) := by
  refine ⟨fun pins s σ H Q I q => ?_⟩
  have hn := I.hok.fresh (Nat.le_refl s.heap.objs.size)
  have I1 := I.laid (a := s.heap.objs.size) (o := .dT []) (h' := s.heap.push { cls := .type "dict", data := .dict #[] }) (t' := s.toks) (fun _ _ q => Heap.get?_push_of_some _ q) (Nat.le_refl _) (dt_empty s.heap I.big)
  have hp := (pps_cons (pos := pos) hk hv (pps_nil (X := X) (pos := pos))).run pins _ σ _ (fun ps H2 => ∃ x y, ps = [(x, y)] ∧ ∃ (b : Addr) (k : List Key), x = .ref b ∧ H2 s.heap.objs.size = some (.dT []) ∧ H2 b = some (.tup (k.map kV)) ∧ atV Q (.ref s.heap.objs.size) (upd H2 s.heap.objs.size (.dT [(k, y)]))) I1 (by
    have h := q _ hn
    have mono : ∀ {t : TE} {σ : L2.St} {H : Hp} {P P' : VK}, P = P' → t σ H P → t σ H P' := fun e h => e ▸ h
    refine mono ?_ h
    funext x H1
    refine congrArg (tv σ H1) ?_
    funext y H2
    refine propext ⟨fun h => ⟨x, y, rfl, h⟩, fun h => ?_⟩
    obtain ⟨x', y', e, h⟩ := h
    cases e
    exact h)
  rw [arm_eval_Dict, zip_pairTrees [some k] [v] X.env pos rfl rfl, dictDisplay_pairs (pairTrees [some k] [v] X.env pos) (by
    intro he
    have := pairTrees_length [some k] [v] X.env pos rfl rfl
    rw [he] at this
    cases this) (by rw [pairTrees_length [some k] [v] X.env pos rfl rfl]; simp)]
  refine wpAny_bind (wpAny_standAt (wpAny_bind (wpAny_subDictH (knd := tupleKind (mixKind X.prog X.w)) (Q := fun d s' => wpAny (model X.prog X.w) X.A (pure (Value.ref d)) (EP X pins σ Q) X.xe s') (by show X.A.units < cLine; omega) (by rw [pairTrees_length [some k] [v] X.env pos rfl rfl]; simp)
    (wpAny_mono hp (fun vs s₁ h₁ => ?_) fun _ _ e => e))))
  obtain ⟨ps, H2, I2, rel, x, y, rfl, b, kk, rfl, hd, hb, q2⟩ := h₁
  cases rel with
  | @cons p0 q0 _ _ r t =>
    cases t
    obtain ⟨q1, q3⟩ := q0
    obtain ⟨r1, r2⟩ := r
    cases (show q1 = Value.ref b from r1)
    obtain ⟨z, hds, xs0, r0, dd⟩ := dt_of I2.hok hd
    cases r0
    refine ⟨[(kk, b, q3)], ⟨rfl, rfl, key_of I2.hok hb, trivial⟩, dd, fun h' tk dd' hs => wpAny_pure ?_⟩
    obtain ⟨o, es, ep, hq, h2, h3, h4, _, h5⟩ := dd'
    refine ⟨.ref s.heap.objs.size, upd H2 s.heap.objs.size (.dT [(kk, y)]), d_write I2 (by rw [hd]; exact True.intro) hs ⟨o, hq⟩ ⟨by show 1 ≤ sizeLine; decide, hds, [(kk, b, q3)], .cons ⟨rfl, ?_, r2⟩ .nil, o, es, ep, hq, h2, h3, h4, h5⟩, rfl, q2⟩
    show upd H2 s.heap.objs.size _ b = _
    rw [upd_ne (ne_of hb hd (fun z => nomatch z))]
    exact hb
end Bc
namespace Bc
open PySem PySem.Spec PyProof.Rows L2
noncomputable def vecF (bs : List Int) (N : Int) (F : Int → Int) : List Int := bs.map fun b => F b % N
theorem vecF_eq {bs : List Int} {N : Int} {F G : Int → Int} : vecF bs N F = vecF bs N G ↔ ∀ b ∈ bs, F b % N = G b % N := by
  unfold vecF
  exact List.map_inj_left
theorem vecF_len {bs : List Int} {N : Int} {F : Int → Int} : (vecF bs N F).length = bs.length := List.length_map ..
theorem vecF_rng {bs : List Int} {N : Int} (hN : 0 < N) {F : Int → Int} : ∀ x ∈ vecF bs N F, 0 ≤ x ∧ x < N := fun x hx => by
  obtain ⟨b, _, rfl⟩ := List.mem_map.mp hx
  exact ⟨Int.emod_nonneg _ (by omega), Int.emod_lt_of_pos _ hN⟩
noncomputable def wtV (bs : List Int) (w : Int → Int) : List Int := bs.map w
noncomputable def mvV (N : Int) (r W : List Int) (s : Int) : List Int := List.zipWith (fun x f => (x + s * f) % N) r W
noncomputable def ngV (N : Int) (r : List Int) : List Int := r.map fun x => -x % N
theorem ngV_vec {bs : List Int} {N : Int} {F : Int → Int} : ngV N (vecF bs N F) = vecF bs N fun b => -F b := by
  unfold ngV vecF
  rw [List.map_map]
  refine List.map_congr_left fun b _ => ?_
  show -(F b % N) % N = -F b % N
  rw [← Int.zero_sub, ← Int.zero_sub (F b), Int.sub_emod, Int.emod_emod_of_dvd _ (Int.dvd_refl N), ← Int.sub_emod]
/-- steps times weights -/
noncomputable def SF : List (Int → Int) → List Int → Int → Int
  | w :: ws, s :: ss, b => s * w b + SF ws ss b
  | [], _, _ => 0
  | _ :: _, [], _ => 0
theorem SF_nil {ws : List (Int → Int)} {b : Int} : SF ws [] b = 0 := by cases ws <;> rfl
/-- a step for each place, out of what the place may have -/
noncomputable def InG : List Int → List (List Int) → Prop
  | [], [] => True
  | s :: ss, g :: gs => s ∈ g ∧ InG ss gs
  | [], _ :: _ => False
  | _ :: _, [] => False
noncomputable def Beh (bs : List Int) (N : Int) (ws : List (Int → Int)) (gs : List (List Int)) (r : List Int) : Prop := ∃ ss, InG ss gs ∧ r = vecF bs N (SF ws ss)
noncomputable def Unl (bs : List Int) (N : Int) (ws : List (Int → Int)) (gs : List (List Int)) (r : List Int) : Prop := ∃ ss, InG ss gs ∧ (∃ s ∈ ss, s ≠ 0) ∧ r = vecF bs N (SF ws ss)
section
variable {bs : List Int} {N : Int} {ws : List (Int → Int)} {gs : List (List Int)} {w : Int → Int} {g r : List Int}
/-- what was added up can be led back to 0 by unlike texts -/
noncomputable def GoV (bs : List Int) (N : Int) (ws : List (Int → Int)) (gs : List (List Int)) (x : List Int × Bool) : Prop := if x.2 = true then Beh bs N ws gs (ngV N x.1) else Unl bs N ws gs (ngV N x.1)
theorem neg_iff {a b : Int} : -a % N = b % N ↔ (a + b) % N = 0 := by
  rw [Int.emod_eq_emod_iff_emod_sub_eq_zero, ← Int.dvd_iff_emod_eq_zero, ← Int.dvd_iff_emod_eq_zero]
  constructor
  · rintro ⟨t, h⟩
    exact ⟨-t, by rw [Int.mul_neg]; omega⟩
  · rintro ⟨t, h⟩
    exact ⟨-t, by rw [Int.mul_neg]; omega⟩
theorem GoV_iff {F : Int → Int} {d : Bool} : GoV bs N ws gs (vecF bs N F, d) ↔ ∃ ss, InG ss gs ∧ (d = true ∨ ∃ s ∈ ss, s ≠ 0) ∧ ∀ b ∈ bs, (F b + SF ws ss b) % N = 0 := by
  unfold GoV
  have key : ∀ ss, ngV N (vecF bs N F) = vecF bs N (SF ws ss) ↔ ∀ b ∈ bs, (F b + SF ws ss b) % N = 0 := fun ss => by
    rw [ngV_vec, vecF_eq]
    exact forall_congr' fun b => forall_congr' fun _ => neg_iff
  cases d with
  | true =>
    rw [if_pos rfl]
    constructor
    · rintro ⟨ss, h, e⟩
      exact ⟨ss, h, .inl rfl, (key ss).mp e⟩
    · rintro ⟨ss, h, _, e⟩
      exact ⟨ss, h, (key ss).mpr e⟩
  | false =>
    rw [if_neg (by simp)]
    constructor
    · rintro ⟨ss, h, n, e⟩
      exact ⟨ss, h, .inr n, (key ss).mp e⟩
    · rintro ⟨ss, h, n, e⟩
      exact ⟨ss, h, n.resolve_left (by decide), (key ss).mpr e⟩
end
noncomputable def Ltr (A : Nat) (t : List Int) : Prop := ∀ x ∈ t, 0 ≤ x ∧ x < A
noncomputable def sbv (q p : List Int) : List Int := List.zipWith (fun x y => x - y) q p
theorem SF_app {b : Int} : ∀ {pw : List (Int → Int)} {ss : List Int} {ws : List (Int → Int)} {us : List Int}, pw.length = ss.length → SF (pw ++ ws) (ss ++ us) b = SF pw ss b + SF ws us b
  | [], [], ws, us, _ => by
    show SF ws us b = 0 + _
    rw [Int.zero_add]
  | [], _ :: _, _, _, h => by simp at h
  | _ :: _, [], _, _, h => by simp at h
  | w :: pw, s :: ss, ws, us, h => by
    show s * w b + SF (pw ++ ws) (ss ++ us) b = s * w b + SF pw ss b + SF ws us b
    rw [SF_app (by simpa using h), Int.add_assoc]
theorem sbv_len {q p : List Int} (h : q.length = p.length) : (sbv q p).length = p.length := by
  unfold sbv
  rw [List.length_zipWith, h, Nat.min_self]
theorem sbv_app {q p q' p' : List Int} (h : q.length = p.length) : sbv (q ++ q') (p ++ p') = sbv q p ++ sbv q' p' := by
  unfold sbv
  rw [List.zipWith_append h]
theorem sbv_ne : ∀ {q p : List Int}, q.length = p.length → ((∃ s ∈ sbv q p, s ≠ 0) ↔ q ≠ p)
  | [], [], _ => by simp [sbv]
  | [], _ :: _, h => by simp at h
  | _ :: _, [], h => by simp at h
  | x :: q, y :: p, h => by
    have ih := sbv_ne (q := q) (p := p) (by simpa using h)
    show (∃ s ∈ (x - y) :: sbv q p, s ≠ 0) ↔ _
    constructor
    · rintro ⟨s, hs, s0⟩ e
      cases e
      rcases List.mem_cons.mp hs with z | z
      · omega
      · exact (ih.mp ⟨s, z, s0⟩) rfl
    · intro hn
      by_cases e : x = y
      · obtain ⟨s, hs, s0⟩ := ih.mpr fun z => hn (by rw [e, z])
        exact ⟨s, List.mem_cons_of_mem _ hs, s0⟩
      · exact ⟨x - y, List.mem_cons_self .., by omega⟩
/-- texts q, t of one length agree by all the bases -/
noncomputable def Agr (bs : List Int) (N : Int) (ws : List (Int → Int)) (q t : List Int) : Prop := ∀ b ∈ bs, SF ws (sbv q t) b % N = 0
/-- what q, of the length of p, has added up over p -/
noncomputable def SP (bs : List Int) (N : Int) (A : Nat) (pw : List (Int → Int)) (p : List Int) (x : List Int × Bool) : Prop := ∃ q, q.length = p.length ∧ Ltr A q ∧ x = (vecF bs N (SF pw (sbv q p)), decide (q ≠ p))
section
variable {bs : List Int} {N : Int} {A : Nat} {pw ws : List (Int → Int)} {w : Int → Int} {p : List Int}
noncomputable def gsA (A n : Nat) : List (List Int) := List.replicate n (stps A)
theorem InG_rep {A : Nat} : ∀ {n : Nat} {ss : List Int}, InG ss (gsA A n) ↔ ss.length = n ∧ ∀ s ∈ ss, s ∈ stps A
  | 0, [] => ⟨fun _ => ⟨rfl, fun s h => by cases h⟩, fun _ => trivial⟩
  | 0, _ :: _ => ⟨fun h => h.elim, fun h => by simp at h⟩
  | n + 1, [] => ⟨fun h => h.elim, fun h => by simp at h⟩
  | n + 1, s :: ss => by
    show s ∈ stps A ∧ InG ss (gsA A n) ↔ _
    rw [InG_rep]
    simp only [List.length_cons, Nat.add_right_cancel_iff, List.mem_cons, forall_eq_or_imp]
    exact ⟨fun ⟨h1, h2, h3⟩ => ⟨h2, h1, h3⟩, fun ⟨h2, h1, h3⟩ => ⟨h1, h2, h3⟩⟩
/-- a prefix that some text has that agrees with an unlike one -/
noncomputable def GdT (bs : List Int) (N : Int) (A : Nat) (pw ws : List (Int → Int)) (p : List Int) : Prop := ∃ x, SP bs N A pw p x ∧ GoV bs N ws (gsA A ws.length) x
/-- the states by one letter more -/
noncomputable def Nxt (bs : List Int) (N : Int) (A : Nat) (w : Int → Int) (l : Int) (S : List Int × Bool → Prop) (x : List Int × Bool) : Prop := ∃ y, S y ∧ ∃ o : Int, (0 ≤ o ∧ o < A) ∧ x = (mvV N y.1 (wtV bs w) (o - l), y.2 || decide (o ≠ l))
end
/-- a text that agrees with an unlike one has good prefixes -/
theorem GdT_take {bs : List Int} {N : Int} {A : Nat} : ∀ {ws pw : List (Int → Int)} {p s q' s' : List Int}, pw.length = p.length → s.length = ws.length → s'.length = ws.length → q'.length = p.length → Ltr A (p ++ s) → Ltr A (q' ++ s') → q' ++ s' ≠ p ++ s → Agr bs N (pw ++ ws) (q' ++ s') (p ++ s) → GdT bs N A pw ws p
  | ws, pw, p, s, q', s', h1, h2, h3, h4, l1, l2, hn, ha => by
    refine ⟨_, ⟨q', h4, fun z hz => l2 z (List.mem_append_left _ hz), rfl⟩, GoV_iff.mpr ⟨sbv s' s, ?_, ?_, fun b hb => ?_⟩⟩
    · refine InG_rep.mpr ⟨by rw [sbv_len (by omega), h2], fun z hz => ?_⟩
      unfold sbv at hz
      obtain ⟨i, hi, rfl⟩ := List.getElem_of_mem hz
      rw [List.length_zipWith] at hi
      rw [List.getElem_zipWith]
      have a1 := l2 _ (List.mem_append_right q' (List.getElem_mem (show i < s'.length by omega)))
      have a2 := l1 _ (List.mem_append_right p (List.getElem_mem (show i < s.length by omega)))
      exact stps_mem.mpr ⟨by omega, by omega⟩
    · by_cases e : q' = p
      · refine .inr ((sbv_ne (by omega)).mpr fun z => hn ?_)
        rw [e, z]
      · exact .inl (decide_eq_true e)
    · have := ha b hb
      rw [sbv_app h4, SF_app (by rw [sbv_len h4, h1])] at this
      exact this
noncomputable def LexLt (a b : List Int) : Prop := ∃ (i : Nat) (x y : Int), a.take i = b.take i ∧ a[i]? = some x ∧ b[i]? = some y ∧ x < y
/-- t is a good one, and at each place each lesser letter is not -/
structure FstT (bs : List Int) (N : Int) (A : Nat) (ws : List (Int → Int)) (t : List Int) : Prop where
  len : t.length = ws.length
  ltr : Ltr A t
  good : ∃ q, q.length = t.length ∧ Ltr A q ∧ q ≠ t ∧ Agr bs N ws q t
  no : ∀ (i : Nat) (x l : Int), t[i]? = some x → 0 ≤ l → l < x → ¬ GdT bs N A (ws.take (i + 1)) (ws.drop (i + 1)) (t.take i ++ [l])
theorem FstT.first {bs : List Int} {N : Int} {A : Nat} {ws : List (Int → Int)} {t u q : List Int} (h : FstT bs N A ws t) (hu : u.length = ws.length) (lu : Ltr A u) (hq : q.length = u.length) (lq : Ltr A q) (hn : q ≠ u) (ha : Agr bs N ws q u) : ¬ LexLt u t := by
  rintro ⟨i, x, y, e1, e2, e3, hxy⟩
  have hi : i < u.length := (List.getElem?_eq_some_iff.mp e2).1
  have ex : u[i] = x := (List.getElem?_eq_some_iff.mp e2).2
  have tk : u.take (i + 1) = t.take i ++ [x] := by rw [List.take_succ_eq_append_getElem hi, e1, ex]
  refine h.no i y x e3 (lu x (List.mem_of_getElem? e2)).1 hxy ?_
  rw [← tk]
  refine GdT_take (s := u.drop (i + 1)) (q' := q.take (i + 1)) (s' := q.drop (i + 1)) (by rw [List.length_take, List.length_take, hu]) (by rw [List.length_drop, List.length_drop, hu]) (by rw [List.length_drop, List.length_drop, hq, hu]) (by rw [List.length_take, List.length_take, hq]) ?_ ?_ ?_ ?_
  · rw [List.take_append_drop]; exact lu
  · rw [List.take_append_drop]; exact lq
  · rw [List.take_append_drop, List.take_append_drop]; exact hn
  · rw [List.take_append_drop, List.take_append_drop, List.take_append_drop]; exact ha
noncomputable def rgs (A : Nat) (t : List Int) : List (List Int) := t.map fun x => (List.range A).map fun k : Nat => (k : Int) - x
theorem rg_mem {A : Nat} {x s : Int} : s ∈ (List.range A).map (fun k : Nat => (k : Int) - x) ↔ 0 ≤ x + s ∧ x + s < A := by
  rw [List.mem_map]
  constructor
  · rintro ⟨k, hk, rfl⟩
    have := List.mem_range.mp hk
    omega
  · intro h
    exact ⟨(x + s).toNat, List.mem_range.mpr (by omega), by omega⟩
theorem InG_rgs {A : Nat} : ∀ {t ss : List Int}, InG ss (rgs A t) ↔ ∃ o, o.length = t.length ∧ Ltr A o ∧ ss = sbv o t
  | [], [] => ⟨fun _ => ⟨[], rfl, (fun _ h => by cases h), rfl⟩, fun _ => trivial⟩
  | [], _ :: _ => ⟨fun h => h.elim, fun ⟨o, h1, _, h2⟩ => by
      cases o with
      | nil => cases h2
      | cons => simp at h1⟩
  | _ :: _, [] => ⟨fun h => h.elim, fun ⟨o, h1, _, h2⟩ => by
      cases o with
      | nil => simp at h1
      | cons => cases h2⟩
  | x :: t, s :: ss => by
    show s ∈ _ ∧ InG ss (rgs A t) ↔ _
    rw [InG_rgs, rg_mem]
    constructor
    · rintro ⟨hs, o, h1, h2, rfl⟩
      refine ⟨(x + s) :: o, by rw [List.length_cons, h1]; rfl, fun z hz => ?_, ?_⟩
      · rcases List.mem_cons.mp hz with e | e
        · rw [e]; exact hs
        · exact h2 z e
      · show _ = (x + s - x) :: sbv o t
        rw [show x + s - x = s by omega]
    · rintro ⟨o, h1, h2, h3⟩
      cases o with
      | nil => simp at h1
      | cons y o =>
        have h3 : s :: ss = (y - x) :: sbv o t := h3
        injection h3 with e1 e2
        have hy := h2 y List.mem_cons_self
        exact ⟨by omega, o, by simpa using h1, fun z hz => h2 z (List.mem_cons_of_mem _ hz), e2⟩
/-- a prefix of an unlike text that agrees with pt ++ st -/
noncomputable def GdO (bs : List Int) (N : Int) (A : Nat) (pw ws : List (Int → Int)) (pt st o : List Int) : Prop := GoV bs N ws (rgs A st) (vecF bs N (SF pw (sbv o pt)), decide (o ≠ pt))
section
variable {bs : List Int} {N : Int} {A : Nat} {pw ws : List (Int → Int)} {w : Int → Int} {pt st o : List Int} {x : Int}
theorem GdO_take {s : List Int} (h1 : pw.length = pt.length) (h4 : o.length = pt.length) (hs : s.length = st.length) (l2 : Ltr A (o ++ s)) (hn : o ++ s ≠ pt ++ st) (ha : Agr bs N (pw ++ ws) (o ++ s) (pt ++ st)) : GdO bs N A pw ws pt st o := by
  refine GoV_iff.mpr ⟨sbv s st, InG_rgs.mpr ⟨s, hs, fun z hz => l2 z (List.mem_append_right _ hz), rfl⟩, ?_, fun b hb => ?_⟩
  · by_cases e : o = pt
    · refine .inr ((sbv_ne hs).mpr fun z => hn ?_)
      rw [e, z]
    · exact .inl (decide_eq_true e)
  · have := ha b hb
    rw [sbv_app h4, SF_app (by rw [sbv_len h4, h1])] at this
    exact this
end
structure FstO (bs : List Int) (N : Int) (A : Nat) (ws : List (Int → Int)) (t o : List Int) : Prop where
  len : o.length = t.length
  ltr : Ltr A o
  ne : o ≠ t
  agr : Agr bs N ws o t
  no : ∀ (i : Nat) (x l : Int), o[i]? = some x → 0 ≤ l → l < x → ¬ GdO bs N A (ws.take (i + 1)) (ws.drop (i + 1)) (t.take (i + 1)) (t.drop (i + 1)) (o.take i ++ [l])
theorem FstO.first {bs : List Int} {N : Int} {A : Nat} {ws : List (Int → Int)} {t o q : List Int} (h : FstO bs N A ws t o) (hw : ws.length = t.length) (hq : q.length = t.length) (lq : Ltr A q) (hn : q ≠ t) (ha : Agr bs N ws q t) : ¬ LexLt q o := by
  rintro ⟨i, x, y, e1, e2, e3, hxy⟩
  have hi : i < q.length := (List.getElem?_eq_some_iff.mp e2).1
  have ex : q[i] = x := (List.getElem?_eq_some_iff.mp e2).2
  have tk : q.take (i + 1) = o.take i ++ [x] := by rw [List.take_succ_eq_append_getElem hi, e1, ex]
  refine h.no i y x e3 (lq x (List.mem_of_getElem? e2)).1 hxy ?_
  rw [← tk]
  refine GdO_take (s := q.drop (i + 1)) (by rw [List.length_take, List.length_take, hw]) (by rw [List.length_take, List.length_take, hq]) (by rw [List.length_drop, List.length_drop, hq]) ?_ ?_ ?_
  · rw [List.take_append_drop]; exact lq
  · rw [List.take_append_drop, List.take_append_drop]; exact hn
  · rw [List.take_append_drop, List.take_append_drop, List.take_append_drop]; exact ha
noncomputable def txsL (A : Nat) : Nat → List (List Int)
  | 0 => [[]]
  | n + 1 => (txsL A n).flatMap fun t => (List.range A).map fun l : Nat => t ++ [(l : Int)]
theorem txsL_mem {A : Nat} : ∀ {n : Nat} {t : List Int}, t ∈ txsL A n ↔ t.length = n ∧ Ltr A t
  | 0, t => by
    show t ∈ [[]] ↔ _
    rw [List.mem_singleton]
    constructor
    · rintro rfl
      exact ⟨rfl, fun _ h => by cases h⟩
    · rintro ⟨h, _⟩
      exact List.length_eq_zero_iff.mp h
  | n + 1, t => by
    show t ∈ (txsL A n).flatMap _ ↔ _
    rw [List.mem_flatMap]
    constructor
    · rintro ⟨u, hu, ht⟩
      obtain ⟨l, hl, rfl⟩ := List.mem_map.mp ht
      have hl := List.mem_range.mp hl
      obtain ⟨h1, h2⟩ := txsL_mem.mp hu
      refine ⟨by rw [List.length_append, h1]; rfl, fun z hz => ?_⟩
      rcases List.mem_append.mp hz with e | e
      · exact h2 z e
      · rw [List.mem_singleton.mp e]
        omega
    · rintro ⟨h1, h2⟩
      rcases List.eq_nil_or_concat t with e | ⟨u, l, e⟩
      · subst e
        simp at h1
      · rw [List.concat_eq_append] at e
        subst e
        have hl := h2 l (by simp)
        refine ⟨u, txsL_mem.mpr ⟨by simpa using h1, fun z hz => h2 z (by simp [hz])⟩, List.mem_map.mpr ⟨l.toNat, List.mem_range.mpr (by omega), by rw [show (l.toNat : Int) = l by omega]⟩⟩
theorem LexLt.snoc {a b : List Int} {x y : Int} (h : LexLt a b) : LexLt (a ++ [x]) (b ++ [y]) := by
  obtain ⟨i, u, v, e1, e2, e3, h⟩ := h
  have h2 := (List.getElem?_eq_some_iff.mp e2).1
  have h3 := (List.getElem?_eq_some_iff.mp e3).1
  exact ⟨i, u, v, by rw [List.take_append_of_le_length (by omega), List.take_append_of_le_length (by omega), e1], by rw [List.getElem?_append_left h2, e2], by rw [List.getElem?_append_left h3, e3], h⟩
theorem txsL_lex (A : Nat) : ∀ n, (txsL A n).Pairwise LexLt
  | 0 => List.pairwise_singleton _ _
  | n + 1 => by
    show List.Pairwise _ ((txsL A n).flatMap fun t => (List.range A).map fun l : Nat => t ++ [(l : Int)])
    rw [List.pairwise_flatMap]
    refine ⟨fun t _ => ?_, List.Pairwise.imp (fun {a b} hab x hx y hy => ?_) (txsL_lex A n)⟩
    · rw [List.pairwise_map]
      refine List.Pairwise.imp (fun {i j} hij => ?_) List.pairwise_lt_range
      exact ⟨t.length, i, j, by rw [List.take_left, List.take_left], by simp, by simp, by omega⟩
    · obtain ⟨l, _, rfl⟩ := List.mem_map.mp hx
      obtain ⟨m, _, rfl⟩ := List.mem_map.mp hy
      exact hab.snoc
theorem LexLt.ne {a b : List Int} (h : LexLt a b) : a ≠ b := by
  obtain ⟨i, u, v, e1, e2, e3, h⟩ := h
  intro e
  subst e
  rw [e2] at e3
  cases e3
  omega
end Bc
namespace Bc
open PySem PySem.Spec PyProof.Rows L2
theorem ne_of_none' {H : Hp} {a b : Addr} {o : HO} (h : H a = some o) (n : H b = none) : b ≠ a := fun e => by
  rw [e, h] at n
  cases n
theorem rm_some' {D b : Addr} {H : Hp} {o : HO} (h : rm D H b = some o) : b ≠ D ∧ H b = some o := by
  unfold rm at h
  split at h
  · cases h
  · rename_i n
    exact ⟨n, h⟩
theorem same_up {H H' : Hp} {a : Addr} {o : HO} (n : H a = none) (s : Same H H') : Same H (upd H' a o) := fun b ob e => by
  rw [upd_ne (ne_of_none e n)]
  exact s _ _ e
theorem w_iZip {K : PySem.W.Frag} {ta : TA} {σ : L2.St} {H : Hp} {R : It → Hp → Prop} (q : ta σ H fun vs H1 => ∃ a b xs ys, vs = [.ref a, .ref b] ∧ SqL K H1 a xs ∧ SqL K H1 b ys ∧ R (Itz K a b) H1) : iZip K ta σ H R := q
theorem lock_same {H : Hp} {d : Addr} {o : HO} : Same (rm d H) (upd H d o) := fun b ob e => by
  obtain ⟨n, e⟩ := rm_some' e
  rw [upd_ne n]
  exact e
theorem unlock_same {H H6 : Hp} {d : Addr} {o u : HO} (h : H d = some u) (s : Same (upd H d o) H6) : Same H (upd H6 d u) := fun b ob e => by
  by_cases c : b = d
  · subst c
    rw [upd_same, ← e, h]
  · rw [upd_ne c]
    exact s _ _ (by rw [upd_ne c]; exact e)
theorem rm_ins {H : Hp} {d b : Addr} {u : HO} {C dx : Addr} {fs : List (Str × V)} (hd : H d = some u) (n : ∀ C dx fs, u ≠ .ins C dx fs) (h : H b = some (.ins C dx fs)) : rm d H b = some (.ins C dx fs) := rm_of (fun e => by rw [e, hd] at h; exact n _ _ _ (Option.some.inj h)) h
theorem rm_lst {H : Hp} {d b : Addr} {u : HO} {xs : List V} (hd : H d = some u) (n : ∀ xs, u ≠ .lst xs) (h : H b = some (.lst xs)) : rm d H b = some (.lst xs) := rm_of (fun e => by rw [e, hd] at h; exact n _ (Option.some.inj h)) h
noncomputable def DtP (H : Hp) (d : Addr) (P : List Int → Prop) : Prop := ∃ ks : List (List Int), H d = some (.dT (ks.map fun k => (kk k, V.bl true))) ∧ ks.Nodup ∧ ∀ k, k ∈ ks ↔ P k
theorem DtP.same {H H' : Hp} {d : Addr} {P : List Int → Prop} (h : DtP H d P) (s : Same H H') : DtP H' d P := by
  obtain ⟨ks, h1, h2, h3⟩ := h
  exact ⟨ks, s _ _ h1, h2, h3⟩
/-- a list of dicts, the i-th of the sums that Pf i tells -/
noncomputable def DLs (H : Hp) (l : Addr) (n : Nat) (Pf : Nat → List Int → Prop) : Prop := ∃ ds : List Addr, H l = some (.lst (ds.map V.ref)) ∧ ds.length = n ∧ ∀ (i : Nat) (d : Addr), ds[i]? = some d → DtP H d (Pf i)
theorem DLs.same {H H' : Hp} {l : Addr} {n : Nat} {Pf : Nat → List Int → Prop} (h : DLs H l n Pf) (s : Same H H') : DLs H' l n Pf := by
  obtain ⟨ds, h1, h2, h3⟩ := h
  exact ⟨ds, s _ _ h1, h2, fun i d e => (h3 i d e).same s⟩
/-- a list of lists of numbers, some of them perhaps the same list -/
noncomputable def LLq (H : Hp) (l : Addr) (gs : List (List Int)) : Prop := ∃ rs : List Addr, H l = some (.lst (rs.map V.ref)) ∧ Paired (fun g r => H r = some (.lst (g.map V.int))) gs rs
theorem LLq.same {H H' : Hp} {l : Addr} {gs : List (List Int)} (h : LLq H l gs) (s : Same H H') : LLq H' l gs := by
  obtain ⟨rs, h1, h2⟩ := h
  exact ⟨rs, s _ _ h1, paired_imp (fun _ _ z => s _ _ z) h2⟩
theorem TLq.same {H H' : Hp} {l : Addr} {gs : List (List Int)} (h : TLq H l gs) (s : Same H H') : TLq H' l gs := by
  obtain ⟨rs, h1, h2⟩ := h
  exact ⟨rs, s _ _ h1, paired_imp (fun _ _ z => s _ _ z) h2⟩
theorem DtP.len {H : Hp} {d : Addr} {Pr : List Int → Prop} {bs : List Int} {N : Int} {M : Nat} {ks : List (List Int)} (hn : ks.Nodup) (h : ∀ k, k ∈ ks ↔ Pr k) (hf : Few bs N M) (hP : ∀ k, Pr k → k.length = bs.length ∧ ∀ x ∈ k, 0 ≤ x ∧ x < N) : ks.length ≤ M :=
  hf ks hn fun k hk => hP k ((h k).mp hk)
theorem Beh.ok {bs : List Int} {N : Int} {ws : List (Int → Int)} {gs : List (List Int)} {k : List Int} (hN : 0 < N) (h : Beh bs N ws gs k) : k.length = bs.length ∧ ∀ x ∈ k, 0 ≤ x ∧ x < N := by
  obtain ⟨ss, _, rfl⟩ := h
  exact ⟨vecF_len, vecF_rng hN⟩
theorem Unl.ok {bs : List Int} {N : Int} {ws : List (Int → Int)} {gs : List (List Int)} {k : List Int} (hN : 0 < N) (h : Unl bs N ws gs k) : k.length = bs.length ∧ ∀ x ∈ k, 0 ≤ x ∧ x < N := by
  obtain ⟨ss, _, _, rfl⟩ := h
  exact ⟨vecF_len, vecF_rng hN⟩
/-- the weight of a place -/
noncomputable def pwF (N : Int) (e : Nat) : Int → Int := fun b => b ^ e % N
/-- the weights of the places of a text -/
noncomputable def wsL (N : Int) (lw : Bool) (n : Nat) : List (Int → Int) := if lw then (List.range n).map (pwF N) else ((List.range n).map (pwF N)).reverse
theorem wsL_len {N : Int} {lw : Bool} {n : Nat} : (wsL N lw n).length = n := by
  unfold wsL
  split
  · rw [List.length_map, List.length_range]
  · rw [List.length_reverse, List.length_map, List.length_range]
/-- a state -/
noncomputable def StAt (H : Hp) (x : List Int × Bool) (p : Addr) : Prop := ∃ q, H p = some (.tup [.ref q, .bl x.2]) ∧ H q = some (.tup (x.1.map V.int))
theorem StAt.same {H H' : Hp} {x : List Int × Bool} {p : Addr} (h : StAt H x p) (s : Same H H') : StAt H' x p := by
  obtain ⟨q, h1, h2⟩ := h
  exact ⟨q, s _ _ h1, s _ _ h2⟩
/-- a list of states -/
noncomputable def STl (H : Hp) (l : Addr) (xs : List (List Int × Bool)) : Prop := ∃ ps : List Addr, H l = some (.lst (ps.map V.ref)) ∧ Paired (StAt H) xs ps
theorem STl.same {H H' : Hp} {l : Addr} {xs : List (List Int × Bool)} (h : STl H l xs) (s : Same H H') : STl H' l xs := by
  obtain ⟨ps, h1, h2⟩ := h
  exact ⟨ps, s _ _ h1, paired_imp (fun _ _ z => StAt.same z s) h2⟩
/-- a state as a key -/
noncomputable def nkS (x : List Int × Bool) : NK := .tup [.tup (x.1.map fun i => .num i), .num (if x.2 = true then 1 else 0)]
/-- the dict of the next states -/
noncomputable def NdSt (P : Program) (w : World) (H : Hp) (d : Addr) (xs : List (List Int × Bool)) : Prop := ∃ kvs : List NE, ND P w H d kvs ∧ Paired (fun x e => e.1 = nkS x ∧ StAt H x e.2.1 ∧ e.2.2 = .bl true) xs kvs
theorem NdSt.same {P : Program} {w : World} {H H' : Hp} {d : Addr} {xs : List (List Int × Bool)} (h : NdSt P w H d xs) (s : Same H H') : NdSt P w H' d xs := by
  obtain ⟨kvs, h1, h2⟩ := h
  exact ⟨kvs, h1.same s, paired_imp (fun _ _ z => ⟨z.1, z.2.1.same s, z.2.2⟩) h2⟩
end Bc
namespace Bc
open PySem PySem.Spec PyProof.Rows L2
theorem at_idx {xs : List V} {x : V} {i : Int} {n : Nat} (h : xs[n]? = some x) (hi : i = (n : Int)) : atI xs i = some x := by
  subst hi
  have hl := (List.getElem?_eq_some_iff.mp h).1
  unfold atI ixN
  rw [if_pos (by omega), if_pos (by omega), Int.toNat_natCast]
  exact h
theorem w_iRng3 {as : TA} {σ : L2.St} {H : Hp} {R : It → Hp → Prop} (q : as σ H fun vs H1 => ∃ (i j c : Int) (n : Nat), vs = [.int i, .int j, .int c] ∧ RgC i j c n ∧ R (Itc i c n) H1) : iRng3 as σ H R := q
end Bc
namespace Bc
open PySem PySem.Spec PyProof.Rows L2
noncomputable def rNeE (K : PySem.W.Frag) : R2 := fun x y H Q => ∃ p q xs, x = .ref p ∧ y = .ref q ∧ SqL K H p xs ∧ SqL K H q [] ∧ Q (.bl (!xs.isEmpty)) H
section
variable {X : Cx} {pins : List (Addr × Obj)} {σ : L2.St} {H : Hp} {s : Shared}
theorem op_neE (hu : X.A.units + 64 < cLine) : OpR X (compareOp .NotEq) (rNeE X.K) := by
  intro pins s σ H x y v u Q I rx ry h
  obtain ⟨p, q, xs, rfl, rfl, hx, hy, k⟩ := h
  cases rx
  cases ry
  cases xs with
  | nil => exact rcn_lists (F := fun _ _ => False) I hx hy .nil (by omega) (fun _ _ _ _ h _ _ => h.elim) X.prog X.w _ _ ⟨.bl false, H, I, rfl, k⟩
  | cons z zs =>
    obtain ⟨is, r1, ⟨o1, n1, e1, c1, _, d1⟩, _⟩ := I.list hx
    obtain ⟨js, r2, ⟨o2, n2, e2, c2, _, d2⟩, _⟩ := I.list hy
    have l1 := r1.length
    have l2 := r2.length
    exact PySem.SeqAt.RcNeAt.lists_lengths ⟨o1, e1, c1, n1, d1⟩ ⟨o2, e2, c2, n2, d2⟩ (by simp only [List.size_toArray, List.length_cons, List.length_nil] at *; simp; omega) (by omega) X.prog X.w _ _ ⟨.bl true, H, I, rfl, k⟩
end
theorem w_neE {K : PySem.W.Frag} {H : Hp} {p q : Addr} {xs : List V} {Q : VK} (h1 : SqL K H p xs) (h2 : SqL K H q []) (k : Q (.bl (!xs.isEmpty)) H) : rNeE K (.ref p) (.ref q) H Q := ⟨p, q, xs, rfl, rfl, h1, h2, k⟩
theorem StAt.inj {H : Hp} {x y : List Int × Bool} {p : Addr} (h : StAt H x p) (k : StAt H y p) : x = y := by
  obtain ⟨q, h1, h2⟩ := h
  obtain ⟨q', k1, k2⟩ := k
  rw [h1] at k1
  have e := HO.tup.inj (Option.some.inj k1)
  injection e with e1 e2
  injection e1 with e1
  injection e2 with e2 _
  injection e2 with e2
  subst e1
  rw [h2] at k2
  exact Prod.ext (ints_inj (HO.tup.inj (Option.some.inj k2))) e2
end Bc
namespace Bc
open PySem PySem.Spec PyProof.Rows L2
theorem SP.ok {bs : List Int} {N : Int} {A : Nat} {pw : List (Int → Int)} {p : List Int} {x : List Int × Bool} (hN : 0 < N) (h : SP bs N A pw p x) : x.1.length = bs.length ∧ ∀ z ∈ x.1, 0 ≤ z ∧ z < N := by
  obtain ⟨q, _, _, rfl⟩ := h
  exact ⟨vecF_len, vecF_rng hN⟩
theorem Nxt.ok {bs : List Int} {N : Int} {A : Nat} {f : Int → Int} {l : Int} {S : List Int × Bool → Prop} {x : List Int × Bool} (hN : 0 < N) (hS : ∀ y, S y → y.1.length = bs.length) (h : Nxt bs N A f l S x) : x.1.length = bs.length ∧ ∀ z ∈ x.1, 0 ≤ z ∧ z < N := by
  obtain ⟨y, hy, o, _, rfl⟩ := h
  refine ⟨?_, fun z hz => ?_⟩
  · show (mvV N y.1 (wtV bs f) (o - l)).length = _
    unfold mvV wtV
    rw [List.length_zipWith, hS y hy, List.length_map, Nat.min_self]
  · have hz : z ∈ mvV N y.1 (wtV bs f) (o - l) := hz
    unfold mvV at hz
    obtain ⟨i, hi, rfl⟩ := List.getElem_of_mem hz
    rw [List.getElem_zipWith]
    exact ⟨Int.emod_nonneg _ (by omega), Int.emod_lt_of_pos _ hN⟩
end Bc
namespace Bc
open PySem PySem.Spec PyProof.Rows L2
noncomputable def extT (A : Nat) (t : List Int) : List (List Int) := (List.range A).map fun l : Nat => t ++ [(l : Int)]
theorem flat_len {α β : Type} {f : α → List β} {k : Nat} : ∀ l : List α, (∀ x, (f x).length = k) → (l.flatMap f).length = l.length * k
  | [], _ => by simp
  | x :: l, h => by
    rw [List.flatMap_cons, List.length_append, h, flat_len l h, List.length_cons, Nat.succ_mul, Nat.add_comm]
theorem extT_len (A : Nat) (t : List Int) : (extT A t).length = A := by
  unfold extT
  rw [List.length_map, List.length_range]
noncomputable def dTu (ls : List Int) : PyData := .tuple (ls.map PyData.int)
noncomputable def kvM (js : List Nat) (ad : Nat → Addr) : List (Key × V) := js.map fun j : Nat => ((.inl (j : Int) : Key), V.ref (ad j))
structure GvD (H0 H : Hp) (d : Addr) (P : Nat → List V) (js : List Nat) (ad : Nat → Addr) : Prop where
  same : Same H0 H
  dn : H0 d = none
  at_ : H d = some (.dK (kvM js ad))
  nd : js.Nodup
  l : ∀ j ∈ js, H (ad j) = some (.lst (P j))
  ln : ∀ j ∈ js, H0 (ad j) = none
  inj : ∀ i ∈ js, ∀ j ∈ js, ad i = ad j → i = j
  no : ∀ j, j ∉ js → P j = []
theorem GvD.mono {H0 H H' : Hp} {d : Addr} {P : Nat → List V} {js : List Nat} {ad : Nat → Addr} (L : GvD H0 H d P js ad) (s : Same H H') : GvD H0 H' d P js ad :=
  ⟨L.same.trans s, L.dn, s _ _ L.at_, L.nd, fun j h => s _ _ (L.l j h), L.ln, L.inj, L.no⟩
theorem GvD.dne {H0 H : Hp} {d : Addr} {P : Nat → List V} {js : List Nat} {ad : Nat → Addr} (L : GvD H0 H d P js ad) {j : Nat} (h : j ∈ js) : ad j ≠ d := fun e => by
  have h1 := L.l j h
  rw [e, L.at_] at h1
  cases h1
theorem kvM_val (ad : Nat → Addr) (j : Nat) : ∀ js : List Nat, valV (kvM js ad) (.inl (j : Int)) = if j ∈ js then some (.ref (ad j)) else none
  | [] => rfl
  | i :: js => by
    have ih := kvM_val ad j js
    by_cases e : i = j
    · subst e
      rw [if_pos (List.mem_cons_self ..)]
      exact valV_pos rfl
    · rw [show kvM (i :: js) ad = ((.inl (i : Int) : Key), V.ref (ad i)) :: kvM js ad from rfl, valV_neg (show ¬ (Sum.inl (i : Int) : Key) = .inl (j : Int) from fun z => e (by have := Sum.inl.inj z; omega)), ih]
      by_cases hj : j ∈ js
      · rw [if_pos hj, if_pos (List.mem_cons_of_mem _ hj)]
      · rw [if_neg hj, if_neg (fun z => (List.mem_cons.mp z).elim (fun z => e z.symm) hj)]
noncomputable def addM (P : Nat → List V) (j : Nat) (v : V) : Nat → List V := fun i => if i = j then P j ++ [v] else P i
noncomputable def AddM (H0 : Hp) (d : Addr) (P : Nat → List V) (js : List Nat) (j : Nat) (v : V) (Q : VK) : Prop :=
  ∀ (H' : Hp) (js' : List Nat) (ad' : Nat → Addr), (∀ i, i ∈ js' ↔ i ∈ js ∨ i = j) → GvD H0 H' d (addM P j v) js' ad' → Q .non H'
theorem GvD.add {H0 H : Hp} {d e : Addr} {P : Nat → List V} {js : List Nat} {ad : Nat → Addr} (L : GvD H0 H d P js ad) (j : Nat) (r : V) (he : H e = some (.lst [])) (h0 : H0 e = none) (hne : ∀ i ∈ js, ad i ≠ e) (hz : (P j).length < sizeLine) :
    (∀ v, valV (kvM js ad) (.inl (j : Int)) = some v → ∃ a xs, v = .ref a ∧ H a = some (.lst xs) ∧ ∀ Q, AddM H0 d P js j r Q → rAppend (.ref a) [r] H Q) ∧ (valV (kvM js ad) (.inl (j : Int)) = none → ∃ xs, L2.upd H d (.dK (putK (kvM js ad) (.inl (j : Int)) (.ref e))) e = some (.lst xs) ∧ ∀ Q, AddM H0 d P js j r Q → rAppend (.ref e) [r] (L2.upd H d (.dK (putK (kvM js ad) (.inl (j : Int)) (.ref e)))) Q) := by
  rw [kvM_val]
  constructor
  · intro v hv
    by_cases hj : j ∈ js
    · rw [if_pos hj] at hv
      cases hv
      have hl := L.l j hj
      refine ⟨ad j, _, rfl, hl, fun Q q => ?_⟩
      refine w_append hl hz (q _ js ad (fun i => ⟨.inl, fun z => z.elim id fun z => by rw [z]; exact hj⟩) ?_)
      have hd := L.dne hj
      refine ⟨fun c o' e => ?_, L.dn, (upd_ne hd.symm).trans L.at_, L.nd, fun i hi => ?_, L.ln, L.inj, fun i hi => ?_⟩
      · rw [upd_ne (fun z => by rw [z, L.ln j hj] at e; cases e)]
        exact L.same _ _ e
      · unfold addM
        by_cases z : i = j
        · subst z
          rw [if_pos rfl, L2.upd_same]
        · rw [if_neg z, upd_ne (fun y => z (L.inj i hi j hj y))]
          exact L.l i hi
      · unfold addM
        rw [if_neg (fun z => hi (by rw [z]; exact hj))]
        exact L.no i hi
    · rw [if_neg hj] at hv
      cases hv
  · intro hv
    by_cases hj : j ∈ js
    · rw [if_pos hj] at hv
      cases hv
    · have hk : valV (kvM js ad) (.inl (j : Int)) = none := by rw [kvM_val, if_neg hj]
      have hed : e ≠ d := fun z => by
        rw [z, L.at_] at he
        cases he
      have he2 : L2.upd H d (.dK (putK (kvM js ad) (.inl (j : Int)) (.ref e))) e = some (.lst []) := (upd_ne hed).trans he
      have hlt : ∀ i ∈ js, i ≠ j := fun i hi z => hj (by rw [← z]; exact hi)
      refine ⟨_, he2, fun Q q => ?_⟩
      refine w_append he2 (by decide) (q _ (js ++ [j]) (fun i => if i = j then e else ad i) (fun i => by simp) ?_)
      have ekv : kvM (js ++ [j]) (fun i => if i = j then e else ad i) = kvM js ad ++ [((.inl (j : Int) : Key), V.ref e)] := by
        unfold kvM
        rw [List.map_append]
        congr 1
        · refine List.map_congr_left fun i hi => ?_
          show ((Sum.inl (i : Int) : Key), V.ref (if i = j then e else ad i)) = _
          rw [if_neg (hlt i hi)]
        · show [((Sum.inl (j : Int) : Key), V.ref (if j = j then e else ad j))] = _
          rw [if_pos rfl]
      refine ⟨fun c o' e' => ?_, L.dn, ?_, ?_, fun i hi => ?_, fun i hi => ?_, fun i hi i' hi' hh => ?_, fun i hi => ?_⟩
      · rw [upd_ne (fun z => by rw [z, h0] at e'; cases e'), upd_ne (fun z => by rw [z, L.dn] at e'; cases e')]
        exact L.same _ _ e'
      · rw [upd_ne hed.symm, L2.upd_same, ekv, putK_new _ hk]
      · rw [List.nodup_append]
        exact ⟨L.nd, by simp, fun a ha b hb => by rw [List.mem_singleton.mp hb]; exact hlt a ha⟩
      · show L2.upd _ e _ (if i = j then e else ad i) = some (.lst (addM P j r i))
        unfold addM
        by_cases z : i = j
        · rw [if_pos z, if_pos z, L2.upd_same, L.no j hj]
        · have hi : i ∈ js := (List.mem_append.mp hi).elim id fun h => absurd (List.mem_singleton.mp h) z
          rw [if_neg z, if_neg z, upd_ne (hne i hi), upd_ne (L.dne hi)]
          exact L.l i hi
      · show H0 (if i = j then e else ad i) = none
        by_cases z : i = j
        · rw [if_pos z]
          exact h0
        · rw [if_neg z]
          exact L.ln i ((List.mem_append.mp hi).elim id fun h => absurd (List.mem_singleton.mp h) z)
      · have hh : (if i = j then e else ad i) = (if i' = j then e else ad i') := hh
        have mem : ∀ {i : Nat}, i ∈ js ++ [j] → i ≠ j → i ∈ js := fun h z => (List.mem_append.mp h).elim id fun h => absurd (List.mem_singleton.mp h) z
        by_cases z : i = j
        · by_cases z' : i' = j
          · rw [z, z']
          · rw [if_pos z, if_neg z'] at hh
            exact absurd hh.symm (hne i' (mem hi' z'))
        · by_cases z' : i' = j
          · rw [if_neg z, if_pos z'] at hh
            exact absurd hh (hne i (mem hi z))
          · rw [if_neg z, if_neg z'] at hh
            exact L.inj i (mem hi z) i' (mem hi' z') hh
      · unfold addM
        rw [List.mem_append] at hi
        rw [if_neg (fun z => hi (.inr (by rw [z]; exact List.mem_singleton.mpr rfl)))]
        exact L.no i fun z => hi (.inl z)
theorem GvD.len {H0 H : Hp} {d : Addr} {P : Nat → List V} {js : List Nat} {ad : Nat → Addr} (L : GvD H0 H d P js ad) {J : Nat} (h : ∀ j ∈ js, j < J) : (kvM js ad).length ≤ J := by
  unfold kvM
  rw [List.length_map]
  have nd_le : ∀ {l m : List Nat}, l.Nodup → (∀ x ∈ l, x ∈ m) → l.length ≤ m.length := fun {l m} hn hs => by
    induction l generalizing m with
    | nil => exact Nat.zero_le _
    | cons x r ih =>
      obtain ⟨h1, h2⟩ := List.nodup_cons.mp hn
      have hx : x ∈ m := hs x List.mem_cons_self
      have := ih (m := m.erase x) h2 fun y hy => (List.mem_erase_of_ne (fun e : y = x => h1 (by rw [← e]; exact hy))).2 (hs y (List.mem_cons_of_mem _ hy))
      have e := List.length_erase_of_mem hx
      have hp : 0 < m.length := List.length_pos_of_mem hx
      rw [List.length_cons]
      omega
  have := nd_le (m := List.range J) L.nd fun j hj => List.mem_range.mpr (h j hj)
  rwa [List.length_range] at this
theorem u66 {k : Nat} {A : Around} (r : Room k A) : A.units + 1 < cLine := by
  have := r.un
  omega
theorem w_dget2 {td ty tx : TE} {σ : L2.St} {H : Hp} {Q : VK} (q : td σ H fun x H1 => ∃ a, x = .ref a ∧ IsD H1 a ∧ ty σ H1 fun y H2 => tx σ H2 fun z H3 => ∃ o, DGet H3 a y o ∧ Q (o.getD z) H3) : tDGet2 td ty tx σ H Q := q
theorem w_catA {K : PySem.W.Frag} {H : Hp} {a b : Addr} {xs ys : List V} {Q : VK} (ha : H a = some (.tup xs)) (hb : H b = some (.tup ys)) (l : xs.length + ys.length ≤ sizeLine) (q : ∀ p H', Same H H' → H' p = some (.tup (xs ++ ys)) → atV Q (.ref p) H') : rCatA K (.ref a) (.ref b) H Q := by
  refine ⟨a, b, xs, ys, rfl, rfl, sqt ha, sqt hb, l, fun e => q b H (Same.refl _) (by rw [e]; exact hb), fun _ e => q a H (Same.refl _) (by rw [e, List.append_nil]; exact ha), fun _ _ p n => q p _ (Same.new n) L2.upd_same⟩
theorem pow_le1 {A i n : Nat} (h : 1 ≤ A) (e : i ≤ n) : A ^ i ≤ A ^ n := Nat.pow_le_pow_right h e
theorem txsL_len (A : Nat) : ∀ n, (txsL A n).length = A ^ n
  | 0 => rfl
  | n + 1 => by
    show ((txsL A n).flatMap (extT A)).length = _
    rw [flat_len _ (extT_len A), txsL_len A n, Nat.pow_succ]
noncomputable def spTexts52 : Sp := fun vs H Q _ => ∃ (A : Int) (n : Nat), vs = [.int A, .int n] ∧ 1 ≤ A ∧ A.toNat ^ n ≤ 5000 ∧ n ≤ 1000 ∧ ∀ H' l, Same H H' → TLq H' l (txsL A.toNat n) → Q (.ref l) H'
end Bc
namespace Bc
open PySem PySem.Spec PyProof.Rows L2
section
variable {b N : Int}
theorem mod_cong (hN : N ∣ N) {x y : Int} (h : N ∣ x - y) : x % N = y % N := by
  rw [Int.emod_eq_emod_iff_emod_sub_eq_zero]
  exact Int.emod_eq_zero_of_dvd h
theorem hv_snoc (l : List Int) (x : Int) : hv (l ++ [x]) b = hv l b * b + x := by
  unfold hv
  rw [List.foldl_append]
  rfl
/-- the weights b^k, b^(k+1), .. -/
theorem SF_pow : ∀ (ss : List Int) (k : Nat), N ∣ SF ((List.range' k ss.length).map (pwF N)) ss b - b ^ k * hv ss.reverse b
  | [], k => by
    show N ∣ 0 - b ^ k * 0
    rw [Int.mul_zero]
    exact ⟨0, by omega⟩
  | s :: ss, k => by
    rw [List.length_cons, List.range'_succ, List.map_cons, List.reverse_cons, hv_snoc]
    show N ∣ (s * (b ^ k % N) + SF ((List.range' (k + 1) ss.length).map (pwF N)) ss b) - b ^ k * (hv ss.reverse b * b + s)
    obtain ⟨c, hc⟩ := SF_pow ss (k + 1)
    refine ⟨c - s * (b ^ k / N), ?_⟩
    have e := Int.mul_ediv_add_emod (b ^ k) N
    have e2 : b ^ (k + 1) = b ^ k * b := Int.pow_succ ..
    rw [e2] at hc
    have e3 : b ^ k % N = b ^ k - N * (b ^ k / N) := by omega
    rw [e3, Int.mul_sub, Int.mul_sub, ← hc]
    grind
theorem SF_rev : ∀ {ws : List (Int → Int)} {ss : List Int}, ws.length = ss.length → SF ws.reverse ss.reverse b = SF ws ss b
  | [], [], _ => rfl
  | [], _ :: _, h => by simp at h
  | _ :: _, [], h => by simp at h
  | w :: ws, s :: ss, h => by
    have hl : ws.length = ss.length := by simpa using h
    rw [List.reverse_cons, List.reverse_cons, SF_app (by rw [List.length_reverse, List.length_reverse, hl]), SF_rev hl]
    show SF ws ss b + (s * w b + 0) = s * w b + SF ws ss b
    omega
noncomputable def hvD (lw : Bool) (b : Int) (l : List Int) : Int := hv (if lw = true then l.reverse else l) b
theorem SF_hvD {lw : Bool} {n : Nat} {ss : List Int} (h : ss.length = n) : N ∣ SF (wsL N lw n) ss b - hvD lw b ss := by
  subst h
  have key : ∀ ss : List Int, N ∣ SF ((List.range ss.length).map (pwF N)) ss b - hv ss.reverse b := fun ss => by
    have := SF_pow (b := b) (N := N) ss 0
    rw [Int.pow_zero, Int.one_mul, ← List.range_eq_range'] at this
    exact this
  unfold wsL hvD
  cases lw with
  | true =>
    rw [if_pos rfl, if_pos rfl]
    exact key ss
  | false =>
    rw [if_neg (by decide), if_neg (by decide)]
    have := key ss.reverse
    rw [List.reverse_reverse, List.length_reverse] at this
    have e : SF ((List.range ss.length).map (pwF N)).reverse ss b = SF ((List.range ss.length).map (pwF N)) ss.reverse b := by
      have := SF_rev (b := b) (ws := (List.range ss.length).map (pwF N)) (ss := ss.reverse) (by rw [List.length_map, List.length_range, List.length_reverse])
      rw [List.reverse_reverse] at this
      exact this
    rw [e]
    exact this
theorem sbv_rev {q p : List Int} (h : q.length = p.length) : (sbv q p).reverse = sbv q.reverse p.reverse := by
  unfold sbv
  rw [List.reverse_zipWith h]
theorem hvD_sub {lw : Bool} {q p : List Int} (h : q.length = p.length) : hvD lw b (sbv q p) = hvD lw b q - hvD lw b p := by
  unfold hvD
  cases lw with
  | true =>
    rw [if_pos rfl, if_pos rfl, if_pos rfl, sbv_rev h]
    exact hv_zsub (by rw [List.length_reverse, List.length_reverse, h])
  | false =>
    rw [if_neg (by decide), if_neg (by decide), if_neg (by decide)]
    exact hv_zsub h
theorem Agr_hvD {lw : Bool} {n : Nat} {q p : List Int} (hq : q.length = n) (hp : p.length = n) : Agr [b] N (wsL N lw n) q p ↔ hvD lw b q % N = hvD lw b p % N := by
  have hl : q.length = p.length := by omega
  have h1 := SF_hvD (b := b) (N := N) (lw := lw) (n := n) (ss := sbv q p) (by rw [sbv_len hl, hp])
  rw [hvD_sub hl] at h1
  have h2 : SF (wsL N lw n) (sbv q p) b % N = (hvD lw b q - hvD lw b p) % N := mod_cong ⟨1, by omega⟩ h1
  unfold Agr
  constructor
  · intro h
    have := h b (List.mem_singleton.mpr rfl)
    rw [h2] at this
    exact Int.emod_eq_emod_iff_emod_sub_eq_zero.mpr this
  · intro h c hc
    rw [List.mem_singleton.mp hc, h2]
    exact Int.emod_eq_emod_iff_emod_sub_eq_zero.mp h
theorem mark_hvD {y : Sty} {q p : List Int} (h : q.length = p.length) : mark y b N q = mark y b N p ↔ hvD y.low b q % N = hvD y.low b p % N := by
  rw [mark_hv, mark_hv, h]
  unfold hvD
  refine Iff.trans Int.emod_eq_emod_iff_emod_sub_eq_zero (Iff.trans ?_ Int.emod_eq_emod_iff_emod_sub_eq_zero.symm)
  rw [show ((if y.lead then 1 else 0) * b ^ p.length + hv (if y.low = true then q.reverse else q) b + y.shift * geo b p.length) - ((if y.lead then 1 else 0) * b ^ p.length + hv (if y.low = true then p.reverse else p) b + y.shift * geo b p.length) = hv (if y.low = true then q.reverse else q) b - hv (if y.low = true then p.reverse else p) b by omega]
theorem two_ofW {A : Nat} (hA : 1 ≤ A) : ∀ ds : List Int, (∀ x ∈ ds, -(A : Int) < x ∧ x < A) → ∃ u q : List Int, u.length = ds.length ∧ q.length = ds.length ∧ Ltr A u ∧ Ltr A q ∧ sbv q u = ds
  | [], _ => ⟨[], [], rfl, rfl, fun _ h => (nomatch h), fun _ h => (nomatch h), rfl⟩
  | d :: ds, h => by
    obtain ⟨u, q, h1, h2, h3, h4, h5⟩ := two_ofW hA ds fun x hx => h x (List.mem_cons_of_mem _ hx)
    have hd := h d List.mem_cons_self
    refine ⟨(if d < 0 then -d else 0) :: u, (if d < 0 then 0 else d) :: q, by simp [h1], by simp [h2], fun x hx => ?_, fun x hx => ?_, ?_⟩
    · rcases List.mem_cons.mp hx with e | e
      · rw [e]
        split <;> omega
      · exact h3 x e
    · rcases List.mem_cons.mp hx with e | e
      · rw [e]
        split <;> omega
      · exact h4 x e
    · show ((if d < 0 then 0 else d) - (if d < 0 then -d else 0)) :: sbv q u = d :: ds
      rw [h5]
      congr 1
      split <;> omega
theorem Sms_row {A : Nat} : ∀ {m : Nat} {k : List Int}, Sms [b] N A m k → ∃ ds : List Int, ds.length = m ∧ (∀ x ∈ ds, -(A : Int) < x ∧ x < A) ∧ (∃ x ∈ ds, x ≠ 0) ∧ k = [hv ds b % N]
  | 0, _, h => h.elim
  | 1, _, h => by
    obtain ⟨s, h0, h1, h2, rfl⟩ := h
    refine ⟨[s], rfl, fun x hx => ?_, ⟨s, List.mem_singleton.mpr rfl, h0⟩, ?_⟩
    · rw [List.mem_singleton.mp hx]
      exact ⟨h1, h2⟩
    · show [(0 * b + s) % N] = [(0 * b + s) % N]
      rfl
  | m + 2, _, h => by
    obtain ⟨k', h', s, h1, h2, rfl⟩ := h
    obtain ⟨ds, l1, l2, ⟨z, hz, z0⟩, rfl⟩ := Sms_row h'
    refine ⟨ds ++ [s], by rw [List.length_append, l1]; rfl, fun x hx => ?_, ⟨z, List.mem_append_left _ hz, z0⟩, ?_⟩
    · rcases List.mem_append.mp hx with e | e
      · exact l2 x e
      · rw [List.mem_singleton.mp e]
        exact ⟨h1, h2⟩
    · rw [hv_snoc]
      show [(hv ds b % N * b + s) % N] = [(hv ds b * b + s) % N]
      congr 1
      rw [Int.add_emod, Int.mul_emod, Int.emod_emod_of_dvd _ ⟨1, by omega⟩, ← Int.mul_emod, ← Int.add_emod]
/-- two unlike texts of a length with one mark -/
noncomputable def Clash (b N : Int) (A : Nat) (lw : Bool) (n : Nat) : Prop := ∃ u q : List Int, u.length = n ∧ q.length = n ∧ Ltr A u ∧ Ltr A q ∧ q ≠ u ∧ hvD lw b q % N = hvD lw b u % N
theorem Clash.of_Sms {A n : Nat} {lw : Bool} (hA : 1 ≤ A) (h : Sms [b] N A n (zr [b])) : Clash b N A lw n := by
  obtain ⟨ds, l1, l2, ⟨z, hz, z0⟩, e⟩ := Sms_row h
  have e : hv ds b % N = 0 := ((List.cons.inj e).1).symm
  have l1' : (if lw = true then ds.reverse else ds).length = n := by
    split
    · rw [List.length_reverse, l1]
    · exact l1
  have l2' : ∀ x ∈ (if lw = true then ds.reverse else ds), -(A : Int) < x ∧ x < A := fun x hx => by
    split at hx
    · exact l2 x (List.mem_reverse.mp hx)
    · exact l2 x hx
  obtain ⟨u, q, h1, h2, h3, h4, h5⟩ := two_ofW hA _ l2'
  have hl : q.length = u.length := by omega
  refine ⟨u, q, by omega, by omega, h3, h4, fun e1 => ?_, ?_⟩
  · have := (sbv_ne hl).mp ⟨z, by
      rw [h5]
      split
      · exact List.mem_reverse.mpr hz
      · exact hz, z0⟩
    exact this e1
  · rw [Int.emod_eq_emod_iff_emod_sub_eq_zero, ← hvD_sub hl, h5]
    unfold hvD
    have : (if lw = true then (if lw = true then ds.reverse else ds).reverse else (if lw = true then ds.reverse else ds)) = ds := by
      cases lw
      · rfl
      · exact List.reverse_reverse ds
    rw [this]
    exact e
theorem LeastS.gd {A m : Nat} {lw : Bool} (hA : 1 ≤ A) (h : LeastS [b] N A m) : GdT [b] N A [] (wsL N lw m) [] := by
  obtain ⟨u, q, h1, h2, h3, h4, h5, h6⟩ := Clash.of_Sms (lw := lw) hA h.hit
  exact GdT_take (pw := []) (p := []) (s := u) (q' := []) (s' := q) rfl (by rw [wsL_len, h1]) (by rw [wsL_len, h2]) rfl h3 h4 h5 ((Agr_hvD h2 h1).mpr h6)
end
end Bc
namespace Bc
open PySem PySem.Spec PyProof.Rows L2
/-- two pairs of texts -/
theorem w_nePP {K : PySem.W.Frag} {H : Hp} {a b p1 p2 q1 q2 : Addr} {t u : List Int} {Q : VK} (ha : H a = some (.tup [.ref p1, .ref p2])) (hb : H b = some (.tup [.ref q1, .ref q2])) (h1 : H p1 = some (.tup (t.map V.int))) (h2 : H p2 = some (.tup (u.map V.int))) (h3 : H q1 = some (.tup (t.map V.int))) (h4 : H q2 = some (.tup (u.map V.int))) (q : Q (.bl false) H) : rNeD K (.ref a) (.ref b) H Q := by
  have sh : SeqAt.shaped (.tuple [dTu t, dTu u]) = true := by
    unfold SeqAt.shaped dTu
    rw [PyData.canLay0, PyData.canLayAll0, PyData.canLayAll0, PyData.canLayAll0, PyData.canLay0, PyData.canLay0, lay_ints, lay_ints, PyData.depth, PyData.depthAll, PyData.depthAll, PyData.depthAll, PyData.depth, PyData.depth, depth_ints, depth_ints]
    rfl
  refine ⟨.tuple [dTu t, dTu u], .tuple [dTu t, dTu u], .tup (sqt ha) (.cons (.tup (sqt h1) (dp_ints _)) (.cons (.tup (sqt h2) (dp_ints _)) .nil)), .tup (sqt hb) (.cons (.tup (sqt h3) (dp_ints _)) (.cons (.tup (sqt h4) (dp_ints _)) .nil)), sh, sh, ?_⟩
  rw [show PyData.eqv (.tuple [dTu t, dTu u]) (.tuple [dTu t, dTu u]) = true by
    rw [PyData.eqv, PyData.eqvAll, PyData.eqvAll, PyData.eqvAll, dTu, dTu, PyData.eqv, PyData.eqv, eqv_ints, eqv_ints]
    simp]
  exact q
theorem w_eqPP {K : PySem.W.Frag} {H : Hp} {a b p1 p2 q1 q2 : Addr} {t u : List Int} {Q : VK} (ha : H a = some (.tup [.ref p1, .ref p2])) (hb : H b = some (.tup [.ref q1, .ref q2])) (h1 : H p1 = some (.tup (t.map V.int))) (h2 : H p2 = some (.tup (u.map V.int))) (h3 : H q1 = some (.tup (t.map V.int))) (h4 : H q2 = some (.tup (u.map V.int))) (q : Q (.bl true) H) : rEqD K (.ref a) (.ref b) H Q := by
  have sh : SeqAt.shaped (.tuple [dTu t, dTu u]) = true := by
    unfold SeqAt.shaped dTu
    rw [PyData.canLay0, PyData.canLayAll0, PyData.canLayAll0, PyData.canLayAll0, PyData.canLay0, PyData.canLay0, lay_ints, lay_ints, PyData.depth, PyData.depthAll, PyData.depthAll, PyData.depthAll, PyData.depth, PyData.depth, depth_ints, depth_ints]
    rfl
  refine ⟨.tuple [dTu t, dTu u], .tuple [dTu t, dTu u], .tup (sqt ha) (.cons (.tup (sqt h1) (dp_ints _)) (.cons (.tup (sqt h2) (dp_ints _)) .nil)), .tup (sqt hb) (.cons (.tup (sqt h3) (dp_ints _)) (.cons (.tup (sqt h4) (dp_ints _)) .nil)), sh, sh, ?_⟩
  rw [show PyData.eqv (.tuple [dTu t, dTu u]) (.tuple [dTu t, dTu u]) = true by
    rw [PyData.eqv, PyData.eqvAll, PyData.eqvAll, PyData.eqvAll, dTu, dTu, PyData.eqv, PyData.eqv, eqv_ints, eqv_ints]
    simp]
  exact q
end Bc
namespace Bc
open PySem PySem.Spec PyProof.Rows L2
section
variable {b1 N1 b2 N2 : Int} {A : Nat}
noncomputable def v2 (b1 N1 b2 N2 : Int) (ds : List Int) : Int × Int := (hv ds b1 % N1, hv ds b2 % N2)
noncomputable def Stp (A : Nat) (ds : List Int) : Prop := ∀ x ∈ ds, -(A : Int) < x ∧ x < A
/-- what L steps can leave -/
noncomputable def RL (b1 N1 b2 N2 : Int) (A L : Nat) (p : Int × Int) : Prop := ∃ ds, ds.length = L ∧ Stp A ds ∧ p = v2 b1 N1 b2 N2 ds
noncomputable def led2 (b1 N1 b2 N2 : Int) (q : Int × Int) (d : Int) : Int × Int := ((q.1 * b1 + d) % N1, (q.2 * b2 + d) % N2)
theorem v2_snoc {ds : List Int} {d : Int} : v2 b1 N1 b2 N2 (ds ++ [d]) = led2 b1 N1 b2 N2 (v2 b1 N1 b2 N2 ds) d := by
  have key : ∀ b N : Int, hv (ds ++ [d]) b % N = (hv ds b % N * b + d) % N := fun b N => by
    rw [hv_snoc, Int.add_emod (hv ds b % N * b), Int.mul_emod (hv ds b % N), Int.emod_emod_of_dvd _ (Int.dvd_refl N), ← Int.mul_emod, ← Int.add_emod]
  exact Prod.ext (key b1 N1) (key b2 N2)
theorem RL_zero {p : Int × Int} : RL b1 N1 b2 N2 A 0 p ↔ p = (0, 0) := by
  constructor
  · rintro ⟨ds, h1, _, rfl⟩
    have e : ds = [] := List.eq_nil_of_length_eq_zero h1
    subst e
    exact Prod.ext (Int.zero_emod _) (Int.zero_emod _)
  · rintro rfl
    exact ⟨[], rfl, fun x h => (nomatch h), Prod.ext (Int.zero_emod _).symm (Int.zero_emod _).symm⟩
theorem RL_succ {L : Nat} {p : Int × Int} : RL b1 N1 b2 N2 A (L + 1) p ↔ ∃ q, RL b1 N1 b2 N2 A L q ∧ ∃ d : Int, (-(A : Int) < d ∧ d < A) ∧ p = led2 b1 N1 b2 N2 q d := by
  constructor
  · rintro ⟨ds, h1, h2, rfl⟩
    rcases List.eq_nil_or_concat ds with e | ⟨us, d, e⟩
    · subst e
      simp at h1
    · rw [List.concat_eq_append] at e
      subst e
      exact ⟨_, ⟨us, by simpa using h1, fun x hx => h2 x (List.mem_append_left _ hx), rfl⟩, d, h2 d (by simp), v2_snoc⟩
  · rintro ⟨_, ⟨us, h1, h2, rfl⟩, d, hd, rfl⟩
    refine ⟨us ++ [d], by simp [h1], fun x hx => ?_, v2_snoc.symm⟩
    rcases List.mem_append.mp hx with h | h
    · exact h2 x h
    · rw [List.mem_singleton.mp h]
      exact hd
theorem RL_rng (h1 : 0 < N1) (h2 : 0 < N2) {L : Nat} {p : Int × Int} (h : RL b1 N1 b2 N2 A L p) : (0 ≤ p.1 ∧ p.1 < N1) ∧ 0 ≤ p.2 ∧ p.2 < N2 := by
  obtain ⟨ds, _, _, rfl⟩ := h
  exact ⟨⟨Int.emod_nonneg _ (by omega), Int.emod_lt_of_pos _ h1⟩, Int.emod_nonneg _ (by omega), Int.emod_lt_of_pos _ h2⟩
/-- nothing new with one more: nothing new ever -/
theorem RL_stop (hA : 1 ≤ A) {L : Nat} (h : ∀ p, RL b1 N1 b2 N2 A (L + 1) p → RL b1 N1 b2 N2 A L p) : ∀ M p, L ≤ M → RL b1 N1 b2 N2 A M p → RL b1 N1 b2 N2 A L p := by
  intro M
  induction M with
  | zero => intro p hl hp; rw [show L = 0 by omega]; exact hp
  | succ M ih =>
    intro p hl hp
    by_cases e : L = M + 1
    · rw [e]; exact hp
    · obtain ⟨q, hq, d, hd, rfl⟩ := RL_succ.mp hp
      exact h _ (RL_succ.mpr ⟨q, ih q (by omega) hq, d, hd, rfl⟩)
/-- agrees by the one, not by the other -/
noncomputable def Msd (p : Int × Int) : Prop := p.1 = 0 ∧ p.2 ≠ 0
structure LeastM (b1 N1 b2 N2 : Int) (A m : Nat) : Prop where
  hit : ∃ p, RL b1 N1 b2 N2 A m p ∧ Msd p
  no : ∀ j, j < m → ∀ p, RL b1 N1 b2 N2 A j p → ¬ Msd p
noncomputable def NoM (b1 N1 b2 N2 : Int) (A : Nat) : Prop := ∀ j p, RL b1 N1 b2 N2 A j p → ¬ Msd p
theorem LeastM.pos {m : Nat} (h : LeastM b1 N1 b2 N2 A m) : 1 ≤ m := by
  obtain ⟨p, hp, h1, h2⟩ := h.hit
  cases m with
  | zero =>
    rw [RL_zero] at hp
    subst hp
    exact absurd rfl h2
  | succ m => omega
noncomputable def DL (b1 N1 : Int) (A L : Nat) (x : Int) : Prop := ∃ t : List Int, t.length = L ∧ Ltr A t ∧ x = hv t b1 % N1
theorem RL_of_texts {L : Nat} {t u : List Int} (ht : t.length = L) (hu : u.length = L) (at' : Ltr A t) (au : Ltr A u) : RL b1 N1 b2 N2 A L ((hv t b1 - hv u b1) % N1, (hv t b2 - hv u b2) % N2) := by
  have hl : t.length = u.length := by omega
  refine ⟨List.zipWith (· - ·) t u, by rw [List.length_zipWith]; omega, zip_bd at' au, ?_⟩
  unfold v2
  rw [hv_zsub hl, hv_zsub hl]
theorem texts_of_RL (hA : 1 ≤ A) {L : Nat} {p : Int × Int} (h : RL b1 N1 b2 N2 A L p) : ∃ t u : List Int, t.length = L ∧ u.length = L ∧ Ltr A t ∧ Ltr A u ∧ p = ((hv t b1 - hv u b1) % N1, (hv t b2 - hv u b2) % N2) := by
  obtain ⟨ds, h1, h2, rfl⟩ := h
  obtain ⟨u, q, g1, g2, g3, g4, g5⟩ := two_ofW hA ds h2
  refine ⟨q, u, by omega, by omega, g4, g3, ?_⟩
  have hl : q.length = u.length := by omega
  have e : ds = List.zipWith (· - ·) q u := g5.symm
  unfold v2
  rw [e, hv_zsub hl, hv_zsub hl]
/-- no missed pair of this length: the second sum is told by the first one -/
theorem told_by {L : Nat} (h : ∀ p, RL b1 N1 b2 N2 A L p → ¬ Msd p) {t u : List Int} (ht : t.length = L) (hu : u.length = L) (at' : Ltr A t) (au : Ltr A u) (e : hv t b1 % N1 = hv u b1 % N1) : hv t b2 % N2 = hv u b2 % N2 := by
  refine Classical.byContradiction fun c => h _ (RL_of_texts (b1 := b1) (N1 := N1) (b2 := b2) (N2 := N2) ht hu at' au) ⟨Int.emod_eq_emod_iff_emod_sub_eq_zero.mp e, fun z => c (Int.emod_eq_emod_iff_emod_sub_eq_zero.mpr z)⟩
theorem DL_rng (h1 : 0 < N1) {L : Nat} {x : Int} (h : DL b1 N1 A L x) : 0 ≤ x ∧ x < N1 := by
  obtain ⟨t, _, _, rfl⟩ := h
  exact ⟨Int.emod_nonneg _ (by omega), Int.emod_lt_of_pos _ h1⟩
theorem DL_mono1 (hA : 1 ≤ A) {L : Nat} {x : Int} (h : DL b1 N1 A L x) : DL b1 N1 A (L + 1) x := by
  obtain ⟨t, h1, h2, rfl⟩ := h
  refine ⟨0 :: t, by simp [h1], fun x hx => ?_, by rw [hv_zero]⟩
  rcases List.mem_cons.mp hx with e | e
  · rw [e]
    omega
  · exact h2 x e
/-- some length at most N1 less 1 adds no first sum -/
theorem DL_stop (h1 : 0 < N1) (hA : 1 ≤ A) : ∃ L, L < N1.toNat ∧ ∀ x, DL b1 N1 A (L + 1) x → DL b1 N1 A L x := by
  refine Classical.byContradiction fun c => ?_
  have grow : ∀ L, L < N1.toNat → ∃ x, DL b1 N1 A (L + 1) x ∧ ¬ DL b1 N1 A L x := fun L hL => by
    refine Classical.byContradiction fun d => c ⟨L, hL, fun x hx => Classical.byContradiction fun e => d ⟨x, hx, e⟩⟩
  have many : ∀ L, L ≤ N1.toNat → ∃ xs : List Int, xs.Nodup ∧ xs.length = L + 1 ∧ ∀ x ∈ xs, DL b1 N1 A L x := by
    intro L
    induction L with
    | zero =>
      intro _
      exact ⟨[0 % N1], List.pairwise_singleton _ _, rfl, fun x hx => ⟨[], rfl, fun z h => (nomatch h), List.mem_singleton.mp hx⟩⟩
    | succ L ih =>
      intro hL
      obtain ⟨xs, g1, g2, g3⟩ := ih (by omega)
      obtain ⟨x, hx1, hx2⟩ := grow L (by omega)
      refine ⟨x :: xs, List.nodup_cons.mpr ⟨fun z => hx2 (g3 x z), g1⟩, by simp [g2], fun z hz => ?_⟩
      rcases List.mem_cons.mp hz with e | e
      · rw [e]
        exact hx1
      · exact DL_mono1 hA (g3 z e)
  obtain ⟨xs, g1, g2, g3⟩ := many N1.toNat (Nat.le_refl _)
  have := nodup_sub (m := (List.range N1.toNat).map fun i : Nat => (i : Int)) g1 fun x hx => by
    have := DL_rng h1 (g3 x hx)
    exact List.mem_map.mpr ⟨x.toNat, List.mem_range.mpr (by omega), by omega⟩
  rw [g2, List.length_map, List.length_range] at this
  omega
theorem sub_mod73 {a b c d N : Int} (h1 : a % N = c % N) (h2 : b % N = d % N) : (a - b) % N = (c - d) % N := by
  rw [Int.sub_emod, h1, h2, ← Int.sub_emod]
/-- the fewest letters with a missed pair: at most as many as the one's number -/
theorem missed_le (h1 : 0 < N1) (hA : 1 ≤ A) {m : Nat} (h : LeastM b1 N1 b2 N2 A m) : m ≤ N1.toNat := by
  refine Classical.byContradiction fun c => ?_
  obtain ⟨L, hL, hstop⟩ := DL_stop (b1 := b1) (A := A) h1 hA
  have no1 := h.no (L + 1) (by omega)
  have hR : ∀ p, RL b1 N1 b2 N2 A (L + 1) p → RL b1 N1 b2 N2 A L p := fun p hp => by
    obtain ⟨t, u, ht, hu, at', au, rfl⟩ := texts_of_RL hA hp
    have down : ∀ t : List Int, t.length = L + 1 → Ltr A t → ∃ t' : List Int, t'.length = L ∧ Ltr A t' ∧ hv t' b1 % N1 = hv t b1 % N1 ∧ hv t' b2 % N2 = hv t b2 % N2 := fun t ht at' => by
      obtain ⟨t', g1, g2, g3⟩ := hstop _ ⟨t, ht, at', rfl⟩
      refine ⟨t', g1, g2, g3.symm, ?_⟩
      have := told_by (b1 := b1) (N1 := N1) (b2 := b2) (N2 := N2) no1 (t := 0 :: t') (u := t) (by simp [g1]) ht (fun x hx => (List.mem_cons.mp hx).elim (fun e => by rw [e]; omega) (g2 x)) at' (by rw [hv_zero]; exact g3.symm)
      rwa [hv_zero] at this
    obtain ⟨t', a1, a2, a3, a4⟩ := down t ht at'
    obtain ⟨u', c1, c2, c3, c4⟩ := down u hu au
    have := RL_of_texts (b1 := b1) (N1 := N1) (b2 := b2) (N2 := N2) a1 c1 a2 c2
    rw [sub_mod73 a3 c3, sub_mod73 a4 c4] at this
    exact this
  obtain ⟨p, hp, hm⟩ := h.hit
  exact h.no L (by omega) p (RL_stop hA hR m p (by omega) hp) hm
end
end Bc
namespace Bc
open PySem PySem.Spec PyProof.Rows L2
theorem InG_len : ∀ {cs : List (List Int)} {ss : List Int}, InG ss cs → ss.length = cs.length
  | [], [], _ => rfl
  | _ :: _, _ :: _, h => by rw [List.length_cons, List.length_cons, InG_len h.2]
theorem InG_snoc {cs : List (List Int)} {c : List Int} {ss : List Int} : InG ss (cs ++ [c]) ↔ ∃ us s, ss = us ++ [s] ∧ InG us cs ∧ s ∈ c := by
  induction cs generalizing ss with
  | nil =>
    cases ss with
    | nil => exact ⟨fun h => h.elim, fun ⟨us, s, e, _⟩ => by simp at e⟩
    | cons s ss =>
      cases ss with
      | nil => exact ⟨fun h => ⟨[], s, rfl, trivial, h.1⟩, fun ⟨us, z, e, h1, h2⟩ => by
          cases us with
          | nil => cases e; exact ⟨h2, trivial⟩
          | cons => simp at e⟩
      | cons => exact ⟨fun h => h.2.elim, fun ⟨us, z, e, h1, h2⟩ => by
          cases us with
          | nil => cases e
          | cons => exact h1.elim⟩
  | cons d cs ih =>
    cases ss with
    | nil => exact ⟨fun h => h.elim, fun ⟨us, s, e, _⟩ => by simp at e⟩
    | cons s ss =>
      constructor
      · intro h
        obtain ⟨us, z, e, h1, h2⟩ := ih.mp h.2
        exact ⟨s :: us, z, by rw [e]; rfl, ⟨h.1, h1⟩, h2⟩
      · rintro ⟨us, z, e, h1, h2⟩
        cases us with
        | nil => exact h1.elim
        | cons a us =>
          cases e
          exact ⟨h1.1, ih.mpr ⟨us, z, rfl, h1.2, h2⟩⟩
noncomputable def Opn (b1 N1 b2 N2 : Int) (w1 w2 : List (Int → Int)) (U : List (List Int)) (x : Int × Int) : Prop := ∃ us, InG us U ∧ (x.1 + SF w1 us b1) % N1 = 0 ∧ (x.2 + SF w2 us b2) % N2 ≠ 0
noncomputable def Sta (b1 N1 b2 N2 : Int) (p1 p2 : List (Int → Int)) (cs : List (List Int)) (x : Int × Int) : Prop := ∃ ss, InG ss cs ∧ x = (SF p1 ss b1 % N1, SF p2 ss b2 % N2)
noncomputable def mov2 (b1 N1 b2 N2 : Int) (f g : Int → Int) (x : Int × Int) (s : Int) : Int × Int := ((x.1 + s * f b1) % N1, (x.2 + s * g b2) % N2)
section
variable {b1 N1 b2 N2 : Int} {p1 p2 w1 w2 : List (Int → Int)} {f g : Int → Int} {cs : List (List Int)} {U : List (List Int)} {row : List (List Int)}
theorem mod_addL {a c N : Int} : (a % N + c) % N = (a + c) % N := by rw [Int.add_emod, Int.emod_emod_of_dvd _ (Int.dvd_refl N), ← Int.add_emod]
theorem SF_snoc {pw : List (Int → Int)} {ss : List Int} {w : Int → Int} {s b : Int} (h : pw.length = ss.length) : SF (pw ++ [w]) (ss ++ [s]) b = SF pw ss b + s * w b := by
  rw [SF_app h]
  show SF pw ss b + (s * w b + SF [] [] b) = _
  rw [SF_nil, Int.add_zero]
/-- one more place -/
theorem Sta_snoc (h1 : p1.length = cs.length) (h2 : p2.length = cs.length) {c : List Int} {y : Int × Int} : Sta b1 N1 b2 N2 (p1 ++ [f]) (p2 ++ [g]) (cs ++ [c]) y ↔ ∃ x, Sta b1 N1 b2 N2 p1 p2 cs x ∧ ∃ s ∈ c, y = mov2 b1 N1 b2 N2 f g x s := by
  constructor
  · rintro ⟨ss, hs, rfl⟩
    obtain ⟨us, s, rfl, g1, g2⟩ := InG_snoc.mp hs
    have l := InG_len g1
    refine ⟨_, ⟨us, g1, rfl⟩, s, g2, ?_⟩
    rw [SF_snoc (by omega), SF_snoc (by omega)]
    unfold mov2
    rw [mod_addL, mod_addL]
  · rintro ⟨x, ⟨us, g1, rfl⟩, s, g2, rfl⟩
    have l := InG_len g1
    refine ⟨us ++ [s], InG_snoc.mpr ⟨us, s, rfl, g1, g2⟩, ?_⟩
    rw [SF_snoc (by omega), SF_snoc (by omega)]
    unfold mov2
    rw [mod_addL, mod_addL]
/-- what goes on behind a step goes on ahead of it -/
theorem Opn_cons {c : List Int} {x : Int × Int} : Opn b1 N1 b2 N2 (f :: w1) (g :: w2) (c :: U) x ↔ ∃ s ∈ c, Opn b1 N1 b2 N2 w1 w2 U (mov2 b1 N1 b2 N2 f g x s) := by
  constructor
  · rintro ⟨us, h, e1, e2⟩
    cases us with
    | nil => exact h.elim
    | cons s us =>
      refine ⟨s, h.1, us, h.2, ?_, ?_⟩
      · show ((x.1 + s * f b1) % N1 + _) % N1 = 0
        rw [mod_addL, Int.add_assoc]
        exact e1
      · show ((x.2 + s * g b2) % N2 + _) % N2 ≠ 0
        rw [mod_addL, Int.add_assoc]
        exact e2
  · rintro ⟨s, hs, us, h, e1, e2⟩
    refine ⟨s :: us, ⟨hs, h⟩, ?_, ?_⟩
    · have e1 : ((x.1 + s * f b1) % N1 + SF w1 us b1) % N1 = 0 := e1
      rw [mod_addL, Int.add_assoc] at e1
      exact e1
    · have e2 : ((x.2 + s * g b2) % N2 + SF w2 us b2) % N2 ≠ 0 := e2
      rw [mod_addL, Int.add_assoc] at e2
      exact e2
/-- a prefix that leads on -/
noncomputable def GdC (b1 N1 b2 N2 : Int) (p1 p2 w1 w2 : List (Int → Int)) (cs U : List (List Int)) : Prop := ∃ x, Sta b1 N1 b2 N2 p1 p2 cs x ∧ Opn b1 N1 b2 N2 w1 w2 U x
/-- the states behind one letter, kept if they lead on -/
theorem later_iff (h1 : p1.length = cs.length) (h2 : p2.length = cs.length) {c : List Int} (hc : c ∈ row) {y : Int × Int} : ((∃ x, (Sta b1 N1 b2 N2 p1 p2 cs x ∧ Opn b1 N1 b2 N2 (f :: w1) (g :: w2) (row.flatten :: U) x) ∧ ∃ s ∈ c, y = mov2 b1 N1 b2 N2 f g x s) ∧ Opn b1 N1 b2 N2 w1 w2 U y) ↔ Sta b1 N1 b2 N2 (p1 ++ [f]) (p2 ++ [g]) (cs ++ [c]) y ∧ Opn b1 N1 b2 N2 w1 w2 U y := by
  rw [Sta_snoc h1 h2]
  constructor
  · rintro ⟨⟨x, ⟨hx, _⟩, s, hs, rfl⟩, ho⟩
    exact ⟨⟨x, hx, s, hs, rfl⟩, ho⟩
  · rintro ⟨⟨x, hx, s, hs, rfl⟩, ho⟩
    exact ⟨⟨x, ⟨hx, Opn_cons.mpr ⟨s, List.mem_flatten.mpr ⟨c, hc, hs⟩, ho⟩⟩, s, hs, rfl⟩, ho⟩
theorem GdC_next (h1 : p1.length = cs.length) (h2 : p2.length = cs.length) (h : GdC b1 N1 b2 N2 p1 p2 (f :: w1) (g :: w2) cs (row.flatten :: U)) : ∃ (l : Nat) (c : List Int), row[l]? = some c ∧ GdC b1 N1 b2 N2 (p1 ++ [f]) (p2 ++ [g]) w1 w2 (cs ++ [c]) U := by
  obtain ⟨x, hx, ho⟩ := h
  obtain ⟨s, hs, ho⟩ := Opn_cons.mp ho
  obtain ⟨c, hc, hsc⟩ := List.mem_flatten.mp hs
  obtain ⟨l, hl⟩ := List.getElem?_of_mem hc
  exact ⟨l, c, hl, _, (Sta_snoc h1 h2).mpr ⟨x, hx, s, hsc, rfl⟩, ho⟩
end
end Bc
namespace Bc
open PySem PySem.Spec PyProof.Rows L2
noncomputable def pick (rows : List (List (List Int))) (t : List Int) : List (List Int) := List.zipWith (fun row l => row.getD l.toNat []) rows t
structure FLt (b1 N1 b2 N2 : Int) (w1 w2 : List (Int → Int)) (rows : List (List (List Int))) (A : Nat) (t : List Int) : Prop where
  len : t.length = rows.length
  rng : Ltr A t
  good : GdC b1 N1 b2 N2 w1 w2 [] [] (pick rows t) []
  no : ∀ (i : Nat) (x l : Int), t[i]? = some x → 0 ≤ l → l < x → ¬ GdC b1 N1 b2 N2 (w1.take (i + 1)) (w2.take (i + 1)) (w1.drop (i + 1)) (w2.drop (i + 1)) (pick (rows.take (i + 1)) (t.take i ++ [l])) ((rows.drop (i + 1)).map List.flatten)
section
variable {b1 N1 b2 N2 : Int} {w1 w2 : List (Int → Int)} {rows : List (List (List Int))} {A : Nat} {t u : List Int}
theorem InG_mono : ∀ {ss : List Int} {cs ds : List (List Int)}, InG ss cs → cs.length = ds.length → (∀ (i : Nat) (c d : List Int), cs[i]? = some c → ds[i]? = some d → ∀ s ∈ c, s ∈ d) → InG ss ds
  | [], [], [], _, _, _ => trivial
  | [], [], _ :: _, _, h, _ => by simp at h
  | [], _ :: _, _, h, _, _ => h.elim
  | _ :: _, [], _, h, _, _ => h.elim
  | _ :: _, _ :: _, [], _, h, _ => by simp at h
  | s :: ss, c :: cs, d :: ds, h, hl, hk => ⟨hk 0 c d rfl rfl s h.1, InG_mono h.2 (by simpa using hl) fun i c' d' e1 e2 => hk (i + 1) c' d' (by simpa using e1) (by simpa using e2)⟩
theorem InG_split {ss : List Int} {cs : List (List Int)} (h : InG ss cs) (i : Nat) : InG (ss.take i) (cs.take i) ∧ InG (ss.drop i) (cs.drop i) := by
  induction i generalizing ss cs with
  | zero => exact ⟨trivial, h⟩
  | succ i ih =>
    cases ss with
    | nil =>
      cases cs with
      | nil => exact ⟨trivial, trivial⟩
      | cons => exact h.elim
    | cons s ss =>
      cases cs with
      | nil => exact h.elim
      | cons c cs =>
        obtain ⟨a, b⟩ := ih h.2
        exact ⟨⟨h.1, a⟩, b⟩
theorem pick_len (h : t.length = rows.length) : (pick rows t).length = rows.length := by
  unfold pick
  rw [List.length_zipWith, h, Nat.min_self]
theorem pick_take (i : Nat) : (pick rows t).take i = pick (rows.take i) (t.take i) := by
  unfold pick
  rw [List.take_zipWith]
theorem pick_drop (i : Nat) : (pick rows t).drop i = pick (rows.drop i) (t.drop i) := by
  unfold pick
  rw [List.drop_zipWith]
/-- in order, none ahead of it leads to the end -/
theorem FLt.first (h1 : w1.length = rows.length) (h2 : w2.length = rows.length) (hr : ∀ row ∈ rows, row.length = A) (h : FLt b1 N1 b2 N2 w1 w2 rows A t) (hu : u.length = rows.length) (lu : Ltr A u) {ss : List Int} (hs : InG ss (pick rows u)) (e1 : SF w1 ss b1 % N1 = 0) (e2 : SF w2 ss b2 % N2 ≠ 0) : ¬ LexLt u t := by
  rintro ⟨i, x, y, g1, g2, g3, hxy⟩
  have hi : i < u.length := (List.getElem?_eq_some_iff.mp g2).1
  have ex : u[i] = x := (List.getElem?_eq_some_iff.mp g2).2
  have tk : u.take (i + 1) = t.take i ++ [x] := by rw [List.take_succ_eq_append_getElem hi, g1, ex]
  refine h.no i y x g3 (lu x (List.mem_of_getElem? g2)).1 hxy ?_
  obtain ⟨a, b⟩ := InG_split hs (i + 1)
  rw [pick_take, tk] at a
  rw [pick_drop] at b
  have la := InG_len a
  have lss := InG_len hs
  rw [pick_len hu] at lss
  refine ⟨_, ⟨ss.take (i + 1), a, rfl⟩, ss.drop (i + 1), ?_, ?_, ?_⟩
  · refine InG_mono b ?_ fun j c d q1 q2 s hsc => ?_
    · rw [pick_len (by rw [List.length_drop, List.length_drop, hu]), List.length_map]
    · unfold pick at q1
      rw [List.getElem?_zipWith] at q1
      rw [List.getElem?_map] at q2
      cases hrow : (rows.drop (i + 1))[j]? with
      | none => rw [hrow] at q2; cases q2
      | some row =>
        rw [hrow] at q1 q2
        cases hl : (u.drop (i + 1))[j]? with
        | none => rw [hl] at q1; cases q1
        | some l =>
          rw [hl] at q1
          cases q1
          cases q2
          have hlm := lu l (List.mem_of_mem_drop (List.mem_of_getElem? hl))
          have hrl := hr row (List.mem_of_mem_drop (List.mem_of_getElem? hrow))
          refine List.mem_flatten.mpr ⟨row.getD l.toNat [], ?_, hsc⟩
          rw [List.getD_eq_getElem?_getD, List.getElem?_eq_getElem (show l.toNat < row.length by omega)]
          exact List.getElem_mem _
  · have hsp : SF w1 ss b1 = SF (w1.take (i + 1)) (ss.take (i + 1)) b1 + SF (w1.drop (i + 1)) (ss.drop (i + 1)) b1 := by
      rw [← SF_app (by rw [List.length_take, List.length_take]; omega), List.take_append_drop, List.take_append_drop]
    show (SF (w1.take (i + 1)) (ss.take (i + 1)) b1 % N1 + _) % N1 = 0
    rw [mod_addL, ← hsp]
    exact e1
  · have hsp : SF w2 ss b2 = SF (w2.take (i + 1)) (ss.take (i + 1)) b2 + SF (w2.drop (i + 1)) (ss.drop (i + 1)) b2 := by
      rw [← SF_app (by rw [List.length_take, List.length_take]; omega), List.take_append_drop, List.take_append_drop]
    show (SF (w2.take (i + 1)) (ss.take (i + 1)) b2 % N2 + _) % N2 ≠ 0
    rw [mod_addL, ← hsp]
    exact e2
theorem FLt.hit (h : FLt b1 N1 b2 N2 w1 w2 rows A t) : ∃ ss, InG ss (pick rows t) ∧ SF w1 ss b1 % N1 = 0 ∧ SF w2 ss b2 % N2 ≠ 0 := by
  obtain ⟨x, ⟨ss, hs, rfl⟩, us, hu, e1, e2⟩ := h.good
  cases us with
  | cons => exact hu.elim
  | nil =>
    rw [SF_nil, Int.add_zero] at e1 e2
    rw [Int.emod_emod_of_dvd _ (Int.dvd_refl _)] at e1 e2
    exact ⟨ss, hs, e1, e2⟩
end
/-- the steps of the first text -/
noncomputable def rowsT (A L : Nat) : List (List (List Int)) := List.replicate L ((List.range A).map fun l : Nat => (List.range A).map fun k : Nat => (l : Int) - (k : Int))
/-- the steps of the other text -/
noncomputable def rowsO (A : Nat) (t : List Int) : List (List (List Int)) := t.map fun x => (List.range A).map fun k : Nat => [x - (k : Int)]
theorem pickT {A : Nat} : ∀ {L : Nat} {t ss : List Int}, t.length = L → Ltr A t → (InG ss (pick (rowsT A L) t) ↔ ∃ q, q.length = L ∧ Ltr A q ∧ ss = sbv t q)
  | 0, t, ss, ht, _ => by
    have e : t = [] := List.eq_nil_of_length_eq_zero ht
    subst e
    cases ss with
    | nil => exact ⟨fun _ => ⟨[], rfl, fun x h => (nomatch h), rfl⟩, fun _ => trivial⟩
    | cons s ss => exact ⟨fun h => h.elim, fun ⟨q, h1, _, h3⟩ => by
        have e : q = [] := List.eq_nil_of_length_eq_zero h1
        subst e
        cases h3⟩
  | L + 1, t, ss, ht, lt => by
    match t, ht, lt with
    | x :: t, ht, lt =>
      have hx := lt x List.mem_cons_self
      have ht' : t.length = L := by simpa using ht
      have lt' : Ltr A t := fun z hz => lt z (List.mem_cons_of_mem _ hz)
      have hrow : ((List.range A).map fun l : Nat => (List.range A).map fun k : Nat => (l : Int) - (k : Int)).getD x.toNat [] = (List.range A).map fun k : Nat => x - (k : Int) := by
        rw [List.getD_eq_getElem?_getD, List.getElem?_map, List.getElem?_range (by omega)]
        show ((List.range A).map fun k : Nat => ((x.toNat : Nat) : Int) - (k : Int)) = _
        rw [Int.toNat_of_nonneg hx.1]
      have hp : pick (rowsT A (L + 1)) (x :: t) = ((List.range A).map fun k : Nat => x - (k : Int)) :: pick (rowsT A L) t := by
        unfold pick rowsT
        rw [List.replicate_succ, List.zipWith_cons_cons, hrow]
      rw [hp]
      cases ss with
      | nil => exact ⟨fun h => h.elim, fun ⟨q, h1, _, h3⟩ => by
          cases q with
          | nil => simp at h1
          | cons => cases h3⟩
      | cons s ss =>
        constructor
        · rintro ⟨h1, h2⟩
          obtain ⟨k, hk, rfl⟩ := List.mem_map.mp h1
          have hk := List.mem_range.mp hk
          obtain ⟨q, g1, g2, rfl⟩ := (pickT ht' lt').mp h2
          refine ⟨(k : Int) :: q, by simp [g1], fun z hz => ?_, rfl⟩
          rcases List.mem_cons.mp hz with e | e
          · rw [e]
            omega
          · exact g2 z e
        · rintro ⟨q, g1, g2, g3⟩
          match q, g1, g2, g3 with
          | k :: q, g1, g2, g3 =>
            have hk := g2 k List.mem_cons_self
            have g3 : s :: ss = (x - k) :: sbv t q := g3
            cases g3
            refine ⟨List.mem_map.mpr ⟨k.toNat, List.mem_range.mpr (by omega), by rw [Int.toNat_of_nonneg hk.1]⟩, (pickT ht' lt').mpr ⟨q, by simpa using g1, fun z hz => g2 z (List.mem_cons_of_mem _ hz), rfl⟩⟩
theorem pickO {A : Nat} : ∀ {t u ss : List Int}, u.length = t.length → Ltr A u → (InG ss (pick (rowsO A t) u) ↔ ss = sbv t u)
  | [], u, ss, hu, _ => by
    have e : u = [] := List.eq_nil_of_length_eq_zero hu
    subst e
    cases ss with
    | nil => exact ⟨fun _ => rfl, fun _ => trivial⟩
    | cons s ss => exact ⟨fun h => h.elim, fun h => (by cases h)⟩
  | x :: t, u, ss, hu, lu => by
    match u, hu, lu with
    | y :: u, hu, lu =>
      have hy := lu y List.mem_cons_self
      have hrow : ((List.range A).map fun k : Nat => [x - (k : Int)]).getD y.toNat [] = [x - y] := by
        rw [List.getD_eq_getElem?_getD, List.getElem?_map, List.getElem?_range (by omega)]
        show [x - ((y.toNat : Nat) : Int)] = _
        rw [Int.toNat_of_nonneg hy.1]
      have hp : pick (rowsO A (x :: t)) (y :: u) = [x - y] :: pick (rowsO A t) u := by
        unfold pick rowsO
        rw [List.map_cons, List.zipWith_cons_cons, hrow]
      rw [hp]
      have ih := fun ss => pickO (A := A) (t := t) (u := u) (ss := ss) (by simpa using hu) fun z hz => lu z (List.mem_cons_of_mem _ hz)
      cases ss with
      | nil => exact ⟨fun h => h.elim, fun h => (by cases h)⟩
      | cons s ss =>
        constructor
        · rintro ⟨h1, h2⟩
          rw [List.mem_singleton.mp h1, (ih ss).mp h2]
          rfl
        · intro h
          have h : s :: ss = (x - y) :: sbv t u := h
          cases h
          exact ⟨List.mem_singleton.mpr rfl, (ih _).mpr rfl⟩
end Bc
namespace Bc
open PySem PySem.Spec PyProof.Rows L2
section
variable {b1 N1 b2 N2 : Int} {A m : Nat} {lw : Bool}
theorem SF_zero_iff {b N : Int} {t q : List Int} (ht : t.length = m) (hq : q.length = m) : SF (wsL N lw m) (sbv t q) b % N = 0 ↔ hvD lw b t % N = hvD lw b q % N := by
  have := Agr_hvD (b := b) (N := N) (lw := lw) ht hq
  rw [← this]
  unfold Agr
  exact ⟨fun h c hc => by rw [List.mem_singleton.mp hc]; exact h, fun h => h b (List.mem_singleton.mpr rfl)⟩
/-- agree by the one, not by the other -/
noncomputable def Ms (b1 N1 b2 N2 : Int) (lw : Bool) (t q : List Int) : Prop := hvD lw b1 t % N1 = hvD lw b1 q % N1 ∧ hvD lw b2 t % N2 ≠ hvD lw b2 q % N2
structure Pr73 (b1 N1 b2 N2 : Int) (A m : Nat) (lw : Bool) (t u : List Int) : Prop where
  lt : t.length = m
  lu : u.length = m
  at' : Ltr A t
  au : Ltr A u
  hit : Ms b1 N1 b2 N2 lw t u
  one : ∀ v q, v.length = m → q.length = m → Ltr A v → Ltr A q → Ms b1 N1 b2 N2 lw v q → ¬ LexLt v t
  two : ∀ q, q.length = m → Ltr A q → Ms b1 N1 b2 N2 lw t q → ¬ LexLt q u
theorem rowsT_row {A L : Nat} : ∀ row ∈ rowsT A L, row.length = A := fun row hr => by
  unfold rowsT at hr
  rw [(List.mem_replicate.mp hr).2, List.length_map, List.length_range]
theorem rowsO_row {A : Nat} {t : List Int} : ∀ row ∈ rowsO A t, row.length = A := fun row hr => by
  unfold rowsO at hr
  obtain ⟨x, _, rfl⟩ := List.mem_map.mp hr
  rw [List.length_map, List.length_range]
theorem rowsT_len {A L : Nat} : (rowsT A L).length = L := List.length_replicate
theorem rowsO_len {A : Nat} {t : List Int} : (rowsO A t).length = t.length := List.length_map ..
theorem pr73 {t u : List Int} (ht : FLt b1 N1 b2 N2 (wsL N1 lw m) (wsL N2 lw m) (rowsT A m) A t) (hu : FLt b1 N1 b2 N2 (wsL N1 lw m) (wsL N2 lw m) (rowsO A t) A u) : Pr73 b1 N1 b2 N2 A m lw t u := by
  have lt : t.length = m := by rw [ht.len, rowsT_len]
  have lu : u.length = m := by rw [hu.len, rowsO_len, lt]
  refine ⟨lt, lu, ht.rng, hu.rng, ?_, fun v q hv hq av aq h => ?_, fun q hq aq h => ?_⟩
  · obtain ⟨ss, hs, e1, e2⟩ := hu.hit
    rw [pickO (by rw [lu, lt]) hu.rng] at hs
    subst hs
    exact ⟨(SF_zero_iff lt lu).mp e1, fun e => e2 ((SF_zero_iff lt lu).mpr e)⟩
  · exact ht.first (by rw [wsL_len, rowsT_len]) (by rw [wsL_len, rowsT_len]) rowsT_row (by rw [rowsT_len, hv]) av ((pickT hv av).mpr ⟨q, hq, aq, rfl⟩) ((SF_zero_iff hv hq).mpr h.1) (fun e => h.2 ((SF_zero_iff hv hq).mp e))
  · exact hu.first (by rw [wsL_len, rowsO_len, lt]) (by rw [wsL_len, rowsO_len, lt]) rowsO_row (by rw [rowsO_len, hq, lt]) aq ((pickO (by rw [hq, lt]) aq).mpr rfl) ((SF_zero_iff lt hq).mpr h.1) (fun e => h.2 ((SF_zero_iff lt hq).mp e))
/-- a whole row of steps is a good beginning -/
theorem GdC_whole {w1 w2 : List (Int → Int)} {rows : List (List (List Int))} {t ss : List Int} (ht : t.length = rows.length) (hr : ∀ row ∈ rows, row.length = A) (lt : Ltr A t) (hs : InG ss (pick rows t)) (e1 : SF w1 ss b1 % N1 = 0) (e2 : SF w2 ss b2 % N2 ≠ 0) : GdC b1 N1 b2 N2 [] [] w1 w2 [] (rows.map List.flatten) := by
  refine ⟨_, ⟨[], trivial, rfl⟩, ss, ?_, ?_, ?_⟩
  · refine InG_mono hs (by rw [pick_len ht, List.length_map]) fun j c d q1 q2 s hsc => ?_
    unfold pick at q1
    rw [List.getElem?_zipWith] at q1
    rw [List.getElem?_map] at q2
    cases hrow : rows[j]? with
    | none => rw [hrow] at q2; cases q2
    | some row =>
      rw [hrow] at q1 q2
      cases hl : t[j]? with
      | none => rw [hl] at q1; cases q1
      | some l =>
        rw [hl] at q1
        cases q1
        cases q2
        have hlm := lt l (List.mem_of_getElem? hl)
        have hrl := hr row (List.mem_of_getElem? hrow)
        refine List.mem_flatten.mpr ⟨row.getD l.toNat [], ?_, hsc⟩
        rw [List.getD_eq_getElem?_getD, List.getElem?_eq_getElem (show l.toNat < row.length by omega)]
        exact List.getElem_mem _
  · show (SF [] [] b1 % N1 + SF w1 ss b1) % N1 = 0
    rw [mod_addL, SF_nil, Int.zero_add]
    exact e1
  · show (SF [] [] b2 % N2 + SF w2 ss b2) % N2 ≠ 0
    rw [mod_addL, SF_nil, Int.zero_add]
    exact e2
theorem LeastM.texts (hA : 1 ≤ A) (h : LeastM b1 N1 b2 N2 A m) : ∃ t q : List Int, t.length = m ∧ q.length = m ∧ Ltr A t ∧ Ltr A q ∧ Ms b1 N1 b2 N2 lw t q := by
  obtain ⟨p, hp, h1, h2⟩ := h.hit
  obtain ⟨t, u, ht, hu, at', au, rfl⟩ := texts_of_RL hA hp
  have k1 : hv t b1 % N1 = hv u b1 % N1 := Int.emod_eq_emod_iff_emod_sub_eq_zero.mpr h1
  have k2 : hv t b2 % N2 ≠ hv u b2 % N2 := fun e => h2 (Int.emod_eq_emod_iff_emod_sub_eq_zero.mp e)
  cases lw with
  | true =>
    refine ⟨t.reverse, u.reverse, by rw [List.length_reverse, ht], by rw [List.length_reverse, hu], fun x hx => at' x (List.mem_reverse.mp hx), fun x hx => au x (List.mem_reverse.mp hx), ?_, ?_⟩
    · unfold hvD
      rw [if_pos rfl, if_pos rfl, List.reverse_reverse, List.reverse_reverse]
      exact k1
    · unfold hvD
      rw [if_pos rfl, if_pos rfl, List.reverse_reverse, List.reverse_reverse]
      exact k2
  | false =>
    refine ⟨t, u, ht, hu, at', au, ?_, ?_⟩
    · unfold hvD
      rw [if_neg (by decide), if_neg (by decide)]
      exact k1
    · unfold hvD
      rw [if_neg (by decide), if_neg (by decide)]
      exact k2
theorem gd_start (hA : 1 ≤ A) (h : LeastM b1 N1 b2 N2 A m) : GdC b1 N1 b2 N2 [] [] (wsL N1 lw m) (wsL N2 lw m) [] ((rowsT A m).map List.flatten) := by
  obtain ⟨t, q, ht, hq, at', aq, k1, k2⟩ := h.texts (lw := lw) hA
  exact GdC_whole (t := t) (ss := sbv t q) (by rw [rowsT_len, ht]) rowsT_row at' ((pickT ht at').mpr ⟨q, hq, aq, rfl⟩) ((SF_zero_iff ht hq).mpr k1) (fun e => k2 ((SF_zero_iff ht hq).mp e))
theorem gd_other {t : List Int} (h : FLt b1 N1 b2 N2 (wsL N1 lw m) (wsL N2 lw m) (rowsT A m) A t) : GdC b1 N1 b2 N2 [] [] (wsL N1 lw m) (wsL N2 lw m) [] ((rowsO A t).map List.flatten) := by
  have lt : t.length = m := by rw [h.len, rowsT_len]
  obtain ⟨ss, hs, e1, e2⟩ := h.hit
  obtain ⟨q, hq, aq, rfl⟩ := (pickT lt h.rng).mp hs
  exact GdC_whole (t := q) (by rw [rowsO_len, hq, lt]) rowsO_row aq ((pickO (by rw [hq, lt]) aq).mpr rfl) e1 e2
/-- the first place of all texts with a missed one, and its first missed one -/
structure Fst73 (R : List Int → List Int → Prop) (T : List (List Int)) (i j : Nat) (v q : List Int) : Prop where
  hi : T[i]? = some v
  hj : T[j]? = some q
  rel : R v q
  one : ∀ (k l : Nat) (v' q' : List Int), k < i → T[k]? = some v' → T[l]? = some q' → ¬ R v' q'
  two : ∀ (l : Nat) (q' : List Int), l < j → T[l]? = some q' → ¬ R v q'
theorem fst73 {t u v q : List Int} {i j : Nat} (h : Pr73 b1 N1 b2 N2 A m lw t u) (F : Fst73 (Ms b1 N1 b2 N2 lw) (txsL A m) i j v q) : v = t ∧ q = u := by
  obtain ⟨a, ha, ea⟩ := List.getElem_of_mem (txsL_mem.mpr ⟨h.lt, h.at'⟩)
  obtain ⟨c, hc, ec⟩ := List.getElem_of_mem (txsL_mem.mpr ⟨h.lu, h.au⟩)
  have ga : (txsL A m)[a]? = some t := by rw [List.getElem?_eq_getElem ha, ea]
  have gc : (txsL A m)[c]? = some u := by rw [List.getElem?_eq_getElem hc, ec]
  have hv := txsL_mem.mp (List.mem_of_getElem? F.hi)
  have hq := txsL_mem.mp (List.mem_of_getElem? F.hj)
  have lex : ∀ x y (X Y : List Int), (txsL A m)[x]? = some X → (txsL A m)[y]? = some Y → x < y → LexLt X Y := fun x y X Y hx hy hxy => by
    obtain ⟨hx1, rfl⟩ := List.getElem?_eq_some_iff.mp hx
    obtain ⟨hy1, rfl⟩ := List.getElem?_eq_some_iff.mp hy
    exact List.pairwise_iff_getElem.mp (txsL_lex A m) x y hx1 hy1 hxy
  have ei : i = a := by
    rcases Nat.lt_trichotomy i a with g | g | g
    · exact absurd (lex i a v t F.hi ga g) (h.one v q hv.1 hq.1 hv.2 hq.2 F.rel)
    · exact g
    · exact absurd h.hit (F.one a c t u g ga gc)
  subst ei
  have evt : v = t := by
    have := F.hi
    rw [ga] at this
    exact (Option.some.inj this).symm
  subst evt
  have ej : j = c := by
    rcases Nat.lt_trichotomy j c with g | g | g
    · exact absurd (lex j c q u F.hj gc g) (h.two q hq.1 hq.2 F.rel)
    · exact g
    · exact absurd h.hit (F.two c u g gc)
  subst ej
  have := F.hj
  rw [gc] at this
  exact ⟨rfl, (Option.some.inj this).symm⟩
end
end Bc
namespace Bc
open PySem PySem.Spec PyProof.Rows L2
structure KPr (K : PySem.W.Frag) (mg : Str → Option Value) (Cp : Addr) : Prop where
  cl : ClsF K Cp
  mgS : mg "Pairs" = some (.ref Cp)
  one : NoAttr K Cp "one"
  other : NoAttr K Cp "other"
  differences : NoAttr K Cp "differences"
structure KRs (K : PySem.W.Frag) (mg : Str → Option Value) (Cr : Addr) : Prop where
  cl : ClsF K Cr
  mgS : mg "Rests" = some (.ref Cr)
  one : NoAttr K Cr "one"
  other : NoAttr K Cr "other"
  sums : NoAttr K Cr "sums"
  least : NoAttr K Cr "least"
  greatest : NoAttr K Cr "greatest"
noncomputable def prF (x1 x2 l : Addr) : List (Str × V) := [("one", .ref x1), ("other", .ref x2), ("differences", .ref l)]
section
variable {x1 x2 l : Addr}
theorem pr_one : (prF x1 x2 l).lookup ("one" : Str) = some (.ref x1) := lk0
theorem pr_other : (prF x1 x2 l).lookup ("other" : Str) = some (.ref x2) := (lkS (by decide +kernel)).trans lk0
theorem pr_diff : (prF x1 x2 l).lookup ("differences" : Str) = some (.ref l) := (lkS (by decide +kernel)).trans ((lkS (by decide +kernel)).trans lk0)
theorem pr_no {m : Str} (h1 : m ≠ ("one" : Str)) (h2 : m ≠ ("other" : Str)) (h3 : m ≠ ("differences" : Str)) : (prF x1 x2 l).lookup m = none := (lkS h1).trans ((lkS h2).trans ((lkS h3).trans rfl))
end
theorem cmx20 {x y : Int} (hx : x.natAbs ≤ 100000) (hy : y.natAbs ≤ 100000) : CMx x y := by
  have h : (2 : Nat) ^ 20 = 1048576 := by decide
  exact mx_w (a := 20) (b := 20) (by omega) (by omega) (by decide)
/-- two ways -/
structure Ways2 (c : CA) (H : Hp) (x1 x2 : Addr) (b1 b2 : Int) (ps1 ps2 : List (Int × Int)) (y1 y2 : Sty) : Prop where
  one : WayAt c H x1 b1 ps1 y1
  two : WayAt c H x2 b2 ps2 y2
  n1 : num ps1 ≤ 2000
  n2 : num ps2 ≤ 2000
theorem Ways2.same {c : CA} {H H' : Hp} {x1 x2 : Addr} {b1 b2 : Int} {ps1 ps2 : List (Int × Int)} {y1 y2 : Sty} (h : Ways2 c H x1 x2 b1 b2 ps1 ps2 y1 y2) (s : Same H H') : Ways2 c H' x1 x2 b1 b2 ps1 ps2 y1 y2 := ⟨h.one.same s, h.two.same s, h.n1, h.n2⟩
theorem WayAt.rmI {c : CA} {H : Hp} {x o : Addr} {b : Int} {ps : List (Int × Int)} {y : Sty} (h : WayAt c H x b ps y) {C dx : Addr} (ho : H o = some (.ins C dx [])) : WayAt c (Bc.rm o H) x b ps y := by
  obtain ⟨dx1, m, k, h1, ⟨dx2, t, ts, g1, g2, g3, g4⟩, ⟨dx3, e1⟩, h4⟩ := h
  have ne : ∀ {b : Addr} {ob : HO}, H b = some ob → ob ≠ .ins C dx [] → b ≠ o := fun {b ob} hb n e => by
    rw [e, ho] at hb
    exact n (Option.some.inj hb).symm
  refine ⟨dx1, m, k, rm_of (ne h1 (fun e => by unfold wyF at e; cases e)) h1, ⟨dx2, t, ts, rm_of (ne g1 (fun e => by unfold mdF at e; cases e)) g1, rm_of (ne g2 (fun e => by cases e)) g2, paired_imp (fun a p z => rm_of (ne z (fun e => by cases e)) z) g3, g4⟩, ⟨dx3, rm_of (ne e1 (fun e => by unfold mkF at e; cases e)) e1⟩, h4⟩
theorem Ways2.rmI {c : CA} {H : Hp} {x1 x2 o : Addr} {b1 b2 : Int} {ps1 ps2 : List (Int × Int)} {y1 y2 : Sty} (h : Ways2 c H x1 x2 b1 b2 ps1 ps2 y1 y2) {C dx : Addr} (ho : H o = some (.ins C dx [])) : Ways2 c (Bc.rm o H) x1 x2 b1 b2 ps1 ps2 y1 y2 := ⟨h.one.rmI ho, h.two.rmI ho, h.n1, h.n2⟩
/-- a Pairs -/
noncomputable def PrAt (c : CA) (Cp : Addr) (H : Hp) (o : Addr) (b1 b2 : Int) (ps1 ps2 : List (Int × Int)) (y1 y2 : Sty) (A : Nat) : Prop := ∃ dx x1 x2 l, H o = some (.ins Cp dx (prF x1 x2 l)) ∧ H l = some (.lst ((stps A).map V.int)) ∧ Ways2 c H x1 x2 b1 b2 ps1 ps2 y1 y2
theorem PrAt.same {c : CA} {Cp : Addr} {H H' : Hp} {o : Addr} {b1 b2 : Int} {ps1 ps2 : List (Int × Int)} {y1 y2 : Sty} {A : Nat} (h : PrAt c Cp H o b1 b2 ps1 ps2 y1 y2 A) (s : Same H H') : PrAt c Cp H' o b1 b2 ps1 ps2 y1 y2 A := by
  obtain ⟨dx, x1, x2, l, h1, h2, h3⟩ := h
  exact ⟨dx, x1, x2, l, s _ _ h1, s _ _ h2, h3.same s⟩
noncomputable def spPrInit (c : CA) (Cp : Addr) : Sp := fun vs H Q _ => ∃ (o dx x1 x2 : Addr) (b1 b2 : Int) (ps1 ps2 : List (Int × Int)) (y1 y2 : Sty) (A : Nat), vs = [.ref o, .ref x1, .ref x2, .int A] ∧ H o = some (.ins Cp dx []) ∧ Ways2 c H x1 x2 b1 b2 ps1 ps2 y1 y2 ∧ x1 ≠ o ∧ x2 ≠ o ∧ 1 ≤ A ∧ A ≤ 1000 ∧ ∀ H', (∀ b o', b ≠ o → H b = some o' → H' b = some o') → PrAt c Cp H' o b1 b2 ps1 ps2 y1 y2 A → Q .non H'
noncomputable def pT (H : Hp) (p : Addr) (x : Int × Int) : Prop := H p = some (.tup [.int x.1, .int x.2])
noncomputable def spPrLed (c : CA) (Cp : Addr) : Sp := fun vs H Q _ => ∃ (o p : Addr) (b1 b2 d : Int) (ps1 ps2 : List (Int × Int)) (y1 y2 : Sty) (A : Nat) (x : Int × Int), vs = [.ref o, .ref p, .int d] ∧ PrAt c Cp H o b1 b2 ps1 ps2 y1 y2 A ∧ pT H p x ∧ (0 ≤ x.1 ∧ x.1 < num ps1) ∧ (0 ≤ x.2 ∧ x.2 < num ps2) ∧ d.natAbs ≤ 2000 ∧ ∀ H' q, H q = none → Same H H' → pT H' q (led2 b1 (num ps1) b2 (num ps2) x d) → Q (.ref q) H'
noncomputable def spPrMissed (c : CA) (Cp : Addr) : Sp := fun vs H Q _ => ∃ (o p : Addr) (b1 b2 : Int) (ps1 ps2 : List (Int × Int)) (y1 y2 : Sty) (A : Nat) (x : Int × Int), vs = [.ref o, .ref p] ∧ PrAt c Cp H o b1 b2 ps1 ps2 y1 y2 A ∧ pT H p x ∧ ∀ k : Bool, (k = true ↔ Msd x) → Q (.bl k) H
end Bc
namespace Bc
open PySem PySem.Spec PyProof.Rows L2
noncomputable abbrev PN := (Int × Int) × Nat
noncomputable def pk (p : Int × Int) : List Key := [.inl p.1, .inl p.2]
theorem pk_inj {p q : Int × Int} (h : pk p = pk q) : p = q := by
  unfold pk at h
  injection h with h1 h2
  injection h2 with h2 _
  exact Prod.ext (Sum.inl.inj h1) (Sum.inl.inj h2)
theorem pk_val (p : Int × Int) : (pk p).map kV = [V.int p.1, V.int p.2] := rfl
noncomputable def kvP (ks : List PN) : List (List Key × V) := ks.map fun e => (pk e.1, V.int (e.2 : Int))
/-- the number of a pair, if it is there -/
noncomputable def numOf (ks : List PN) (p : Int × Int) : Option Nat := (ks.find? fun e => decide (e.1 = p)).map (·.2)
theorem kvP_val (p : Int × Int) : ∀ ks : List PN, valV (kvP ks) (pk p) = (numOf ks p).map fun n : Nat => V.int (n : Int)
  | [] => rfl
  | e :: ks => by
    have ih := kvP_val p ks
    by_cases h : e.1 = p
    · subst h
      have : numOf (e :: ks) e.1 = some e.2 := by simp [numOf]
      rw [this]
      exact valV_pos rfl
    · have : numOf (e :: ks) p = numOf ks p := by simp [numOf, List.find?_cons, h]
      rw [this, ← ih]
      exact valV_neg (show ¬ pk e.1 = pk p from fun z => h (pk_inj z))
theorem numOf_mem {ks : List PN} {p : Int × Int} (hn : (ks.map (·.1)).Nodup) {n : Nat} : numOf ks p = some n ↔ (p, n) ∈ ks := by
  induction ks with
  | nil => exact ⟨fun h => (nomatch h), fun h => (nomatch h)⟩
  | cons e ks ih =>
    obtain ⟨h1, h2⟩ := List.nodup_cons.mp hn
    by_cases h : e.1 = p
    · have : numOf (e :: ks) p = some e.2 := by simp [numOf, h]
      rw [this]
      constructor
      · intro z
        rw [← Option.some.inj z, ← h]
        exact List.mem_cons_self
      · intro z
        rcases List.mem_cons.mp z with z | z
        · rw [← z]
        · exact absurd (List.mem_map.mpr ⟨_, z, rfl⟩) (by rw [← h]; exact h1)
    · have : numOf (e :: ks) p = numOf ks p := by simp [numOf, List.find?_cons, h]
      rw [this, ih h2, List.mem_cons]
      exact ⟨.inr, fun z => z.resolve_left fun z => h (by rw [← z])⟩
theorem numOf_none {ks : List PN} {p : Int × Int} : numOf ks p = none ↔ ∀ n, (p, n) ∉ ks := by
  unfold numOf
  rw [Option.map_eq_none_iff, List.find?_eq_none]
  constructor
  · intro h n hm
    exact h _ hm (decide_eq_true rfl)
  · rintro h ⟨q, n⟩ hm e
    have e := of_decide_eq_true e
    exact h n (by rw [← e]; exact hm)
theorem kvP_put {ks : List PN} {p : Int × Int} {n : Nat} (h : numOf ks p = none) : putK (kvP ks) (pk p) (.int (n : Int)) = kvP (ks ++ [(p, n)]) := by
  rw [putK_new _ (by rw [kvP_val, h]; rfl)]
  unfold kvP
  rw [List.map_append]
  rfl
theorem kvP_len (ks : List PN) : (kvP ks).length = ks.length := List.length_map ..
section
variable {b1 N1 b2 N2 : Int} {A : Nat}
noncomputable def Frst (b1 N1 b2 N2 : Int) (A n : Nat) (p : Int × Int) : Prop := RL b1 N1 b2 N2 A n p ∧ ∀ j, j < n → ¬ RL b1 N1 b2 N2 A j p
theorem Frst.uniq {n m : Nat} {p : Int × Int} (h : Frst b1 N1 b2 N2 A n p) (k : Frst b1 N1 b2 N2 A m p) : n = m := by
  rcases Nat.lt_trichotomy n m with g | g | g
  · exact absurd h.1 (k.2 n g)
  · exact g
  · exact absurd k.1 (h.2 m g)
theorem RL.frst {n : Nat} {p : Int × Int} (h : RL b1 N1 b2 N2 A n p) : ∃ m, m ≤ n ∧ Frst b1 N1 b2 N2 A m p := by
  obtain ⟨m, g1, g2, g3⟩ := least_ex (P := fun j => RL b1 N1 b2 N2 A j p) h
  exact ⟨m, g1, g2, g3⟩
theorem Frst.back {n : Nat} {p : Int × Int} (h : Frst b1 N1 b2 N2 A (n + 1) p) : ∃ q, Frst b1 N1 b2 N2 A n q ∧ ∃ d : Int, (-(A : Int) < d ∧ d < A) ∧ p = led2 b1 N1 b2 N2 q d := by
  obtain ⟨q, hq, d, hd, rfl⟩ := RL_succ.mp h.1
  obtain ⟨m, g1, g2⟩ := hq.frst
  have : m = n := by
    refine Classical.byContradiction fun c => ?_
    exact h.2 (m + 1) (by omega) (RL_succ.mpr ⟨q, g2.1, d, hd, rfl⟩)
  subst this
  exact ⟨q, g2, d, hd, rfl⟩
/-- all that is reached, with the fewest letters -/
structure Rch (b1 N1 b2 N2 : Int) (A : Nat) (ks : List PN) : Prop where
  nd : (ks.map (·.1)).Nodup
  mem : ∀ p n, (p, n) ∈ ks ↔ Frst b1 N1 b2 N2 A n p
theorem Rch.miss {ks : List PN} (h : Rch b1 N1 b2 N2 A ks) {m : Nat} : LeastM b1 N1 b2 N2 A m ↔ (∃ p, (p, m) ∈ ks ∧ Msd p) ∧ ∀ p n, (p, n) ∈ ks → Msd p → m ≤ n := by
  constructor
  · intro hm
    obtain ⟨p, hp, hmd⟩ := hm.hit
    obtain ⟨j, j1, j2⟩ := hp.frst
    have : j = m := by
      refine Classical.byContradiction fun c => ?_
      exact hm.no j (by omega) p j2.1 hmd
    subst this
    refine ⟨⟨p, (h.mem p j).mpr j2, hmd⟩, fun q n hq hqm => ?_⟩
    refine Classical.byContradiction fun c => hm.no n (by omega) q ((h.mem q n).mp hq).1 hqm
  · rintro ⟨⟨p, hp, hmd⟩, hmin⟩
    refine ⟨⟨p, ((h.mem p m).mp hp).1, hmd⟩, fun j hj q hq hqm => ?_⟩
    obtain ⟨i, i1, i2⟩ := hq.frst
    have := hmin q i ((h.mem q i).mpr i2) hqm
    omega
theorem Rch.none {ks : List PN} (h : Rch b1 N1 b2 N2 A ks) : NoM b1 N1 b2 N2 A ↔ ∀ p n, (p, n) ∈ ks → ¬ Msd p := by
  constructor
  · exact fun hn p n hp hm => hn n p ((h.mem p n).mp hp).1 hm
  · intro hk j p hp hm
    obtain ⟨i, _, i2⟩ := hp.frst
    exact hk p i ((h.mem p i).mpr i2) hm
end
noncomputable def PrL2 (H : Hp) (l : Addr) (qs : List (Int × Int)) : Prop := ∃ ps : List Addr, H l = some (.lst (ps.map V.ref)) ∧ Paired (fun q p => pT H p q) qs ps
theorem PrL2.same {H H' : Hp} {l : Addr} {qs : List (Int × Int)} (h : PrL2 H l qs) (s : Same H H') : PrL2 H' l qs := by
  obtain ⟨ps, h1, h2⟩ := h
  exact ⟨ps, s _ _ h1, paired_imp (fun _ _ z => s _ _ z) h2⟩
noncomputable def spReach (c : CA) (Cp : Addr) : Sp := fun vs H Q _ => ∃ (o : Addr) (b1 b2 : Int) (ps1 ps2 : List (Int × Int)) (y1 y2 : Sty) (A : Nat), vs = [.ref o] ∧ PrAt c Cp H o b1 b2 ps1 ps2 y1 y2 A ∧ 1 ≤ A ∧ A ≤ 1000 ∧ num ps1 * num ps2 ≤ 10000 ∧ ∀ H' d ks, Same H H' → H' d = some (.dT (kvP ks)) → Rch b1 (num ps1) b2 (num ps2) A ks → Q (.ref d) H'
noncomputable def spMisLen (c : CA) (Cp : Addr) : Sp := fun vs H Q _ => ∃ (o d : Addr) (b1 b2 : Int) (ps1 ps2 : List (Int × Int)) (y1 y2 : Sty) (A : Nat) (ks : List PN), vs = [.ref o, .ref d] ∧ PrAt c Cp H o b1 b2 ps1 ps2 y1 y2 A ∧ H d = some (.dT (kvP ks)) ∧ Rch b1 (num ps1) b2 (num ps2) A ks ∧
  (NoM b1 (num ps1) b2 (num ps2) A → ∀ H', Same H H' → Q .non H') ∧ (∀ m, LeastM b1 (num ps1) b2 (num ps2) A m → ∀ H', Same H H' → Q (.int (m : Int)) H')
theorem few_pairs {N1 N2 : Int} {ks : List PN} (hn : (ks.map (·.1)).Nodup) (hk : ∀ p n, (p, n) ∈ ks → (0 ≤ p.1 ∧ p.1 < N1) ∧ 0 ≤ p.2 ∧ p.2 < N2) : ks.length ≤ N1.toNat * N2.toNat := by
  have := nodup_sub (m := (List.range N1.toNat).flatMap fun i : Nat => (List.range N2.toNat).map fun j : Nat => ((i : Int), (j : Int))) hn fun p hp => by
    obtain ⟨⟨q, n⟩, hq, rfl⟩ := List.mem_map.mp hp
    have h := hk q n hq
    refine List.mem_flatMap.mpr ⟨q.1.toNat, List.mem_range.mpr (by omega), List.mem_map.mpr ⟨q.2.toNat, List.mem_range.mpr (by omega), ?_⟩⟩
    exact Prod.ext (Int.toNat_of_nonneg h.1.1) (Int.toNat_of_nonneg h.2.1)
  rw [List.length_map, flat_lenQ (k := N2.toNat) _ (fun i => by rw [List.length_map, List.length_range]), List.length_range] at this
  exact this
/-- one more pair within a round -/
structure Rnd (b1 N1 b2 N2 : Int) (A L : Nat) (ks ks' : List PN) (qs' : List (Int × Int)) : Prop where
  nd : (ks'.map (·.1)).Nodup
  mem : ∀ p n, (p, n) ∈ ks' ↔ (p, n) ∈ ks ∨ (n = L + 1 ∧ p ∈ qs')
  new : ∀ p ∈ qs', Frst b1 N1 b2 N2 A (L + 1) p
  len : ks'.length = ks.length + qs'.length
theorem Rnd.add {b1 N1 b2 N2 : Int} {A L : Nat} {ks ks' : List PN} {qs' : List (Int × Int)} {q : Int × Int} {d : Int} (hks : ∀ p n, (p, n) ∈ ks ↔ n ≤ L ∧ Frst b1 N1 b2 N2 A n p) (h : Rnd b1 N1 b2 N2 A L ks ks' qs') (hq : Frst b1 N1 b2 N2 A L q) (hd : -(A : Int) < d ∧ d < A) (hno : numOf ks' (led2 b1 N1 b2 N2 q d) = none) : Rnd b1 N1 b2 N2 A L ks (ks' ++ [(led2 b1 N1 b2 N2 q d, L + 1)]) (qs' ++ [led2 b1 N1 b2 N2 q d]) := by
  have hno' := numOf_none.mp hno
  have hR : RL b1 N1 b2 N2 A (L + 1) (led2 b1 N1 b2 N2 q d) := RL_succ.mpr ⟨q, hq.1, d, hd, rfl⟩
  refine ⟨?_, fun p n => ?_, fun p hp => ?_, by rw [List.length_append, List.length_append, h.len]; simp; omega⟩
  · rw [List.map_append, List.nodup_append]
    refine ⟨h.nd, by simp, fun a ha b hb e => ?_⟩
    obtain ⟨⟨p, n⟩, hp, rfl⟩ := List.mem_map.mp ha
    have hb : b = led2 b1 N1 b2 N2 q d := by simpa using hb
    exact hno' n (by rw [← hb, ← e]; exact hp)
  · rw [List.mem_append, h.mem, List.mem_append, List.mem_singleton, List.mem_singleton]
    constructor
    · rintro ((g | ⟨g1, g2⟩) | g)
      · exact .inl g
      · exact .inr ⟨g1, .inl g2⟩
      · cases g
        exact .inr ⟨rfl, .inr rfl⟩
    · rintro (g | ⟨g1, g2 | g2⟩)
      · exact .inl (.inl g)
      · exact .inl (.inr ⟨g1, g2⟩)
      · rw [g1, g2]
        exact .inr rfl
  · rcases List.mem_append.mp hp with g | g
    · exact h.new p g
    · rw [List.mem_singleton.mp g]
      refine ⟨hR, fun j hj hRj => ?_⟩
      obtain ⟨i, i1, i2⟩ := hRj.frst
      exact hno' i ((h.mem _ i).mpr (.inl ((hks _ i).mpr ⟨by omega, i2⟩)))
theorem Rnd.done {b1 N1 b2 N2 : Int} {A L : Nat} {ks ks' : List PN} {qs' : List (Int × Int)} (hks : ∀ p n, (p, n) ∈ ks ↔ n ≤ L ∧ Frst b1 N1 b2 N2 A n p) (h : Rnd b1 N1 b2 N2 A L ks ks' qs') (all : ∀ q, Frst b1 N1 b2 N2 A L q → ∀ d : Int, -(A : Int) < d ∧ d < A → numOf ks' (led2 b1 N1 b2 N2 q d) ≠ none) : (∀ p n, (p, n) ∈ ks' ↔ n ≤ L + 1 ∧ Frst b1 N1 b2 N2 A n p) ∧ ∀ q, q ∈ qs' ↔ Frst b1 N1 b2 N2 A (L + 1) q := by
  have key : ∀ p, Frst b1 N1 b2 N2 A (L + 1) p → p ∈ qs' := fun p hp => by
    obtain ⟨q, hq, d, hd, rfl⟩ := hp.back
    cases hnum : numOf ks' (led2 b1 N1 b2 N2 q d) with
    | none => exact absurd hnum (all q hq d hd)
    | some n =>
      rcases (h.mem _ n).mp ((numOf_mem h.nd).mp hnum) with g | g
      · obtain ⟨g1, g2⟩ := (hks _ n).mp g
        have := hp.uniq g2
        omega
      · exact g.2
  refine ⟨fun p n => ?_, fun q => ⟨h.new q, key q⟩⟩
  rw [h.mem, hks]
  constructor
  · rintro (⟨g1, g2⟩ | ⟨g1, g2⟩)
    · exact ⟨by omega, g2⟩
    · rw [g1]
      exact ⟨Nat.le_refl _, h.new p g2⟩
  · rintro ⟨g1, g2⟩
    by_cases c : n = L + 1
    · subst c
      exact .inr ⟨rfl, key p g2⟩
    · exact .inl ⟨by omega, g2⟩
theorem Frst.down {b1 N1 b2 N2 : Int} {A : Nat} : ∀ {n : Nat} {p : Int × Int}, Frst b1 N1 b2 N2 A n p → ∀ m, m ≤ n → ∃ q, Frst b1 N1 b2 N2 A m q
  | 0, p, h, m, hm => ⟨p, by rw [show m = 0 by omega]; exact h⟩
  | n + 1, p, h, m, hm => by
    by_cases c : m = n + 1
    · rw [c]
      exact ⟨p, h⟩
    · obtain ⟨q, hq, _⟩ := h.back
      exact hq.down m (by omega)
theorem WayAt.rmT {c : CA} {H : Hp} {x d : Addr} {b : Int} {ps : List (Int × Int)} {y : Sty} (h : WayAt c H x b ps y) {kvs : List (List Key × V)} (hd : H d = some (.dT kvs)) : WayAt c (Bc.rm d H) x b ps y := by
  obtain ⟨dx1, m, k, h1, ⟨dx2, t, ts, g1, g2, g3, g4⟩, ⟨dx3, e1⟩, h4⟩ := h
  have ne : ∀ {b : Addr} {ob : HO}, H b = some ob → ob ≠ .dT kvs → b ≠ d := fun {b ob} hb n e => by
    rw [e, hd] at hb
    exact n (Option.some.inj hb).symm
  exact ⟨dx1, m, k, rm_of (ne h1 (fun e => by cases e)) h1, ⟨dx2, t, ts, rm_of (ne g1 (fun e => by cases e)) g1, rm_of (ne g2 (fun e => by cases e)) g2, paired_imp (fun a p z => rm_of (ne z (fun e => by cases e)) z) g3, g4⟩, ⟨dx3, rm_of (ne e1 (fun e => by cases e)) e1⟩, h4⟩
theorem PrAt.rmT {c : CA} {Cp : Addr} {H : Hp} {o d : Addr} {b1 b2 : Int} {ps1 ps2 : List (Int × Int)} {y1 y2 : Sty} {A : Nat} (h : PrAt c Cp H o b1 b2 ps1 ps2 y1 y2 A) {kvs : List (List Key × V)} (hd : H d = some (.dT kvs)) : PrAt c Cp (Bc.rm d H) o b1 b2 ps1 ps2 y1 y2 A := by
  obtain ⟨dx, x1, x2, l, h1, h2, h3⟩ := h
  exact ⟨dx, x1, x2, l, rm_ins hd (fun _ _ _ e => by cases e) h1, rm_lst hd (fun _ e => by cases e) h2, h3.one.rmT hd, h3.two.rmT hd, h3.n1, h3.n2⟩
theorem Rch.dec {b1 N1 b2 N2 : Int} {A : Nat} {ks : List PN} (h : Rch b1 N1 b2 N2 A ks) : (NoM b1 N1 b2 N2 A ↔ ∀ e ∈ ks, ¬ Msd e.1) ∧ ∀ m, (∃ e ∈ ks, e.2 = m ∧ Msd e.1) → (∀ e ∈ ks, Msd e.1 → m ≤ e.2) → LeastM b1 N1 b2 N2 A m := by
  refine ⟨⟨fun hn e he => (h.none.mp hn) e.1 e.2 he, fun hk => h.none.mpr fun p n hp => hk (p, n) hp⟩, fun m hm hmin => h.miss.mpr ⟨?_, fun p n hp hmd => hmin (p, n) hp hmd⟩⟩
  obtain ⟨e, he, rfl, hmd⟩ := hm
  exact ⟨e.1, he, hmd⟩
noncomputable def spWeighed (c : CA) : Sp := fun vs H Q _ => ∃ (x : Addr) (b : Int) (ps : List (Int × Int)) (y : Sty) (n : Nat), vs = [.ref x, .int n] ∧ WayAt c H x b ps y ∧ num ps ≤ 2000 ∧ n ≤ 10000 ∧ ∀ H' l, H l = none → Same H H' → H' l = some (.lst (((wsL (num ps) y.low n).map fun w => w b).map V.int)) → Q (.ref l) H'
end Bc
namespace Bc
open PySem PySem.Spec PyProof.Rows L2
structure LeO (le : Int → Int → Prop) (ks : List (Int × Int)) (L : Int → Option Int) : Prop where
  no : ∀ h, L h = none → ∀ t, (h, t) ∉ ks
  hit : ∀ h m, L h = some m → (h, m) ∈ ks
  low : ∀ h m t, L h = some m → (h, t) ∈ ks → le m t
theorem LeO.nil (le : Int → Int → Prop) : LeO le [] fun _ => none := ⟨fun _ _ _ h => (nomatch h), fun _ _ h => (nomatch h), fun _ _ _ h => (nomatch h)⟩
theorem LeO.upd {le : Int → Int → Prop} (tr : ∀ a b c, le a b → le b c → le a c) (rf : ∀ a, le a a) {ks : List (Int × Int)} {L : Int → Option Int} (h : LeO le ks L) {x t : Int} (hc : ∀ m, L x = some m → le t m) : LeO le (ks ++ [(x, t)]) fun z => if z = x then some t else L z := by
  refine ⟨fun z hz u hu => ?_, fun z m hz => ?_, fun z m u hz hu => ?_⟩
  · by_cases c : z = x
    · rw [if_pos c] at hz
      cases hz
    · rw [if_neg c] at hz
      rcases List.mem_append.mp hu with g | g
      · exact h.no z hz u g
      · exact c (Prod.ext_iff.mp (List.mem_singleton.mp g)).1
  · by_cases c : z = x
    · rw [if_pos c] at hz
      cases hz
      rw [c]
      exact List.mem_append_right _ (by simp)
    · rw [if_neg c] at hz
      exact List.mem_append_left _ (h.hit z m hz)
  · by_cases c : z = x
    · rw [if_pos c] at hz
      cases hz
      subst c
      rcases List.mem_append.mp hu with g | g
      · cases hL : L z with
        | none => exact absurd g (h.no z hL u)
        | some m => exact tr _ _ _ (hc m hL) (h.low z m u hL g)
      · have e : u = t := (Prod.ext_iff.mp (List.mem_singleton.mp g)).2
        rw [e]
        exact rf _
    · rw [if_neg c] at hz
      rcases List.mem_append.mp hu with g | g
      · exact h.low z m u hz g
      · exact absurd (Prod.ext_iff.mp (List.mem_singleton.mp g)).1 c
theorem LeO.keep {le : Int → Int → Prop} {ks : List (Int × Int)} {L : Int → Option Int} (h : LeO le ks L) {x t m : Int} (hm : L x = some m) (hc : le m t) : LeO le (ks ++ [(x, t)]) L := by
  refine ⟨fun z hz u hu => ?_, fun z n hz => List.mem_append_left _ (h.hit z n hz), fun z n u hz hu => ?_⟩
  · rcases List.mem_append.mp hu with g | g
    · exact h.no z hz u g
    · have := (Prod.ext_iff.mp (List.mem_singleton.mp g)).1
      have this : z = x := this
      subst this
      rw [hm] at hz
      cases hz
  · rcases List.mem_append.mp hu with g | g
    · exact h.low z n u hz g
    · obtain ⟨e1, e2⟩ := Prod.ext_iff.mp (List.mem_singleton.mp g)
      have e1 : z = x := e1
      have e2 : u = t := e2
      subst e1 e2
      rw [hm] at hz
      cases hz
      exact hc
noncomputable def leI (a b : Int) : Prop := a ≤ b
noncomputable def geI (a b : Int) : Prop := b ≤ a
/-- a dict of ints by ints -/
noncomputable def RsD (H : Hp) (l : Addr) (L : Int → Option Int) (n : Nat) : Prop := ∃ kvs : List (Key × V), H l = some (.dK kvs) ∧ kvs.length ≤ n ∧ ∀ h, valV kvs (.inl h) = (L h).map V.int
theorem RsD.put {H : Hp} {l : Addr} {L : Int → Option Int} {n : Nat} {kvs : List (Key × V)} (h2 : kvs.length ≤ n) (h3 : ∀ h, valV kvs (.inl h) = (L h).map V.int) (x t : Int) : RsD (L2.upd H l (.dK (putK kvs (.inl x) (.int t)))) l (fun z => if z = x then some t else L z) (n + 1) := by
  refine ⟨_, L2.upd_same, Nat.le_trans (length_putK ..) (by omega), fun h => ?_⟩
  rw [valV_put, h3]
  show (if (Sum.inl h : Key) = .inl x then some (V.int t) else (L h).map V.int) = (if h = x then some t else L h).map V.int
  by_cases c : h = x
  · subst c
    rw [if_pos rfl, if_pos rfl]
    rfl
  · rw [if_neg (fun e => c (Sum.inl.inj e)), if_neg c]
noncomputable def rsF (x1 x2 s l g : Addr) : List (Str × V) := [("one", .ref x1), ("other", .ref x2), ("sums", .ref s), ("least", .ref l), ("greatest", .ref g)]
section
variable {x1 x2 s l g : Addr}
theorem rs_one : (rsF x1 x2 s l g).lookup ("one" : Str) = some (.ref x1) := lk0
theorem rs_other : (rsF x1 x2 s l g).lookup ("other" : Str) = some (.ref x2) := (lkS (by decide +kernel)).trans lk0
theorem rs_least : (rsF x1 x2 s l g).lookup ("least" : Str) = some (.ref l) := (lkS (by decide +kernel)).trans ((lkS (by decide +kernel)).trans ((lkS (by decide +kernel)).trans lk0))
theorem rs_great : (rsF x1 x2 s l g).lookup ("greatest" : Str) = some (.ref g) := (lkS (by decide +kernel)).trans ((lkS (by decide +kernel)).trans ((lkS (by decide +kernel)).trans ((lkS (by decide +kernel)).trans lk0)))
theorem rs_no {m : Str} (h1 : m ≠ ("one" : Str)) (h2 : m ≠ ("other" : Str)) (h3 : m ≠ ("sums" : Str)) (h4 : m ≠ ("least" : Str)) (h5 : m ≠ ("greatest" : Str)) : (rsF x1 x2 s l g).lookup m = none := (lkS h1).trans ((lkS h2).trans ((lkS h3).trans ((lkS h4).trans ((lkS h5).trans rfl))))
end
/-- a Rests over the pairs ks -/
noncomputable def RsAt (c : CA) (Cr : Addr) (H : Hp) (o : Addr) (b1 b2 : Int) (ps1 ps2 : List (Int × Int)) (y1 y2 : Sty) (ks : List (Int × Int)) : Prop := ∃ dx x1 x2 s l g L G n, H o = some (.ins Cr dx (rsF x1 x2 s l g)) ∧ Ways2 c H x1 x2 b1 b2 ps1 ps2 y1 y2 ∧ RsD H l L n ∧ RsD H g G n ∧ LeO leI ks L ∧ LeO geI ks G
theorem RsD.same {H H' : Hp} {l : Addr} {L : Int → Option Int} {n : Nat} (h : RsD H l L n) (s : Same H H') : RsD H' l L n := by
  obtain ⟨kvs, h1, h2, h3⟩ := h
  exact ⟨kvs, s _ _ h1, h2, h3⟩
theorem RsAt.same {c : CA} {Cr : Addr} {H H' : Hp} {o : Addr} {b1 b2 : Int} {ps1 ps2 : List (Int × Int)} {y1 y2 : Sty} {ks : List (Int × Int)} (h : RsAt c Cr H o b1 b2 ps1 ps2 y1 y2 ks) (e : Same H H') : RsAt c Cr H' o b1 b2 ps1 ps2 y1 y2 ks := by
  obtain ⟨dx, x1, x2, s, l, g, L, G, n, h1, h2, h3, h4, h5⟩ := h
  exact ⟨dx, x1, x2, s, l, g, L, G, n, e _ _ h1, h2.same e, h3.same e, h4.same e, h5⟩
/-- a dict of pairs -/
noncomputable def DpP (H : Hp) (d : Addr) (ks : List (Int × Int)) : Prop := H d = some (.dT (ks.map fun p => (pk p, V.bl true)))
noncomputable def spRsInit (c : CA) (Cr : Addr) : Sp := fun vs H Q _ => ∃ (o dx x1 x2 s : Addr) (b1 b2 : Int) (ps1 ps2 : List (Int × Int)) (y1 y2 : Sty) (ks : List (Int × Int)), vs = [.ref o, .ref x1, .ref x2, .ref s] ∧ H o = some (.ins Cr dx []) ∧ Ways2 c H x1 x2 b1 b2 ps1 ps2 y1 y2 ∧ DpP H s ks ∧ ks.length ≤ 10000 ∧ ∀ H', (∀ b o', b ≠ o → H b = some o' → H' b = some o') → RsAt c Cr H' o b1 b2 ps1 ps2 y1 y2 ks → Q .non H'
/-- is_open -/
noncomputable def Opk (N1 N2 : Int) (ks : List (Int × Int)) (x : Int × Int) : Prop := ∃ t, (-x.1 % N1, t) ∈ ks ∧ (x.2 + t) % N2 ≠ 0
noncomputable def spRsOpen (c : CA) (Cr : Addr) : Sp := fun vs H Q _ => ∃ (o p : Addr) (b1 b2 : Int) (ps1 ps2 : List (Int × Int)) (y1 y2 : Sty) (ks : List (Int × Int)) (x : Int × Int), vs = [.ref o, .ref p] ∧ RsAt c Cr H o b1 b2 ps1 ps2 y1 y2 ks ∧ pT H p x ∧ (∀ q ∈ ks, 0 ≤ q.2 ∧ q.2 < num ps2) ∧ ∀ k : Bool, (k = true ↔ Opk (num ps1) (num ps2) ks x) → Q (.bl k) H
theorem opk_iff {N1 N2 : Int} {ks : List (Int × Int)} {x : Int × Int} {L G : Int → Option Int} (hN : 0 < N2) (hr : ∀ q ∈ ks, 0 ≤ q.2 ∧ q.2 < N2) (hL : LeO leI ks L) (hG : LeO geI ks G) : (L (-x.1 % N1) = none → ¬ Opk N1 N2 ks x) ∧ ∀ m g, L (-x.1 % N1) = some m → G (-x.1 % N1) = some g → (Opk N1 N2 ks x ↔ m ≠ g ∨ (x.2 + m) % N2 ≠ 0) := by
  refine ⟨fun h ⟨t, ht, _⟩ => hL.no _ h t ht, fun m g hm hg => ⟨?_, ?_⟩⟩
  · rintro ⟨t, ht, hne⟩
    by_cases c : m = g
    · right
      have h1 : m ≤ t := hL.low _ m t hm ht
      have h2 : t ≤ g := hG.low _ g t hg ht
      rw [show m = t by omega]
      exact hne
    · exact .inl c
  · have im := hL.hit _ m hm
    have ig := hG.hit _ g hg
    rintro (h | h)
    · by_cases c : (x.2 + m) % N2 = 0
      · refine ⟨g, ig, fun e => h ?_⟩
        have rm := hr _ im
        have rg := hr _ ig
        have e1 : (x.2 + m) % N2 = (x.2 + g) % N2 := by rw [c, e]
        have e2 := Int.emod_eq_emod_iff_emod_sub_eq_zero.mp e1
        rw [show x.2 + m - (x.2 + g) = m - g by omega] at e2
        obtain ⟨q, hq⟩ := Int.dvd_of_emod_eq_zero e2
        have hq0 : q = 0 := by
          rcases Int.lt_trichotomy q 0 with z | z | z
          · have := Int.mul_le_mul_of_nonneg_left (show q ≤ -1 by omega) (show 0 ≤ N2 by omega)
            simp only at rm rg
            omega
          · exact z
          · have := Int.mul_le_mul_of_nonneg_left (show 1 ≤ q by omega) (show 0 ≤ N2 by omega)
            simp only at rm rg
            omega
        rw [hq0, Int.mul_zero] at hq
        omega
      · exact ⟨m, im, c⟩
    · exact ⟨m, im, h⟩
theorem LeO.le_put {ks : List (Int × Int)} {L : Int → Option Int} (h : LeO leI ks L) {x t : Int} (c : t ≤ (L x).getD t) : LeO leI (ks ++ [(x, t)]) fun z => if z = x then some t else L z :=
  LeO.upd (le := leI) (L := L) (x := x) (t := t) (fun (a b d : Int) (p : leI a b) (q : leI b d) => (Int.le_trans p q : a ≤ d)) (fun a => (Int.le_refl a : a ≤ a)) h fun m e => by rw [e] at c; exact c
theorem LeO.le_keep {ks : List (Int × Int)} {L : Int → Option Int} (h : LeO leI ks L) {x t : Int} (c : ¬ t ≤ (L x).getD t) : LeO leI (ks ++ [(x, t)]) L := by
  cases e : L x with
  | none => rw [e] at c; exact absurd (Int.le_refl t) c
  | some m => rw [e] at c; exact h.keep e (Int.le_of_lt (Int.not_le.mp c))
theorem LeO.ge_put {ks : List (Int × Int)} {L : Int → Option Int} (h : LeO geI ks L) {x t : Int} (c : (L x).getD t ≤ t) : LeO geI (ks ++ [(x, t)]) fun z => if z = x then some t else L z :=
  LeO.upd (le := geI) (L := L) (x := x) (t := t) (fun (a b d : Int) (p : geI a b) (q : geI b d) => (Int.le_trans q p : d ≤ a)) (fun a => (Int.le_refl a : a ≤ a)) h fun m e => by rw [e] at c; exact c
theorem LeO.ge_keep {ks : List (Int × Int)} {L : Int → Option Int} (h : LeO geI ks L) {x t : Int} (c : ¬ (L x).getD t ≤ t) : LeO geI (ks ++ [(x, t)]) L := by
  cases e : L x with
  | none => rw [e] at c; exact absurd (Int.le_refl t) c
  | some m => rw [e] at c; exact h.keep e (Int.le_of_lt (Int.not_le.mp c))
theorem getD_int (o : Option Int) (t : Int) : (o.map V.int).getD (.int t) = V.int (o.getD t) := by cases o <;> rfl
theorem RsD.up {H H' : Hp} {l : Addr} {L : Int → Option Int} {n m : Nat} (h : RsD H l L n) (s : H' l = H l) (e : n ≤ m) : RsD H' l L m := by
  obtain ⟨kvs, h1, h2, h3⟩ := h
  exact ⟨kvs, s.trans h1, Nat.le_trans h2 e, h3⟩
end Bc
namespace Bc
open PySem PySem.Spec PyProof.Rows L2
theorem dp_val (k : Int × Int) : ∀ ks : List (Int × Int), valV (ks.map fun p => (pk p, V.bl true)) (pk k) = if k ∈ ks then some (.bl true) else none
  | [] => rfl
  | i :: ks => by
    have ih := dp_val k ks
    by_cases e : i = k
    · subst e
      rw [if_pos (List.mem_cons_self ..)]
      exact valV_pos rfl
    · rw [List.map_cons, valV_neg (show ¬ pk i = pk k from fun z => e (pk_inj z)), ih]
      by_cases hk : k ∈ ks
      · rw [if_pos hk, if_pos (List.mem_cons_of_mem _ hk)]
      · rw [if_neg hk, if_neg (fun z => (List.mem_cons.mp z).elim (fun z => e z.symm) hk)]
theorem dp_put {ks : List (Int × Int)} {k : Int × Int} (hn : ks.Nodup) : ∃ ks' : List (Int × Int), putK (ks.map fun p => (pk p, V.bl true)) (pk k) (.bl true) = ks'.map (fun p => (pk p, V.bl true)) ∧ ks'.Nodup ∧ ∀ x, x ∈ ks' ↔ x ∈ ks ∨ x = k := by
  by_cases h : k ∈ ks
  · refine ⟨ks, ?_, hn, fun x => ⟨.inl, fun z => z.elim id fun z => by rw [z]; exact h⟩⟩
    unfold putK
    rw [if_pos (by rw [valV_any, dp_val, if_pos h]; rfl), List.map_map]
    refine List.map_congr_left fun x _ => ?_
    show (if pk x = pk k then (pk x, V.bl true) else (pk x, V.bl true)) = _
    split <;> rfl
  · refine ⟨ks ++ [k], ?_, ?_, fun x => by simp⟩
    · rw [putK_new _ (by rw [dp_val, if_neg h]), List.map_append]
      rfl
    · rw [List.nodup_append]
      exact ⟨hn, by simp, fun a ha b hb e => h (by rw [List.mem_singleton.mp hb] at e; rw [← e]; exact ha)⟩
theorem few_dp {N1 N2 : Int} {ks : List (Int × Int)} (h1 : 0 < N1) (h2 : 0 < N2) (hN : N1 * N2 ≤ 10000) (hn : ks.Nodup) (hk : ∀ p ∈ ks, (0 ≤ p.1 ∧ p.1 < N1) ∧ 0 ≤ p.2 ∧ p.2 < N2) : ks.length ≤ 10000 := by
  have := few_pairs (N1 := N1) (N2 := N2) (ks := ks.map fun p => (p, 0)) (by rw [List.map_map]; exact (List.map_id ks).symm ▸ hn) fun p n h => by
    obtain ⟨q, hq, e⟩ := List.mem_map.mp h
    cases e
    exact hk _ hq
  rw [List.length_map] at this
  have e : ((N1.toNat * N2.toNat : Nat) : Int) = N1 * N2 := by rw [Int.natCast_mul, Int.toNat_of_nonneg (by omega), Int.toNat_of_nonneg (by omega)]
  omega
theorem Sta_rng {b1 N1 b2 N2 : Int} {w1 w2 : List (Int → Int)} {U : List (List Int)} {p : Int × Int} (h1 : 0 < N1) (h2 : 0 < N2) (h : Sta b1 N1 b2 N2 w1 w2 U p) : (0 ≤ p.1 ∧ p.1 < N1) ∧ 0 ≤ p.2 ∧ p.2 < N2 := by
  obtain ⟨ss, _, rfl⟩ := h
  exact ⟨⟨Int.emod_nonneg _ (by omega), Int.emod_lt_of_pos _ h1⟩, Int.emod_nonneg _ (by omega), Int.emod_lt_of_pos _ h2⟩
theorem mov2_rng {b1 N1 b2 N2 s : Int} {f g : Int → Int} {x : Int × Int} (h1 : 0 < N1) (h2 : 0 < N2) : (0 ≤ (mov2 b1 N1 b2 N2 f g x s).1 ∧ (mov2 b1 N1 b2 N2 f g x s).1 < N1) ∧ 0 ≤ (mov2 b1 N1 b2 N2 f g x s).2 ∧ (mov2 b1 N1 b2 N2 f g x s).2 < N2 :=
  ⟨⟨Int.emod_nonneg _ (by omega), Int.emod_lt_of_pos _ h1⟩, Int.emod_nonneg _ (by omega), Int.emod_lt_of_pos _ h2⟩
theorem Sta_cons {b1 N1 b2 N2 : Int} {f g : Int → Int} {w1 w2 : List (Int → Int)} {c : List Int} {U : List (List Int)} {y : Int × Int} : Sta b1 N1 b2 N2 (f :: w1) (g :: w2) (c :: U) y ↔ ∃ x, Sta b1 N1 b2 N2 w1 w2 U x ∧ ∃ s ∈ c, y = mov2 b1 N1 b2 N2 f g x s := by
  have key : ∀ (s v b : Int) (f : Int → Int) (N : Int), (v % N + s * f b) % N = (s * f b + v) % N := fun s v b f N => by rw [mod_addL, Int.add_comm]
  constructor
  · rintro ⟨ss, hs, rfl⟩
    cases ss with
    | nil => exact hs.elim
    | cons s us =>
      refine ⟨_, ⟨us, hs.2, rfl⟩, s, hs.1, ?_⟩
      unfold mov2
      simp only [key]
      rfl
  · rintro ⟨x, ⟨us, g1, rfl⟩, s, g2, rfl⟩
    refine ⟨s :: us, ⟨g2, g1⟩, ?_⟩
    unfold mov2
    simp only [key]
    rfl
theorem Sta_nil {b1 N1 b2 N2 : Int} {p : Int × Int} : Sta b1 N1 b2 N2 [] [] [] p ↔ p = (0, 0) := by
  constructor
  · rintro ⟨ss, hs, rfl⟩
    cases ss with
    | cons => exact hs.elim
    | nil => rw [SF_nil, SF_nil, Int.zero_emod, Int.zero_emod]
  · rintro rfl
    exact ⟨[], trivial, by rw [SF_nil, SF_nil, Int.zero_emod, Int.zero_emod]⟩
/-- rests tell what goes on -/
theorem opk_opn {b1 N1 b2 N2 : Int} {w1 w2 : List (Int → Int)} {U : List (List Int)} {ks : List (Int × Int)} (h1 : 0 < N1) (hk : ∀ p, p ∈ ks ↔ Sta b1 N1 b2 N2 w1 w2 U p) {x : Int × Int} : Opk N1 N2 ks x ↔ Opn b1 N1 b2 N2 w1 w2 U x := by
  have e1 : ∀ v : Int, -x.1 % N1 = v % N1 ↔ (x.1 + v) % N1 = 0 := fun v => by
    rw [Int.emod_eq_emod_iff_emod_sub_eq_zero]
    have : -x.1 - v = -(x.1 + v) := by omega
    rw [this]
    constructor
    · intro h
      have := Int.dvd_of_emod_eq_zero h
      exact Int.emod_eq_zero_of_dvd (Int.dvd_neg.mp this)
    · intro h
      have := Int.dvd_of_emod_eq_zero h
      exact Int.emod_eq_zero_of_dvd (Int.dvd_neg.mpr this)
  have e2 : ∀ v : Int, (x.2 + v % N2) % N2 = (x.2 + v) % N2 := fun v => by rw [Int.add_emod, Int.emod_emod_of_dvd _ (Int.dvd_refl N2), ← Int.add_emod]
  constructor
  · rintro ⟨t, ht, hne⟩
    obtain ⟨us, hu, e⟩ := (hk _).mp ht
    obtain ⟨g1, g2⟩ := Prod.ext_iff.mp e
    have g1 : -x.1 % N1 = SF w1 us b1 % N1 := g1
    have g2 : t = SF w2 us b2 % N2 := g2
    refine ⟨us, hu, (e1 _).mp g1, ?_⟩
    rw [g2, e2] at hne
    exact hne
  · rintro ⟨us, hu, g1, g2⟩
    refine ⟨SF w2 us b2 % N2, (hk _).mpr ⟨us, hu, Prod.ext ((e1 _).mpr g1) rfl⟩, ?_⟩
    rw [e2]
    exact g2
noncomputable def RowL (H : Hp) (l : Addr) (U : List (List Int)) : Prop := ∃ rs : List Addr, H l = some (.lst (rs.map V.ref)) ∧ Paired (fun u r => H r = some (.lst (u.map V.int))) U rs
theorem RowL.same {H H' : Hp} {l : Addr} {U : List (List Int)} (h : RowL H l U) (s : Same H H') : RowL H' l U := by
  obtain ⟨rs, h1, h2⟩ := h
  exact ⟨rs, s _ _ h1, paired_imp (fun _ _ z => s _ _ z) h2⟩
noncomputable def RsFor (c : CA) (Cr : Addr) (H : Hp) (o : Addr) (b1 b2 : Int) (ps1 ps2 : List (Int × Int)) (y1 y2 : Sty) (w1 w2 : List (Int → Int)) (U : List (List Int)) : Prop := ∃ ks, RsAt c Cr H o b1 b2 ps1 ps2 y1 y2 ks ∧ ∀ p, p ∈ ks ↔ Sta b1 (num ps1) b2 (num ps2) w1 w2 U p
theorem RsFor.same {c : CA} {Cr : Addr} {H H' : Hp} {o : Addr} {b1 b2 : Int} {ps1 ps2 : List (Int × Int)} {y1 y2 : Sty} {w1 w2 : List (Int → Int)} {U : List (List Int)} (h : RsFor c Cr H o b1 b2 ps1 ps2 y1 y2 w1 w2 U) (s : Same H H') : RsFor c Cr H' o b1 b2 ps1 ps2 y1 y2 w1 w2 U := by
  obtain ⟨ks, h1, h2⟩ := h
  exact ⟨ks, h1.same s, h2⟩
theorem use_rs {c : CA} {Cr : Addr} {H : Hp} {PP : Addr → Hp → Prop} {E : XK} {x1 x2 s : Addr} {b1 b2 : Int} {ps1 ps2 : List (Int × Int)} {y1 y2 : Sty} {ks : List (Int × Int)} (hw : Ways2 c H x1 x2 b1 b2 ps1 ps2 y1 y2) (hs : DpP H s ks) (hk : ks.length ≤ 10000) (q : ∀ o H', H o = none → Same H H' → RsAt c Cr H' o b1 b2 ps1 ps2 y1 y2 ks → PP o H') :
    ∀ o dx, H o = none → H dx = none → dx ≠ o → spRsInit c Cr [.ref o, .ref x1, .ref x2, .ref s] (upd (upd H dx (.own o)) o (.ins Cr dx [])) (fun v H2 => v = .non ∧ PP o H2) E := fun o dx nx nd ne => by
  have up : Same H (upd (upd H dx (.own o)) o (.ins Cr dx [])) := fun b o' e => by rw [upd_ne (ne_of_none e nx), upd_ne (ne_of_none e nd)]; exact e
  exact ⟨o, dx, x1, x2, s, b1, b2, ps1, ps2, y1, y2, ks, rfl, L2.upd_same, hw.same up, up _ _ hs, hk, fun H' k h => ⟨rfl, q o H' nx (mk_same nx nd k) h⟩⟩
theorem w_iRev {tr : L2.St → Hp → (Int → Int → Hp → Prop) → Prop} {σ : L2.St} {H : Hp} {R : It → Hp → Prop} (q : tr σ H fun a b H1 => -(2 ^ 62) ≤ a ∧ a < 2 ^ 62 ∧ -(2 ^ 62) ≤ b ∧ b < 2 ^ 62 ∧ R (Itc (a + (((b - a).toNat : Nat) : Int) - 1) (-1) (b - a).toNat) H1) : iRevR tr σ H R := q
noncomputable def spRestsOf (c : CA) (Cr : Addr) : Sp := fun vs H Q _ => ∃ (x1 x2 l : Addr) (b1 b2 : Int) (ps1 ps2 : List (Int × Int)) (y1 y2 : Sty) (U : List (List Int)), vs = [.ref x1, .ref x2, .ref l] ∧ Ways2 c H x1 x2 b1 b2 ps1 ps2 y1 y2 ∧ num ps1 * num ps2 ≤ 10000 ∧ RowL H l U ∧ U.length ≤ 10000 ∧ (∀ u ∈ U, ∀ s ∈ u, s.natAbs ≤ 2000) ∧
  ∀ H' r (os : List Addr), H r = none → Same H H' → H' r = some (.lst (os.map V.ref)) → os.length = U.length + 1 → (∀ i o, os[i]? = some o → RsFor c Cr H' o b1 b2 ps1 ps2 y1 y2 ((wsL (num ps1) y1.low U.length).drop i) ((wsL (num ps2) y2.low U.length).drop i) (U.drop i)) → Q (.ref r) H'
theorem drop_sub {α : Type} {n i : Nat} {ws : List α} {f : α} (hl : ws.length = n) (hi : i < n) (h : ws[n - 1 - i]? = some f) : ws.drop (n - (i + 1)) = f :: ws.drop (n - i) := by
  have hg := List.getElem?_eq_some_iff.mp h
  rw [List.drop_eq_getElem_cons (by omega)]
  congr 1
  · rw [← hg.2]
    congr 1
    omega
  · congr 1
    omega
theorem WayAt.rmG {c : CA} {H : Hp} {x d : Addr} {b : Int} {ps : List (Int × Int)} {y : Sty} {u : HO} (h : WayAt c H x b ps y) (hd : H d = some u) (u1 : ∀ C dx fs, u ≠ .ins C dx fs) (u2 : ∀ xs, u ≠ .tup xs) : WayAt c (Bc.rm d H) x b ps y := by
  obtain ⟨dx1, m, k, h1, ⟨dx2, t, ts, g1, g2, g3, g4⟩, ⟨dx3, e1⟩, h4⟩ := h
  have ni : ∀ {b C dx : Addr} {fs : List (Str × V)}, H b = some (.ins C dx fs) → b ≠ d := fun hb e => by
    rw [e, hd] at hb
    exact u1 _ _ _ (Option.some.inj hb)
  have nt : ∀ {b : Addr} {xs : List V}, H b = some (.tup xs) → b ≠ d := fun hb e => by
    rw [e, hd] at hb
    exact u2 _ (Option.some.inj hb)
  exact ⟨dx1, m, k, rm_of (ni h1) h1, ⟨dx2, t, ts, rm_of (ni g1) g1, rm_of (nt g2) g2, paired_imp (fun a p z => rm_of (nt z) z) g3, g4⟩, ⟨dx3, rm_of (ni e1) e1⟩, h4⟩
theorem Ways2.rmG {c : CA} {H : Hp} {x1 x2 d : Addr} {b1 b2 : Int} {ps1 ps2 : List (Int × Int)} {y1 y2 : Sty} {u : HO} (h : Ways2 c H x1 x2 b1 b2 ps1 ps2 y1 y2) (hd : H d = some u) (u1 : ∀ C dx fs, u ≠ .ins C dx fs) (u2 : ∀ xs, u ≠ .tup xs) : Ways2 c (Bc.rm d H) x1 x2 b1 b2 ps1 ps2 y1 y2 := ⟨h.one.rmG hd u1 u2, h.two.rmG hd u1 u2, h.n1, h.n2⟩
theorem Ways2.rmT {c : CA} {H : Hp} {x1 x2 d : Addr} {b1 b2 : Int} {ps1 ps2 : List (Int × Int)} {y1 y2 : Sty} {kvs : List (List Key × V)} (h : Ways2 c H x1 x2 b1 b2 ps1 ps2 y1 y2) (hd : H d = some (.dT kvs)) : Ways2 c (Bc.rm d H) x1 x2 b1 b2 ps1 ps2 y1 y2 := h.rmG hd (fun _ _ _ e => by cases e) fun _ e => by cases e
theorem RsAt.rmL {c : CA} {Cr : Addr} {H : Hp} {o d : Addr} {b1 b2 : Int} {ps1 ps2 : List (Int × Int)} {y1 y2 : Sty} {ks : List (Int × Int)} {xs : List V} (h : RsAt c Cr H o b1 b2 ps1 ps2 y1 y2 ks) (hd : H d = some (.lst xs)) : RsAt c Cr (Bc.rm d H) o b1 b2 ps1 ps2 y1 y2 ks := by
  obtain ⟨dx, x1, x2, s, l, g, L, G, n, h1, h2, ⟨kl, h3, h3'⟩, ⟨kg, h4, h4'⟩, h5, h6⟩ := h
  exact ⟨dx, x1, x2, s, l, g, L, G, n, rm_ins hd (fun _ _ _ e => by cases e) h1, h2.rmG hd (fun _ _ _ e => by cases e) (fun _ e => by cases e), ⟨kl, rm_of (fun e => by rw [e, hd] at h3; cases h3) h3, h3'⟩, ⟨kg, rm_of (fun e => by rw [e, hd] at h4; cases h4) h4, h4'⟩, h5, h6⟩
theorem wsL_bd {N b : Int} {lw : Bool} {n : Nat} {f : Int → Int} (hN : 0 < N) (h : f ∈ wsL N lw n) : 0 ≤ f b ∧ f b < N := by
  have key : ∀ f ∈ (List.range n).map (pwF N), 0 ≤ f b ∧ f b < N := fun f hf => by
    obtain ⟨e, _, rfl⟩ := List.mem_map.mp hf
    exact ⟨Int.emod_nonneg _ (by omega), Int.emod_lt_of_pos _ hN⟩
  unfold wsL at h
  cases lw with
  | true => rw [if_pos rfl] at h; exact key f h
  | false => rw [if_neg (by decide)] at h; exact key f (List.mem_reverse.mp h)
end Bc
namespace Bc
open PySem PySem.Spec PyProof.Rows L2
section
open PySem PySem.W PyProof.Rows PyProof.V PySem.Calls
variable {prog : Program} {w : World} {A : Around} {E : Value → Shared → Prop} {s : Shared}
theorem samePairs_empty {nm : String} {a b : Addr} {oa ob : Obj} {es : Array DictEntry} {ep ep' : Nat} {Q : Bool → Shared → Prop} (ha : (a == sysModules) = false) (hb : (b == sysModules) = false)
    (hoa : s.heap.get? a = some oa) (hda : oa.data = .dict es ep) (hob : s.heap.get? b = some ob) (hdb : ob.data = .dict #[] ep') (h : Q (es.size == 0) s) :
    wpAny (model prog w) A (Builtin.Dict.samePairs nm a b) Q E s := by
  unfold Builtin.Dict.samePairs Builtin.Dict.showsAll
  rw [if_neg (show ¬ (a == sysModules) = true by rw [ha]; exact Bool.false_ne_true), if_neg (show ¬ (b == sysModules) = true by rw [hb]; exact Bool.false_ne_true)]
  refine wpAny_bind (wpAny_pure (wpAny_bind (wpAny_pure ?_)))
  refine wpAny_bind (wpAny_dictEntries hoa hda ?_)
  dsimp only
  refine wpAny_bind (wpAny_dictEntries hob hdb ?_)
  have e0 : (#[] : Array DictEntry).size = 0 := rfl
  by_cases hsz : es.size = 0
  case neg =>
    rw [if_pos (by rw [e0]; simpa using hsz)]
    have hbf : (es.size == 0) = false := by simpa using hsz
    rw [hbf] at h
    exact wpAny_bind (wpAny_rule (wpAny_pure h))
  case pos =>
    have h' : Q true s := by simpa [hsz] using h
    rw [if_neg (by rw [hsz, e0]; simp)]
    refine wpAny_bind (wpAny_dictEpoch hoa hda ?_)
    refine wpAny_bind ?_
    rw [Std.Legacy.Range.forIn_eq_forIn_range']
    simp only [Std.Legacy.Range.size, Nat.sub_zero, Nat.add_sub_cancel, Nat.div_one]
    refine wpAny_forIn_list _
      (fun rest q s' => s' = s ∧ q = (none, ()) ∧ rest = [])
      _ ?_ ?_ _ _ ⟨rfl, rfl, by simp [hsz]⟩
    · rintro x rest q s' ⟨rfl, rfl, hr⟩
      cases hr
    · rintro q s' ⟨rfl, rfl, _⟩
      exact wpAny_pure h'
theorem eq_empty {a b : Addr} {oa ob : Obj} {es : Array DictEntry} {ep ep' : Nat} {Q : Value → Shared → Prop} (ha : (a == sysModules) = false) (hb : (b == sysModules) = false)
    (hoa : s.heap.get? a = some oa) (xa : oa.ExactDict) (hda : oa.data = .dict es ep) (hob : s.heap.get? b = some ob) (xb : ob.ExactDict) (hdb : ob.data = .dict #[] ep') (hu : A.units < cLine) (h : Q (.bool (es.size == 0)) s) :
    wpAny (model prog w) A (compareOp .Eq (.ref a) (.ref b)) Q E s := by
  have ta : s.TypeIs (.ref a) "dict" := ⟨oa, hoa, xa.1⟩
  have tb : s.TypeIs (.ref b) "dict" := ⟨ob, hob, xb.1⟩
  refine wpAny_richCompare_same_room (op := .Eq) ta tb PySem.F.slot_dict_eq (wpAny_call_entry PySem.F.slot_dict_eq ta PySem.F.entry_dict_eq ?_ (PySem.F.args_dict_eq_2 _ _)) hu
  show wpAny _ _ (Builtin.Dict.dictSlotArgs "__eq__" ⟨[.ref a, .ref b], []⟩ >>= _) _ _ s
  refine wpAny_bind ?_
  unfold Builtin.Dict.dictSlotArgs
  refine wpAny_bind (wpAny_notOrdered_dict ta ?_)
  show wpAny _ _ (pure (Value.ref a, Value.ref b)) _ _ s
  refine wpAny_pure ?_
  refine wpAny_bind (wpAny_isInstance (T := "dict") tb PySem.F.sub_dict_dict ?_)
  simp only [Bool.not_true, Bool.false_eq_true, if_false]
  refine wpAny_bind (wpAny_pure (wpAny_bind (wpAny_pure ?_)))
  refine wpAny_bind (samePairs_empty ha hb hoa hda hob hdb ?_)
  refine wpAny_pure ⟨_, rfl, ?_, ?_⟩
  · exact fun x => nomatch x
  · simpa using h
end
noncomputable def rEqDT : R2 := fun x y H Q => ∃ a b ks, x = .ref a ∧ y = .ref b ∧ H a = some (.dT ks) ∧ H b = some (.dT []) ∧ Q (.bl ks.isEmpty) H
theorem op_eqDT {X : Cx} (hu : X.A.units < cLine) : OpR X (compareOp .Eq) rEqDT := by
  intro pins s σ H x y v u Q I rx ry h
  obtain ⟨a, b, ks, rfl, rfl, ea, eb, q⟩ := h
  obtain rfl : v = Value.ref a := rx
  obtain rfl : u = Value.ref b := ry
  obtain ⟨_, ya, xa, ra, oa, es, ep, hoa, xda, hda, hes, _⟩ := (show ObjOk X.prog X.w H s.heap a (.dT ks) from I.hok a _ ea)
  obtain ⟨_, yb, xb, rb, ob, es', ep', hob, xdb, hdb, hes', _⟩ := (show ObjOk X.prog X.w H s.heap b (.dT []) from I.hok b _ eb)
  have la := ra.length
  have lb := rb.length
  have l1 : es.size = ks.length := by rw [← Array.length_toList, hes, List.length_map, la]
  have l2 : es' = #[] := by
    apply Array.eq_empty_of_size_eq_zero
    rw [← Array.length_toList, hes', List.length_map, ← lb]
    rfl
  subst l2
  refine eq_empty ya yb hoa xda hda hob xdb hdb hu (fin_bl I q ?_)
  rw [l1]
  cases ks with
  | nil => rfl
  | cons k ks => rfl
theorem w_eqDT {p q : Addr} {ks : List (List Key × V)} {H : Hp} {Q : VK} (h1 : H p = some (.dT ks)) (h2 : H q = some (.dT [])) (k : Q (.bl ks.isEmpty) H) : rEqDT (.ref p) (.ref q) H Q := ⟨p, q, ks, rfl, rfl, h1, h2, k⟩
end Bc
namespace Bc
open PySem PySem.Spec PyProof.Rows L2
section
open PySem
variable {P : Program} {w : World} {A : Around} {E : Value → Shared → Prop} {s : Shared}
noncomputable abbrev so0 (w : World) : Obj := { cls := .type "set", dict := none, data := .set #[] 0 (.fresh 0 0 (!w.params.followText "set-order")) }
set_option maxRecDepth 100000 in
set_option maxHeartbeats 3200000 in
theorem call_setL {u : Addr} {its : Array Value} (zs : List Int) {Q : Value → Shared → Prop} (nh : A.handled = none) (ul : s.heap.IsList u its) (iz : PyProof.Rows.IntsAre its.toList zs) (few : zs.length + 1 < scanBound)
    (q : ∀ (g : Heap) (tk c : Nat), SetR w g s.heap.objs.size (fun j => decide (j ∈ zs)) c → c ≤ zs.length → (∀ b o, s.heap.get? b = some o → g.get? b = some o) → Q (.ref s.heap.objs.size) { s with heap := g, toks := tk }) :
    wpAny (model P w) A (call (.type "set") [.ref u]) Q E s := by
  have sz : its.size = zs.length := by have := IntsAre.length iz; rwa [Array.length_toList] at this
  obtain ⟨cc, tl, mr⟩ := F.called_set.mro
  have md := F.called_set.made
  have sb := F.called_set.sub
  refine wpAny_call (codeAny_of_tree (show wpAny _ _ (callAny (.type "set") _) _ _ _ from wpAny_pure ⟨Code.quiet_builtin _ (by decide +kernel), codeAny_builtin F.entry_type_call ?_⟩))
  rw [Around.under_plain (weight_type_call_type "set" [.ref u] []) rfl]
  have t1 := F.called_set.notType
  have t2 := F.called_set.canCreate
  have t3 := F.typeCall_set_1 (.ref u)
  repeat (any_goals (first | assumption | wp_step))
  refine codeAny_mono (code_set_led1 (.ref u) (E := E) (Q₁ := fun ob s₁ => ob = .ref s.heap.objs.size ∧ s₁ = { s with heap := s.heap.push (so0 w) }) ⟨rfl, rfl⟩) fun r s₁ hr => ?_
  cases r with
  | error e => exact hr
  | ok fl =>
    cases fl with
    | ret ob =>
      obtain ⟨rfl, rfl⟩ := hr
      have at0 : (s.heap.push (so0 w)).get? s.heap.objs.size = some (so0 w) := Heap.get?_push_size _ rfl
      have ty0 : Shared.TypeIs { s with heap := s.heap.push (so0 w) } (.ref s.heap.objs.size) "set" := ⟨_, at0, rfl⟩
      have i1 := F.called_set.init.lookup
      have i2 := F.called_set.init.bind (.ref s.heap.objs.size)
      repeat (any_goals (first | assumption | wp_step))
      refine codeAny_mono (codeAny_call_builtin (R := wants (fun r s₂ => r = .none ∧ ∃ g tk c, s₂ = { s with heap := g, toks := tk } ∧ SetR w g s.heap.objs.size (fun j => decide (j ∈ zs)) c ∧ c ≤ zs.length ∧ (∀ b o, s.heap.get? b = some o → g.get? b = some o)) E) F.called_set.init.plain F.entry_set_init (check_set_init_1 ty0 ?_)) fun r₂ s₂ z₂ => ?_
      · obtain ⟨⟨oc, od, dt, os⟩, ho, ec, nl, ed⟩ := ul
        simp only at ec ed
        subst ec
        subst ed
        have ho1 : (s.heap.push (so0 w)).get? u = some { cls := .type "list", dict := od, data := .seq its nl, slots := os } := Heap.get?_push_of_some _ ho
        have n1 := F.sub_list_set
        have n2 := F.sub_list_frozenset
        have n3 : (Value.type "list" == Value.type "dict") = false := by decide
        have l1 : (s.heap.push (so0 w)).IsList u its := ⟨_, ho1, rfl, nl, rfl⟩
        unfold Builtin.«set.__init__» noKeywords Builtin.Frozenset.updateFrom
        generalize ePI : pyIter = PI
        wp_walk
        subst ePI
        refine wpAny_pyIter_list l1 (wpAny_bind (wpAny_runValue ?_))
        have ult : u < s.heap.objs.size := Heap.lt_size ho
        have nh3 : A.in1.in1.in1.handled = none := by simp [nh]
        have psz : (s.heap.push (so0 w)).objs.size = s.heap.objs.size + 1 := Heap.size_push ..
        have nu : u ≠ (s.heap.push (so0 w)).objs.size := by rw [psz]; exact Nat.ne_of_lt (Nat.lt_succ_of_lt ult)
        have nS : s.heap.objs.size ∉ [(s.heap.push (so0 w)).objs.size, u] := by
          simp only [List.mem_cons, List.not_mem_nil, or_false, not_or]
          exact ⟨by rw [psz]; exact Nat.ne_of_lt (Nat.lt_succ_self _), Nat.ne_of_gt ult⟩
        have vals : ∀ (i : Nat) (v : Value), its[i]? = some v → ∃ k t, zs[i]? = some k ∧ v = .int k t := fun i v hv => by
          have hi : i < zs.length := by have := (Array.getElem?_eq_some_iff.mp hv).1; omega
          obtain ⟨t, e⟩ := PyProof.Rows.IntsAre.int_at iz i v (by rw [Array.getElem?_toList]; exact hv)
          exact ⟨zs[i], t, List.getElem?_eq_getElem hi, by rw [e, List.getD_eq_getElem?_getD, List.getElem?_eq_getElem hi] <;> rfl⟩
        refine set_update_ints ((Walks.list nh3 _ u nu its).toS) s.heap.objs.size nS zs sz few vals (its.size - 0) 0 _ (by omega) (Nat.zero_le _) ⟨⟨_, Heap.get?_push_size _ rfl, rfl, rfl⟩, (l1.push _)⟩ ⟨0, Nat.le_refl 0, setR_new_at (Heap.get?_push_of_some _ at0)⟩ fun s' c' mv c1 R' => ?_
        obtain ⟨g, g2, d', tk', os'⟩ := s'
        have e1 : g2 = s.gens := mv.gens
        have e2 : d' = s.drawn := mv.drawn
        have e3 : os' = s.os := mv.os
        subst e1 e2 e3
        show wpAny _ _ _ _ _ _
        refine wpAny_pure (show wpAny _ _ (ret Value.none) _ _ _ from ?_)
        rw [sz] at c1
        refine wpAny_pure ⟨rfl, g, tk', c', rfl, R', c1, fun b o e => ?_⟩
        have b0 : b < s.heap.objs.size := Heap.lt_size e
        refine mv.heap b o ?_ (Heap.get?_push_of_some _ (Heap.get?_push_of_some _ e))
        simp only [List.mem_cons, List.not_mem_nil, or_false, not_or]
        exact ⟨Nat.ne_of_lt b0, by rw [psz]; exact Nat.ne_of_lt (Nat.lt_succ_of_lt b0)⟩
      · cases r₂ with
        | error e => exact z₂
        | ok fl₂ =>
          cases fl₂ with
          | ret r =>
            obtain ⟨rfl, g, tk, c, rfl, R', c1, k'⟩ := z₂
            repeat (any_goals (first | assumption | wp_step))
            exact q _ _ _ R' c1 k'
          | _ => exact z₂.elim
    | _ => exact hr.elim
end
/-- sorted(set(e)), fewer than 60 ints -/
noncomputable def tSortSet (K : PySem.W.Frag) (ta : TE) : TE := fun σ H Q => ta σ H fun x H1 => ∃ (l : Addr) (zs : List Int), x = V.ref l ∧ SqL K H1 l (zs.map V.int) ∧ zs.length ≤ 60 ∧ ∀ (ns : List Int) (p : Addr), ns.Pairwise (· < ·) → (∀ k : Int, k ∈ ns ↔ k ∈ zs) → H1 p = none → Q (.ref p) (L2.upd H1 p (.lst (ns.map V.int)))
theorem pe_sortSet {X : Cx} {a : Expr} {ta : TE} {p p2 q pos : Pos} (hc : X.calm = true) (hg : Gl X "sorted") (hm : X.mg "sorted" = none) (hg2 : Gl X "set") (hm2 : X.mg "set" = none) (ha : PE X a ta)
    (na : starEach [a] X.env = (false, eval a X.env) :: starEach [] X.env := by rfl) : PE X (.Call (.Name "sorted" p) [.Call (.Name "set" p2) [a] [] q] [] pos) (tSortSet X.K ta) := by
  refine ⟨fun pins s σ H Q I h => ?_⟩
  refine Call_ (ld_blt I hg hm PyProof.Rows.boot_sorted ?_)
  refine PyProof.Rows.callWith_builtin1 (PyProof.Rows.args_cons ?_ rfl) rfl rfl
  refine Call_ (ld_blt I hg2 hm2 PyProof.Rows.boot_set ?_)
  refine PyProof.Rows.callWith_type1 (PyProof.Rows.args_cons (thn (ha.run pins s σ H _ I h) fun v s1 ⟨x, H1, I1, r1, q1⟩ => PyProof.Rows.args_nil ?_) na) na rfl
  obtain ⟨l, zs, rfl, hq, hz, q1⟩ := q1
  cases r1
  obtain ⟨its, r, pl, hsz⟩ := I1.list hq
  have line : (62 : Nat) < scanBound := by decide
  refine call_setL zs (I1.ok.hd hc) pl.isList (intsAre_of r) (by omega) fun g tk c R c1 k => ?_
  refine PyProof.Rows.args_nil ?_
  have I2 : Inv X pins σ H1 { s1 with heap := g, toks := tk } := I1.kept k
  have R2 : SetR X.w ({ s1 with heap := g, toks := tk } : Shared).heap s1.heap.objs.size (fun j => decide (j ∈ zs)) c := R
  generalize ({ s1 with heap := g, toks := tk } : Shared) = s2 at I2 R2 ⊢
  refine sorted_set R2 (I2.ok.hd hc) (by omega) fun s' p out cc ns k2 g2 o hp hpg hi hs hmm hl => ?_
  have hlen : (ns.map V.int).length ≤ sizeLine := by rw [List.length_map, hl, sizeLine_eq]; omega
  have hn : H1 p = none := I2.hok.fresh hp
  have J : Inv X pins σ (L2.upd H1 p (.lst (ns.map V.int))) { s2 with heap := s'.heap, gens := s'.gens, drawn := s'.drawn, toks := s'.toks } :=
    I2.call (ch := []) (Un.laid k2 hp hn) (I2.hok.laid k2 hp ⟨hlen, out.toList, cc, vals_of_ints hi, hpg⟩) (by rw [g2]; exact I2.bare) (fun _ z => nomatch z)
  have e : s' = { s2 with heap := s'.heap, gens := s'.gens, drawn := s'.drawn, toks := s'.toks } := by
    cases s'
    cases s2
    cases o
    rfl
  rw [e]
  exact ⟨.ref p, _, J, rfl, q1 ns p hs (fun j => by rw [hmm, decide_eq_true_iff]) hn⟩
theorem w_sortSet {K : PySem.W.Frag} {ta : TE} {σ : L2.St} {H : Hp} {Q : VK} (q : ta σ H fun x H1 => ∃ (l : Addr) (zs : List Int), x = V.ref l ∧ SqL K H1 l (zs.map V.int) ∧ zs.length ≤ 60 ∧ ∀ (ns : List Int) (p : Addr), ns.Pairwise (· < ·) → (∀ k : Int, k ∈ ns ↔ k ∈ zs) → H1 p = none → Q (.ref p) (L2.upd H1 p (.lst (ns.map V.int)))) : tSortSet K ta σ H Q := q
end Bc
namespace Bc
open PySem PySem.Spec PyProof.Rows L2
section
variable {K : PySem.W.Frag} {te : TE} {wi1 : TI} {vs vs1 : List Nat} {σ : L2.St} {H : Hp} {D a : Addr} {Qd : Hp → Prop} {j j1 : Nat}
/-- over a list of lists of ints: all of them in one list -/
theorem lc2_fl (rs : List Addr) (us : List (List Int)) (ha : H a = some (.lst (rs.map V.ref))) (hp : Paired (fun u r => H r = some (.lst (u.map V.int))) us rs) (sz : us.flatten.length ≤ 100000) (hD : H D = none)
    (wp : ∀ v, wipe ((wipe σ vs).set j v) vs = wipe σ vs) (wp2 : ∀ v u, wipe ((wipe ((wipe σ vs).set j v) vs1).set j1 u) vs1 = wipe ((wipe σ vs).set j v) vs1)
    (src : ∀ r u H' (R : It → Hp → Prop), Same H H' → H' r = some (.lst u) → R (Itl K r) H' → wi1 ((wipe σ vs).set j (some (.ref r))) H' R)
    (step : ∀ (r : Addr) (x : Int) (H' : Hp), Same H H' → ∀ Q' : VK, Q' (.int x) H' → te ((wipe ((wipe σ vs).set j (some (.ref r))) vs1).set j1 (some (.int x))) H' Q')
    (q : ∀ H' : Hp, Same H H' → H' D = some (.lst (us.flatten.map V.int)) → Qd H') :
    ∃ W : Nat → Nat → Hp → Prop, (∃ m, W 0 m (upd H D (.lst []))) ∧ ∀ i m H, W i m H →
      ((Itl K a).stop i H ∧ Qd H) ∨ ((Itl K a).go i H ∧ ∃ Nx : Hp → Prop, (∀ H', Nx H' → ∃ m', m' < m ∧ W (i + 1) m' H') ∧ ∀ x H', (Itl K a).yld i H x H' → gName j x (wipe σ vs) H' fun σ2 H2 => wipe σ2 vs = wipe σ vs ∧ tYes σ2 H2 fun b H3 =>
        if b = true then wi1 σ2 H3 fun J1 H4 => ∃ W1 : Nat → Nat → Hp → Prop, (∃ m, W1 0 m H4) ∧ ∀ i k H, W1 i k H →
          (J1.stop i H ∧ Nx H) ∨ (J1.go i H ∧ ∃ Nx1 : Hp → Prop, (∀ H', Nx1 H' → ∃ k', k' < k ∧ W1 (i + 1) k' H') ∧ ∀ x H', J1.yld i H x H' → gName j1 x (wipe σ2 vs1) H' fun σ3 H5 => wipe σ3 vs1 = wipe σ2 vs1 ∧ tYes σ3 H5 fun b H6 =>
            if b = true then te σ3 H6 fun y H7 => ∃ acc, H7 D = some (.lst acc) ∧ acc.length < sizeLine ∧ Nx1 (upd H7 D (.lst (acc ++ [y]))) else Nx1 H6)
        else Nx H3) := by
  have hsz : (100000 : Nat) < sizeLine := by decide
  have hlen := hp.length
  have hb : ∀ i, (us.take i).flatten.length ≤ us.flatten.length := fun i => by
    have : us.flatten = (us.take i).flatten ++ (us.drop i).flatten := by rw [← List.flatten_append, List.take_append_drop]
    rw [this, List.length_append]
    omega
  refine ⟨fun i m H' => m = rs.length - i ∧ i ≤ rs.length ∧ Same H (rm D H') ∧ H' D = some (.lst ((us.take i).flatten.map V.int)),
    ⟨rs.length, by omega, Nat.zero_le _, by rw [rm_updS]; exact rm_in hD (Same.refl _), upd_same⟩, ?_⟩
  rintro i m H1 ⟨rfl, hi, s1, h1⟩
  have ha1 : SqL K H1 a (rs.map V.ref) := sq (rm_le _ _ (s1 _ _ ha))
  by_cases hlt : i < rs.length
  · refine .inr ⟨walk_list.goes i H1 (by rw [List.length_map]; exact hlt) ha1, fun H' => Same H (rm D H') ∧ H' D = some (.lst ((us.take (i + 1)).flatten.map V.int)), fun H' h => ⟨_, by omega, rfl, hlt, h⟩, ?_⟩
    intro x H2 hy
    obtain ⟨rfl, hx⟩ := walk_list.yields i H1 x H2 (by rw [List.length_map]; exact hlt) ha1 hy
    obtain ⟨r, hr, rfl⟩ := get_map hx
    obtain ⟨u, hu, hur⟩ := paired_get hp hr
    have tk : (us.take (i + 1)).flatten = (us.take i).flatten ++ u := by
      rw [List.take_add_one, hu, List.flatten_append]
      simp
    refine ⟨wp _, w_yes ?_⟩
    rw [if_pos rfl]
    refine src _ _ _ _ (s1.trans rm_le) (rm_le _ _ (s1 _ _ hur)) ⟨fun l n H' => n = u.length - l ∧ l ≤ u.length ∧ Same H (rm D H') ∧ H' D = some (.lst (((us.take i).flatten ++ u.take l).map V.int)), ⟨u.length, by omega, Nat.zero_le _, s1, by rw [List.take_zero, List.append_nil]; exact h1⟩, ?_⟩
    rintro l n H3 ⟨rfl, hl, s3, h3⟩
    have hu3 : SqL K H3 r (u.map V.int) := sq (rm_le _ _ (s3 _ _ hur))
    by_cases hll : l < u.length
    · refine .inr ⟨walk_list.goes l H3 (by rw [List.length_map]; exact hll) hu3, fun H' => Same H (rm D H') ∧ H' D = some (.lst (((us.take i).flatten ++ u.take (l + 1)).map V.int)), fun H' h => ⟨_, by omega, rfl, hll, h⟩, fun x H4 hy => ?_⟩
      obtain ⟨rfl, hx⟩ := walk_list.yields l H3 x H4 (by rw [List.length_map]; exact hll) hu3 hy
      obtain ⟨z, hz, rfl⟩ := get_map hx
      refine ⟨wp2 _ _, w_yes ?_⟩
      rw [if_pos rfl]
      refine step r z H4 (s3.trans rm_le) _ ⟨_, h3, ?_, ?_, ?_⟩
      · have h5 := hb (i + 1)
        rw [tk, List.length_append] at h5
        rw [List.length_map, List.length_append, List.length_take]
        omega
      · rw [rm_updS]
        exact s3
      · rw [upd_same]
        simp [List.take_add_one, hz]
    · have el : l = u.length := by omega
      subst el
      refine .inl ⟨by have := walk_list.stops H3 hu3; rwa [List.length_map] at this, s3, ?_⟩
      rw [tk]
      rw [List.take_length] at h3
      exact h3
  · have ei : i = rs.length := by omega
    subst ei
    rw [← hlen, List.take_length] at h1
    exact .inl ⟨by have := walk_list.stops H1 ha1; rwa [List.length_map] at this, q H1 (s1.trans rm_le) h1⟩
end
theorem while_mR {c : TT} {tb : TS} {D : Ends} {σ : L2.St} {H : Hp} (Pv : Nat → L2.St → Hp → Prop) (m : Nat) (R : L2.St → Hp → Prop) (h0 : Pv m σ H) (hs : ∀ m σ H, Pv m σ H → ∀ N0 : L2.St → Hp → Prop, (∀ σ' H', R σ' H' → N0 σ' H') → c σ H fun b H1 => if b = true then (∃ N : L2.St → Hp → Prop, (∀ σ' H', N σ' H' → ∃ m', m' < m ∧ Pv m' σ' H') ∧
      tb { D with nx := N, ct := N, bk := D.nx } σ H1) else N0 σ H1) (rest : ∀ σ' H', R σ' H' → D.nx σ' H') : tWhile c tb D σ H := while_m Pv m h0 fun m σ H h => hs m σ H h D.nx rest
theorem map_ref_inj : ∀ {a b : List Addr}, a.map V.ref = b.map V.ref → a = b
  | [], [], _ => rfl
  | [], _ :: _, h => by cases h
  | _ :: _, [], h => by cases h
  | x :: a, y :: b, h => by
    injection h with h1 h2
    rw [V.ref.inj h1, map_ref_inj h2]
theorem rows_uniq {H : Hp} : ∀ {U U' : List (List Int)} {rs : List Addr}, Paired (fun u r => H r = some (.lst (u.map V.int))) U rs → Paired (fun u r => H r = some (.lst (u.map V.int))) U' rs → U = U'
  | _, _, _, .nil, .nil => rfl
  | u :: U, v :: U', r :: rs, .cons h1 h2, .cons k1 k2 => by
    have e : u = v := by
      have h1 : H r = some (.lst (u.map V.int)) := h1
      have k1 : H r = some (.lst (v.map V.int)) := k1
      rw [h1] at k1
      injection k1 with k1
      injection k1 with k1
      exact map_int_inj k1
    rw [e, rows_uniq h2 k2]
theorem RowL.uniq {H : Hp} {l : Addr} {U U' : List (List Int)} (h : RowL H l U) (k : RowL H l U') : U = U' := by
  obtain ⟨rs, h1, h2⟩ := h
  obtain ⟨rs', k1, k2⟩ := k
  rw [h1] at k1
  injection k1 with k1
  injection k1 with k1
  rw [← map_ref_inj k1] at k2
  exact rows_uniq h2 k2
/-- a row and its steps in order -/
noncomputable def RR (H0 : Hp) (x y : V) (G : Hp) : Prop := ∃ r q ns, x = .ref r ∧ y = .ref q ∧ G q = some (.lst ((ns : List Int).map V.int)) ∧ ∀ row, RowL H0 r row → ∀ k : Int, k ∈ ns ↔ k ∈ row.flatten
theorem rows_ex {H0 H' : Hp} : ∀ {rows : List (List (List Int))} {rs : List Addr} {ys : List V}, Paired (fun row r => RowL H0 r row) rows rs → Paired (fun x y => RR H0 x y H') (rs.map V.ref) ys →
    ∃ (qs : List Addr) (U : List (List Int)), ys = qs.map V.ref ∧ Paired (fun u q => H' q = some (.lst (u.map V.int))) U qs ∧ U.length = rows.length ∧ ∀ (i : Nat) (u : List Int) (row : List (List Int)), U[i]? = some u → rows[i]? = some row → ∀ k, k ∈ u ↔ k ∈ row.flatten
  | _, _, _, .nil, .nil => ⟨[], [], rfl, .nil, rfl, fun i u row h => by simp at h⟩
  | row :: rows, r :: rs, y :: ys, .cons h1 h2, .cons k1 k2 => by
    obtain ⟨r', q, ns, e1, rfl, e3, e4⟩ := k1
    cases e1
    obtain ⟨qs, U, g1, g2, g3, g4⟩ := rows_ex h2 k2
    refine ⟨q :: qs, ns :: U, by rw [g1]; rfl, .cons e3 g2, by rw [List.length_cons, List.length_cons, g3], fun i u row' a b => ?_⟩
    cases i with
    | zero =>
      cases a
      cases b
      exact e4 row h1
    | succ i => exact g4 i u row' a b
theorem InG_congr {ss : List Int} {cs ds : List (List Int)} (hl : cs.length = ds.length) (h : ∀ (i : Nat) (c d : List Int), cs[i]? = some c → ds[i]? = some d → ∀ k, k ∈ c ↔ k ∈ d) (n : Nat) : InG ss (cs.drop n) ↔ InG ss (ds.drop n) := by
  constructor
  · intro g
    refine InG_mono g (by rw [List.length_drop, List.length_drop, hl]) fun i c d e1 e2 s => ?_
    rw [List.getElem?_drop] at e1 e2
    exact (h _ c d e1 e2 s).mp
  · intro g
    refine InG_mono g (by rw [List.length_drop, List.length_drop, hl]) fun i c d e1 e2 s => ?_
    rw [List.getElem?_drop] at e1 e2
    exact (h _ d c e2 e1 s).mpr
theorem RsFor.flat {c : CA} {Cr : Addr} {H : Hp} {o : Addr} {b1 b2 : Int} {ps1 ps2 : List (Int × Int)} {y1 y2 : Sty} {w1 w2 : List (Int → Int)} {U : List (List Int)} {rows : List (List (List Int))} {n : Nat} (h : RsFor c Cr H o b1 b2 ps1 ps2 y1 y2 w1 w2 (U.drop n)) (hl : U.length = rows.length) (hm : ∀ (i : Nat) (u : List Int) (row : List (List Int)), U[i]? = some u → rows[i]? = some row → ∀ k, k ∈ u ↔ k ∈ row.flatten) : RsFor c Cr H o b1 b2 ps1 ps2 y1 y2 w1 w2 ((rows.drop n).map List.flatten) := by
  obtain ⟨ks, h1, h2⟩ := h
  refine ⟨ks, h1, fun p => (h2 p).trans ?_⟩
  have hc : ∀ ss, InG ss (U.drop n) ↔ InG ss ((rows.drop n).map List.flatten) := fun ss => by
    rw [List.map_drop]
    refine InG_congr (by rw [hl, List.length_map]) (fun i c d e1 e2 => ?_) n
    rw [List.getElem?_map] at e2
    obtain ⟨row, hrow, rfl⟩ := Option.map_eq_some_iff.mp e2
    exact hm i c row e1 hrow
  constructor
  · rintro ⟨ss, g1, g2⟩
    exact ⟨ss, (hc ss).mp g1, g2⟩
  · rintro ⟨ss, g1, g2⟩
    exact ⟨ss, (hc ss).mpr g1, g2⟩
noncomputable def RowLL (H : Hp) (l : Addr) (rows : List (List (List Int))) : Prop := ∃ rs : List Addr, H l = some (.lst (rs.map V.ref)) ∧ Paired (fun row r => RowL H r row) rows rs
noncomputable def spFirstL (c : CA) : Sp := fun vs H Q _ => ∃ (x1 x2 l : Addr) (A : Nat) (b1 b2 : Int) (ps1 ps2 : List (Int × Int)) (y1 y2 : Sty) (rows : List (List (List Int))), vs = [.ref x1, .ref x2, .ref l, .int A] ∧ Ways2 c H x1 x2 b1 b2 ps1 ps2 y1 y2 ∧ num ps1 * num ps2 ≤ 10000 ∧ RowLL H l rows ∧ rows.length ≤ 1000 ∧ A ≤ 1000 ∧ (∀ row ∈ rows, row.length = A) ∧ (∀ row ∈ rows, row.flatten.length ≤ 60) ∧ (∀ row ∈ rows, ∀ s ∈ row.flatten, s.natAbs ≤ 2000) ∧
  GdC b1 (num ps1) b2 (num ps2) [] [] (wsL (num ps1) y1.low rows.length) (wsL (num ps2) y2.low rows.length) [] (rows.map List.flatten) ∧
  ∀ H' r t, H r = none → Same H H' → H' r = some (.lst (t.map V.int)) → FLt b1 (num ps1) b2 (num ps2) (wsL (num ps1) y1.low rows.length) (wsL (num ps2) y2.low rows.length) rows A t → Q (.ref r) H'
end Bc
namespace Bc
open PySem PySem.Spec PyProof.Rows L2
structure Fs73 (b1 N1 b2 N2 : Int) (W1 W2 : List (Int → Int)) (rows : List (List (List Int))) (A i : Nat) (t : List Int) (ks : List (Int × Int)) : Prop where
  len : t.length = i
  rng : Ltr A t
  nd : ks.Nodup
  mem : ∀ p, p ∈ ks ↔ Sta b1 N1 b2 N2 (W1.take i) (W2.take i) (pick (rows.take i) t) p ∧ Opn b1 N1 b2 N2 (W1.drop i) (W2.drop i) ((rows.drop i).map List.flatten) p
  gd : GdC b1 N1 b2 N2 (W1.take i) (W2.take i) (W1.drop i) (W2.drop i) (pick (rows.take i) t) ((rows.drop i).map List.flatten)
  no : ∀ (i' : Nat) (x l : Int), t[i']? = some x → 0 ≤ l → l < x → ¬ GdC b1 N1 b2 N2 (W1.take (i' + 1)) (W2.take (i' + 1)) (W1.drop (i' + 1)) (W2.drop (i' + 1)) (pick (rows.take (i' + 1)) (t.take i' ++ [l])) ((rows.drop (i' + 1)).map List.flatten)
/-- one letter more leads on -/
noncomputable def Gd1 (b1 N1 b2 N2 : Int) (W1 W2 : List (Int → Int)) (rows : List (List (List Int))) (i : Nat) (t : List Int) (l : Int) : Prop := GdC b1 N1 b2 N2 (W1.take (i + 1)) (W2.take (i + 1)) (W1.drop (i + 1)) (W2.drop (i + 1)) (pick (rows.take (i + 1)) (t ++ [l])) ((rows.drop (i + 1)).map List.flatten)
section
variable {b1 N1 b2 N2 : Int} {W1 W2 : List (Int → Int)} {rows : List (List (List Int))} {A i : Nat} {t : List Int} {ks : List (Int × Int)}
theorem Fs73.zero (hg : GdC b1 N1 b2 N2 [] [] W1 W2 [] (rows.map List.flatten)) : Fs73 b1 N1 b2 N2 W1 W2 rows A 0 [] [(0, 0)] := by
  refine ⟨rfl, fun x h => (nomatch h), by simp, fun p => ?_, hg, fun i' x l h => by simp at h⟩
  show p ∈ [((0 : Int), (0 : Int))] ↔ Sta b1 N1 b2 N2 [] [] [] p ∧ Opn b1 N1 b2 N2 W1 W2 (rows.map List.flatten) p
  rw [List.mem_singleton, Sta_nil]
  constructor
  · rintro rfl
    refine ⟨rfl, ?_⟩
    obtain ⟨x, hx, ho⟩ := hg
    rw [Sta_nil.mp hx] at ho
    exact ho
  · exact fun h => h.1
theorem Fs73.done (h : Fs73 b1 N1 b2 N2 W1 W2 rows A rows.length t ks) (h1 : W1.length = rows.length) (h2 : W2.length = rows.length) : FLt b1 N1 b2 N2 W1 W2 rows A t := by
  refine ⟨h.len, h.rng, ?_, h.no⟩
  have := h.gd
  rw [List.take_of_length_le (by omega), List.take_of_length_le (by omega), List.drop_of_length_le (by omega), List.drop_of_length_le (by omega), List.take_length, List.drop_length] at this
  exact this
theorem pick_snoc (ht : t.length = i) {row : List (List Int)} (hr : rows[i]? = some row) (m : Nat) : pick (rows.take (i + 1)) (t ++ [(m : Int)]) = pick (rows.take i) t ++ [row.getD m []] := by
  have hl : (rows.take i).length = i := by
    rw [List.length_take]
    have := (List.getElem?_eq_some_iff.mp hr).1
    omega
  unfold pick
  rw [List.take_add_one, hr]
  show List.zipWith _ (rows.take i ++ [row]) (t ++ [(m : Int)]) = _
  rw [List.zipWith_append (by omega)]
  rfl
theorem Fs73.later (h : Fs73 b1 N1 b2 N2 W1 W2 rows A i t ks) {row : List (List Int)} (hr : rows[i]? = some row) (h1 : W1.length = rows.length) (h2 : W2.length = rows.length) {fw gw : Int → Int} (hf : W1[i]? = some fw) (hg : W2[i]? = some gw) {m : Nat} (hm : m < row.length) {p : Int × Int} :
    ((∃ x ∈ ks, ∃ s ∈ row.getD m [], p = mov2 b1 N1 b2 N2 fw gw x s) ∧ Opn b1 N1 b2 N2 (W1.drop (i + 1)) (W2.drop (i + 1)) ((rows.drop (i + 1)).map List.flatten) p) ↔ Sta b1 N1 b2 N2 (W1.take (i + 1)) (W2.take (i + 1)) (pick (rows.take (i + 1)) (t ++ [(m : Int)])) p ∧ Opn b1 N1 b2 N2 (W1.drop (i + 1)) (W2.drop (i + 1)) ((rows.drop (i + 1)).map List.flatten) p := by
  have hi := (List.getElem?_eq_some_iff.mp hr).1
  have d1 : W1.drop i = fw :: W1.drop (i + 1) := by rw [List.drop_eq_getElem_cons (by omega), (List.getElem?_eq_some_iff.mp hf).2]
  have d2 : W2.drop i = gw :: W2.drop (i + 1) := by rw [List.drop_eq_getElem_cons (by omega), (List.getElem?_eq_some_iff.mp hg).2]
  have d3 : (rows.drop i).map List.flatten = row.flatten :: (rows.drop (i + 1)).map List.flatten := by rw [List.drop_eq_getElem_cons hi, (List.getElem?_eq_some_iff.mp hr).2]; rfl
  have hc : row.getD m [] ∈ row := by rw [List.getD_eq_getElem?_getD, List.getElem?_eq_getElem hm]; exact List.getElem_mem hm
  have lp : (pick (rows.take i) t).length = i := by
    rw [pick_len (by rw [List.length_take, h.len]; omega), List.length_take]
    omega
  have key := later_iff (b1 := b1) (N1 := N1) (b2 := b2) (N2 := N2) (p1 := W1.take i) (p2 := W2.take i) (cs := pick (rows.take i) t) (f := fw) (g := gw) (w1 := W1.drop (i + 1)) (w2 := W2.drop (i + 1)) (row := row) (U := (rows.drop (i + 1)).map List.flatten) (by rw [List.length_take, lp]; omega) (by rw [List.length_take, lp]; omega) hc (y := p)
  rw [pick_snoc h.len hr, List.take_add_one, hf, List.take_add_one, hg]
  show _ ↔ Sta b1 N1 b2 N2 (W1.take i ++ [fw]) (W2.take i ++ [gw]) _ p ∧ _
  rw [← key, ← d1, ← d2, ← d3]
  constructor
  · rintro ⟨⟨x, hx, z⟩, o⟩
    exact ⟨⟨x, (h.mem x).mp hx, z⟩, o⟩
  · rintro ⟨⟨x, hx, z⟩, o⟩
    exact ⟨⟨x, (h.mem x).mpr hx, z⟩, o⟩
theorem Fs73.some (h : Fs73 b1 N1 b2 N2 W1 W2 rows A i t ks) {row : List (List Int)} (hr : rows[i]? = some row) (hA : row.length = A) (h1 : W1.length = rows.length) (h2 : W2.length = rows.length) : ∃ m : Nat, m < A ∧ Gd1 b1 N1 b2 N2 W1 W2 rows i t (m : Int) := by
  have hi := (List.getElem?_eq_some_iff.mp hr).1
  obtain ⟨fw, hf⟩ : ∃ f, W1[i]? = Option.some f := ⟨_, List.getElem?_eq_getElem (by omega)⟩
  obtain ⟨gw, hg⟩ : ∃ f, W2[i]? = Option.some f := ⟨_, List.getElem?_eq_getElem (by omega)⟩
  have d1 : W1.drop i = fw :: W1.drop (i + 1) := by rw [List.drop_eq_getElem_cons (by omega), (List.getElem?_eq_some_iff.mp hf).2]
  have d2 : W2.drop i = gw :: W2.drop (i + 1) := by rw [List.drop_eq_getElem_cons (by omega), (List.getElem?_eq_some_iff.mp hg).2]
  have d3 : (rows.drop i).map List.flatten = row.flatten :: (rows.drop (i + 1)).map List.flatten := by rw [List.drop_eq_getElem_cons hi, (List.getElem?_eq_some_iff.mp hr).2]; rfl
  have lp : (pick (rows.take i) t).length = i := by
    rw [pick_len (by rw [List.length_take, h.len]; omega), List.length_take]
    omega
  have gd := h.gd
  rw [d1, d2, d3] at gd
  obtain ⟨l, c, hl, hgd⟩ := GdC_next (by rw [List.length_take, lp]; omega) (by rw [List.length_take, lp]; omega) gd
  refine ⟨l, by have := (List.getElem?_eq_some_iff.mp hl).1; omega, ?_⟩
  unfold Gd1
  rw [pick_snoc h.len hr, List.take_add_one, hf, List.take_add_one, hg, List.getD_eq_getElem?_getD, hl]
  exact hgd
/-- behind a letter that leads on -/
theorem Fs73.next (h : Fs73 b1 N1 b2 N2 W1 W2 rows A i t ks) {row : List (List Int)} (hr : rows[i]? = Option.some row) (hA : row.length = A) (h1 : W1.length = rows.length) (h2 : W2.length = rows.length) {fw gw : Int → Int} (hf : W1[i]? = Option.some fw) (hg : W2[i]? = Option.some gw) {m : Nat} (hm : m < A) {ks' : List (Int × Int)} (hn : ks'.Nodup) (hne : ks' ≠ [])
    (hk : ∀ p, p ∈ ks' ↔ (∃ x ∈ ks, ∃ s ∈ row.getD m [], p = mov2 b1 N1 b2 N2 fw gw x s) ∧ Opn b1 N1 b2 N2 (W1.drop (i + 1)) (W2.drop (i + 1)) ((rows.drop (i + 1)).map List.flatten) p)
    (hno : ∀ l : Nat, l < m → ¬ Gd1 b1 N1 b2 N2 W1 W2 rows i t (l : Int)) : Fs73 b1 N1 b2 N2 W1 W2 rows A (i + 1) (t ++ [(m : Int)]) ks' := by
  have hmem : ∀ p, p ∈ ks' ↔ _ := fun p => (hk p).trans (h.later hr h1 h2 hf hg (by omega))
  refine ⟨by rw [List.length_append, h.len]; rfl, fun x hx => ?_, hn, hmem, ?_, fun i' x l hx l0 lx => ?_⟩
  · rcases List.mem_append.mp hx with z | z
    · exact h.rng x z
    · rw [List.mem_singleton.mp z]
      omega
  · obtain ⟨p, hp⟩ := List.exists_mem_of_ne_nil _ hne
    obtain ⟨a, b⟩ := (hmem p).mp hp
    exact ⟨p, a, b⟩
  · by_cases c : i' < t.length
    · rw [List.getElem?_append_left c] at hx
      rw [List.take_append_of_le_length (by omega)]
      exact h.no i' x l hx l0 lx
    · have e : i' = i := by
        have := (List.getElem?_eq_some_iff.mp hx).1
        rw [List.length_append, List.length_singleton, h.len] at this
        have := h.len
        omega
      subst e
      rw [List.getElem?_append_right (by have := h.len; omega), h.len, Nat.sub_self] at hx
      have hx : (m : Int) = x := Option.some.inj hx
      have := hno l.toNat (by omega)
      unfold Gd1 at this
      rw [Int.toNat_of_nonneg l0] at this
      rw [List.take_append_of_le_length (by have := h.len; omega), show t.take i' = t from List.take_of_length_le (by have := h.len; omega)]
      exact this
theorem Fs73.gd1 (h : Fs73 b1 N1 b2 N2 W1 W2 rows A i t ks) {row : List (List Int)} (hr : rows[i]? = Option.some row) (h1 : W1.length = rows.length) (h2 : W2.length = rows.length) {fw gw : Int → Int} (hf : W1[i]? = Option.some fw) (hg : W2[i]? = Option.some gw) {m : Nat} (hm : m < row.length)
    (hk : ∀ p, ¬ ((∃ x ∈ ks, ∃ s ∈ row.getD m [], p = mov2 b1 N1 b2 N2 fw gw x s) ∧ Opn b1 N1 b2 N2 (W1.drop (i + 1)) (W2.drop (i + 1)) ((rows.drop (i + 1)).map List.flatten) p)) : ¬ Gd1 b1 N1 b2 N2 W1 W2 rows i t (m : Int) := by
  rintro ⟨p, a, b⟩
  exact hk p ((h.later hr h1 h2 hf hg hm).mpr ⟨a, b⟩)
end
theorem RsAt.rmT {c : CA} {Cr : Addr} {H : Hp} {o d : Addr} {b1 b2 : Int} {ps1 ps2 : List (Int × Int)} {y1 y2 : Sty} {ks : List (Int × Int)} {kvs : List (List Key × V)} (h : RsAt c Cr H o b1 b2 ps1 ps2 y1 y2 ks) (hd : H d = some (.dT kvs)) : RsAt c Cr (Bc.rm d H) o b1 b2 ps1 ps2 y1 y2 ks := by
  obtain ⟨dx, x1, x2, s, l, g, L, G, n, h1, h2, ⟨kl, h3, h3'⟩, ⟨kg, h4, h4'⟩, h5, h6⟩ := h
  exact ⟨dx, x1, x2, s, l, g, L, G, n, rm_ins hd (fun _ _ _ e => by cases e) h1, h2.rmT hd, ⟨kl, rm_of (fun e => by rw [e, hd] at h3; cases h3) h3, h3'⟩, ⟨kg, rm_of (fun e => by rw [e, hd] at h4; cases h4) h4, h4'⟩, h5, h6⟩
end Bc
namespace Bc
open PySem PySem.Spec PyProof.Rows L2
noncomputable def ErrTo (E : XK) (C : Addr) (f : Str) (v : V) (H : Hp) : Prop := ∀ d H', H d = none → Same H H' → H' d = some (.xd [(f, v)]) → E (.ref C) (some d) H'
noncomputable def spLikeX (c : CA) (Cu : Addr) : Sp := fun vs H Q E => ∃ (x x' : Addr) (b b' : Int) (ps ps' : List (Int × Int)) (y y' : Sty), vs = [.ref x, .ref x'] ∧ WayAt c H x b ps y ∧ WayAt c H x' b' ps' y' ∧ (y.low = y'.low → Q .non H) ∧ (y.low ≠ y'.low → E (.ref Cu) none H)
noncomputable def NotInt (K : PySem.W.Frag) (H : Hp) (v : V) : Prop := ∃ (t : Value) (b1 b2 : Bool), TyX K H v t ∧ PySem.W.kitOne K t (.type "int") = some b1 ∧ PySem.W.kitOne K t (.type "bool") = some b2 ∧ (b1 && !b2) = false
inductive StB (K : PySem.W.Frag) (H : Hp) : V → Prop where
  | oth {v : V} (h : NotInt K H v) : StB K H v
  | int (n : Int) (h : n < 1) : StB K H (.int n)
noncomputable def spReqStockX (K : PySem.W.Frag) (Cs : Addr) : Sp := fun vs H Q E => ∃ v : V, vs = [v] ∧ ((∃ n : Int, v = .int n ∧ 1 ≤ n ∧ Q .non H) ∨ (StB K H v ∧ ErrTo E Cs "stock" v H))
noncomputable def NoWy (K : PySem.W.Frag) (c : CA) (H : Hp) (v : V) : Prop := ∃ t, TyX K H v t ∧ PySem.W.kitOne K t (.ref c.wy) = some false
noncomputable def TwT (H : Hp) (r : Addr) (t u : List Int) : Prop := ∃ p q, H r = some (.tup [.ref p, .ref q]) ∧ H p = some (.tup (t.map V.int)) ∧ H q = some (.tup (u.map V.int))
theorem TwT.same {H H' : Hp} {r : Addr} {t u : List Int} (h : TwT H r t u) (s : Same H H') : TwT H' r t u := by
  obtain ⟨p, q, h1, h2, h3⟩ := h
  exact ⟨p, q, s _ _ h1, s _ _ h2, s _ _ h3⟩
noncomputable def spMissedX (K : PySem.W.Frag) (c : CA) (Ci Cs Cu : Addr) : Sp := fun vs H Q E => ∃ v u z : V, vs = [v, u, z] ∧
  ((NoWy K c H v ∧ ErrTo E Ci "thing" v H) ∨
   (∃ (x : Addr) (b : Int) (ps : List (Int × Int)) (y : Sty), v = .ref x ∧ WayAt c H x b ps y ∧ NoWy K c H u ∧ ErrTo E Ci "thing" u H) ∨
   (∃ (x x' : Addr) (b b' : Int) (ps ps' : List (Int × Int)) (y y' : Sty), v = .ref x ∧ u = .ref x' ∧ WayAt c H x b ps y ∧ WayAt c H x' b' ps' y' ∧
     ((StB K H z ∧ ErrTo E Cs "stock" z H) ∨
      (∃ A : Nat, z = .int (A : Int) ∧ 1 ≤ A ∧ (y.low ≠ y'.low → E (.ref Cu) none H) ∧ (y.low = y'.low → A ≤ 7 ∧ num ps ≤ 100 ∧ num ps' ≤ 100 ∧
        (NoM b (num ps) b' (num ps') A → ∀ H', Same H H' → Q .non H') ∧ (∀ (m : Nat) (t q : List Int), LeastM b (num ps) b' (num ps') A m → Pr73 b (num ps) b' (num ps') A m y.low t q → ∀ H' r, Same H H' → TwT H' r t q → Q (.ref r) H'))))))
theorem use_pr {c : CA} {Cp : Addr} {H : Hp} {PP : Addr → Hp → Prop} {E : XK} {x1 x2 : Addr} {b1 b2 : Int} {ps1 ps2 : List (Int × Int)} {y1 y2 : Sty} {A : Nat} (hw : Ways2 c H x1 x2 b1 b2 ps1 ps2 y1 y2) (A1 : 1 ≤ A) (A2 : A ≤ 1000) (q : ∀ o H', H o = none → Same H H' → PrAt c Cp H' o b1 b2 ps1 ps2 y1 y2 A → PP o H') :
    ∀ o dx, H o = none → H dx = none → dx ≠ o → spPrInit c Cp [.ref o, .ref x1, .ref x2, .int A] (upd (upd H dx (.own o)) o (.ins Cp dx [])) (fun v H2 => v = .non ∧ PP o H2) E := fun o dx nx nd ne => by
  have up : Same H (upd (upd H dx (.own o)) o (.ins Cp dx [])) := fun b o' e => by rw [upd_ne (ne_of_none e nx), upd_ne (ne_of_none e nd)]; exact e
  obtain ⟨_, _, _, g1, _⟩ := id hw.one
  obtain ⟨_, _, _, g2, _⟩ := id hw.two
  exact ⟨o, dx, x1, x2, b1, b2, ps1, ps2, y1, y2, A, rfl, L2.upd_same, hw.same up, ne_of_none g1 nx, ne_of_none g2 nx, A1, A2, fun H' k h => ⟨rfl, q o H' nx (mk_same nx nd k) h⟩⟩
/-- a list of ints of each item -/
noncomputable def RI (f : Int → List Int) (x y : V) (G : Hp) : Prop := ∃ (z : Int) (q : Addr), x = .int z ∧ y = .ref q ∧ G q = some (.lst ((f z).map V.int))
theorem RI.refs {f : Int → List Int} {G : Hp} : ∀ {zs : List Int} {ys : List V}, Paired (fun x y => RI f x y G) (zs.map V.int) ys → ∃ qs : List Addr, ys = qs.map V.ref ∧ Paired (fun u r => G r = some (.lst (u.map V.int))) (zs.map f) qs
  | [], _, .nil => ⟨[], rfl, .nil⟩
  | z :: zs, _, .cons h1 h2 => by
    obtain ⟨z', q, e1, rfl, e3⟩ := h1
    cases e1
    obtain ⟨qs, rfl, g2⟩ := RI.refs h2
    exact ⟨q :: qs, rfl, .cons e3 g2⟩
/-- a row of rows of each item -/
noncomputable def RII (f : Int → List (List Int)) (x y : V) (G : Hp) : Prop := ∃ (z : Int) (q : Addr), x = .int z ∧ y = .ref q ∧ RowL G q (f z)
theorem RII.refs {f : Int → List (List Int)} {G : Hp} : ∀ {zs : List Int} {ys : List V}, Paired (fun x y => RII f x y G) (zs.map V.int) ys → ∃ qs : List Addr, ys = qs.map V.ref ∧ Paired (fun row r => RowL G r row) (zs.map f) qs
  | [], _, .nil => ⟨[], rfl, .nil⟩
  | z :: zs, _, .cons h1 h2 => by
    obtain ⟨z', q, e1, rfl, e3⟩ := h1
    cases e1
    obtain ⟨qs, rfl, g2⟩ := RII.refs h2
    exact ⟨q :: qs, rfl, .cons e3 g2⟩
theorem rowsT_bd {A L : Nat} (hA : A ≤ 7) : ∀ row ∈ rowsT A L, row.flatten.length ≤ 60 ∧ ∀ s ∈ row.flatten, s.natAbs ≤ 2000 := fun row hr => by
  unfold rowsT at hr
  rw [(List.mem_replicate.mp hr).2]
  have : A = 0 ∨ A = 1 ∨ A = 2 ∨ A = 3 ∨ A = 4 ∨ A = 5 ∨ A = 6 ∨ A = 7 := by omega
  rcases this with rfl | rfl | rfl | rfl | rfl | rfl | rfl | rfl <;> decide +kernel
theorem rowsO_bd {A : Nat} (hA : A ≤ 7) {t : List Int} (ht : Ltr A t) : ∀ row ∈ rowsO A t, row.flatten.length ≤ 60 ∧ ∀ s ∈ row.flatten, s.natAbs ≤ 2000 := fun row hr => by
  unfold rowsO at hr
  obtain ⟨x, hx, rfl⟩ := List.mem_map.mp hr
  have hb := ht x hx
  have hc : ∀ z : Int, 0 ≤ z → z < 7 → ((List.range A).map fun k : Nat => [z - (k : Int)]).flatten.length ≤ 60 ∧ ∀ s ∈ ((List.range A).map fun k : Nat => [z - (k : Int)]).flatten, s.natAbs ≤ 2000 := fun z z0 z7 => by
    refine ⟨?_, fun s hs => ?_⟩
    · have : ∀ xs : List Nat, (xs.map fun k : Nat => [z - (k : Int)]).flatten = xs.map fun k : Nat => z - (k : Int) := fun xs => by
        induction xs with
        | nil => rfl
        | cons a xs ih => rw [List.map_cons, List.flatten_cons, ih]; rfl
      rw [this, List.length_map, List.length_range]
      omega
    · obtain ⟨r, hr, hsr⟩ := List.mem_flatten.mp hs
      obtain ⟨k, hk, rfl⟩ := List.mem_map.mp hr
      have := List.mem_range.mp hk
      have := List.mem_singleton.mp hsr
      omega
  exact hc x hb.1 (by omega)
end Bc
namespace Bc
open PySem PySem.Spec PyProof.Rows L2
noncomputable def spSomeWay (ca : CA) : Sp := fun vs H Q _ => ∃ (a : Addr) (c : Int) (lw : Bool), vs = [.ref a, .bl lw] ∧ c < 2 ^ 47 ∧ Purse H a c ∧
  ∀ (x : Addr) (b : Int) (ps : List (Int × Int)) (y : Sty) (H' : Hp), Same (rm a H) (rm a H') → Purse H' a (c + 50) → WayAt ca (rm a H') x b ps y → y.low = lw → num ps ≤ 12 → Q (.ref x) H'
noncomputable def spCaught73 (K : PySem.W.Frag) (c : CA) : Sp := fun vs H Q _ => ∃ v u z : V, vs = [v, u, z] ∧
  ((NoWy K c H v ∧ ∀ l H', H l = none → Same H H' → H' l = some (.lst [.str "way", v]) → Q (.ref l) H') ∨
   (∃ (x : Addr) (b : Int) (ps : List (Int × Int)) (y : Sty), v = .ref x ∧ WayAt c H x b ps y ∧ NoWy K c H u ∧ ∀ l H', H l = none → Same H H' → H' l = some (.lst [.str "way", u]) → Q (.ref l) H') ∨
   (∃ (x x' : Addr) (b b' : Int) (ps ps' : List (Int × Int)) (y y' : Sty), v = .ref x ∧ u = .ref x' ∧ WayAt c H x b ps y ∧ WayAt c H x' b' ps' y' ∧ StB K H z ∧ ∀ l H', H l = none → Same H H' → H' l = some (.lst [.str "stock", z]) → Q (.ref l) H') ∨
   (∃ (x x' : Addr) (b b' : Int) (ps ps' : List (Int × Int)) (y y' : Sty) (A : Nat), v = .ref x ∧ u = .ref x' ∧ z = .int (A : Int) ∧ WayAt c H x b ps y ∧ WayAt c H x' b' ps' y' ∧ 1 ≤ A ∧ y.low ≠ y'.low ∧ ∀ l H', H l = none → Same H H' → H' l = some (.lst [.str "unlike"]) → Q (.ref l) H'))
noncomputable def spDoors73 (ca : CA) : Sp := fun vs H Q _ => ∃ (a x x' : Addr) (b b' c : Int) (ps ps' : List (Int × Int)) (y y' : Sty), vs = [.ref a, .ref x, .ref x'] ∧ c < 2 ^ 47 ∧ Purse H a c ∧ WayAt ca (rm a H) x b ps y ∧ WayAt ca (rm a H) x' b' ps' y' ∧
  ∀ H', Same (rm a H) (rm a H') → Purse H' a (c + 10) → Q (.bl true) H'
theorem w_eqA {K : PySem.W.Frag} {H : Hp} {p q : Addr} {xs ys : List V} {Q : VK} (h1 : H p = some (.lst xs)) (h2 : H q = some (.lst ys)) (h : Paired (Alk K H 1) xs ys) (k : Q (.bl true) H) : rEqA K (.ref p) (.ref q) H Q := ⟨1, p, q, xs, ys, rfl, rfl, by decide, sq h1, sq h2, h, k⟩
noncomputable def spFewest (c : CA) : Sp := fun vs H Q _ => ∃ (x x' : Addr) (b b' : Int) (ps ps' : List (Int × Int)) (y y' : Sty) (A : Nat), vs = [.ref x, .ref x', .int (A : Int)] ∧ Ways2 c H x x' b b' ps ps' y y' ∧ num ps * num ps' ≤ 10000 ∧ 1 ≤ A ∧ A ≤ 1000 ∧
  (NoM b (num ps) b' (num ps') A → ∀ H', Same H H' → Q .non H') ∧ ∀ m, LeastM b (num ps) b' (num ps') A m → ∀ H', Same H H' → Q (.int (m : Int)) H'
theorem noM_of {b1 N1 b2 N2 : Int} {A : Nat} (h1 : 0 < N1) (hA : 1 ≤ A) (h : ∀ j, j ≤ N1.toNat → ∀ p, RL b1 N1 b2 N2 A j p → ¬ Msd p) : NoM b1 N1 b2 N2 A := fun j p hp hm => by
  obtain ⟨m, g1, ⟨q, hq, hqm⟩, g3⟩ := least_ex (P := fun j => ∃ p, RL b1 N1 b2 N2 A j p ∧ Msd p) ⟨p, hp, hm⟩
  have L : LeastM b1 N1 b2 N2 A m := ⟨⟨q, hq, hqm⟩, fun i hi p hp hm => g3 i hi ⟨p, hp, hm⟩⟩
  exact h m (missed_le h1 hA L) q hq hqm
theorem led2_rng {b1 N1 b2 N2 : Int} {q : Int × Int} {d : Int} (h1 : 0 < N1) (h2 : 0 < N2) : (0 ≤ (led2 b1 N1 b2 N2 q d).1 ∧ (led2 b1 N1 b2 N2 q d).1 < N1) ∧ 0 ≤ (led2 b1 N1 b2 N2 q d).2 ∧ (led2 b1 N1 b2 N2 q d).2 < N2 :=
  ⟨⟨Int.emod_nonneg _ (by omega), Int.emod_lt_of_pos _ h1⟩, Int.emod_nonneg _ (by omega), Int.emod_lt_of_pos _ h2⟩
/-- a tuple of ints of each item -/
noncomputable def RT (f : Int → List Int) (x y : V) (G : Hp) : Prop := ∃ (z : Int) (q : Addr), x = .int z ∧ y = .ref q ∧ G q = some (.tup ((f z).map V.int))
theorem RT.refs {f : Int → List Int} {G : Hp} : ∀ {zs : List Int} {ys : List V}, Paired (fun x y => RT f x y G) (zs.map V.int) ys → ∃ qs : List Addr, ys = qs.map V.ref ∧ Paired (fun u r => G r = some (.tup (u.map V.int))) (zs.map f) qs
  | [], _, .nil => ⟨[], rfl, .nil⟩
  | z :: zs, _, .cons h1 h2 => by
    obtain ⟨z', q, e1, rfl, e3⟩ := h1
    cases e1
    obtain ⟨qs, rfl, g2⟩ := RT.refs h2
    exact ⟨q :: qs, rfl, .cons e3 g2⟩
/-- a text with its two marks -/
noncomputable def Tr3 (f g : List Int → Int) (G : Hp) (u : List Int) (q : Addr) : Prop := ∃ r : Addr, G r = some (.tup (u.map V.int)) ∧ G q = some (.tup [.ref r, .int (f u), .int (g u)])
theorem Tr3.same {f g : List Int → Int} {G G' : Hp} {u : List Int} {q : Addr} (h : Tr3 f g G u q) (s : Same G G') : Tr3 f g G' u q := by
  obtain ⟨r, h1, h2⟩ := h
  exact ⟨r, s _ _ h1, s _ _ h2⟩
noncomputable def RW3 (f g : List Int → Int) (H0 : Hp) (x y : V) (G : Hp) : Prop := ∃ r q : Addr, x = .ref r ∧ y = .ref q ∧ ∀ u, H0 r = some (.tup (List.map V.int u)) → G q = some (.tup [.ref r, .int (f u), .int (g u)])
theorem RW3.refs {f g : List Int → Int} {H0 G : Hp} (s : Same H0 G) : ∀ {T : List (List Int)} {ts : List Addr} {ys : List V}, Paired (fun u t => H0 t = some (.tup (List.map V.int u))) T ts → Paired (fun x y => RW3 f g H0 x y G) (ts.map V.ref) ys → ∃ qs : List Addr, ys = qs.map V.ref ∧ Paired (Tr3 f g G) T qs
  | _, _, _, .nil, .nil => ⟨[], rfl, .nil⟩
  | u :: T, t :: ts, _, .cons h1 h2, .cons k1 k2 => by
    obtain ⟨r, q, e1, rfl, e3⟩ := k1
    cases e1
    obtain ⟨qs, rfl, g2⟩ := RW3.refs s h2 k2
    exact ⟨q :: qs, rfl, .cons ⟨t, s _ _ h1, e3 u h1⟩ g2⟩
noncomputable def spFirst73 (c : CA) : Sp := fun vs H Q _ => ∃ (x x' : Addr) (b b' : Int) (ps ps' : List (Int × Int)) (y y' : Sty) (A m : Nat) (t u : List Int), vs = [.ref x, .ref x', .int (A : Int), .int (m : Int)] ∧ WayAt c H x b ps y ∧ WayAt c H x' b' ps' y' ∧ y.low = y'.low ∧ 1 ≤ A ∧ A ^ m ≤ 200 ∧ m ≤ 100 ∧ Pr73 b (num ps) b' (num ps') A m y.low t u ∧
  ∀ H' r, Same H H' → TwT H' r t u → Q (.ref r) H'
theorem Ms_mark {b N b' N' : Int} {y y' : Sty} (hl : y.low = y'.low) {v q : List Int} (e : v.length = q.length) : Ms b N b' N' y.low v q ↔ mark y b N v = mark y b N q ∧ mark y' b' N' v ≠ mark y' b' N' q := by
  unfold Ms
  rw [mark_hvD e]
  constructor
  · rintro ⟨h1, h2⟩
    refine ⟨h1, fun z => h2 ?_⟩
    rw [hl]
    exact (mark_hvD e).mp z
  · rintro ⟨h1, h2⟩
    refine ⟨h1, fun z => h2 ?_⟩
    rw [hl] at z
    exact (mark_hvD e).mpr z
theorem LeastM.uniq {b1 N1 b2 N2 : Int} {A m n : Nat} (h : LeastM b1 N1 b2 N2 A m) (k : LeastM b1 N1 b2 N2 A n) : m = n := by
  obtain ⟨p, hp, hm⟩ := h.hit
  obtain ⟨q, hq, hn⟩ := k.hit
  rcases Nat.lt_trichotomy m n with g | g | g
  · exact absurd hm (k.no m g p hp)
  · exact g
  · exact absurd hn (h.no n g q hq)
theorem LeastM.notNo {b1 N1 b2 N2 : Int} {A m : Nat} (h : LeastM b1 N1 b2 N2 A m) : ¬ NoM b1 N1 b2 N2 A := fun n => by
  obtain ⟨p, hp, hm⟩ := h.hit
  exact n m p hp hm
noncomputable def tab73 : List Int := [9, 9, 7, 4, 3, 2, 2]
theorem pow73 {A m : Nat} {z : Int} (hA : 1 ≤ A) (hA6 : A ≤ 6) (hz : tab73.getD A 0 = z) (hm : (m : Int) ≤ z) : A ^ m ≤ 200 ∧ m ≤ 100 := by
  have hmono : ∀ (B k : Nat), 1 ≤ B → m ≤ k → B ^ m ≤ B ^ k := fun B k h e => Nat.pow_le_pow_right h e
  have : A = 1 ∨ A = 2 ∨ A = 3 ∨ A = 4 ∨ A = 5 ∨ A = 6 := by omega
  rcases this with rfl | rfl | rfl | rfl | rfl | rfl
  · rw [Nat.one_pow]
    have : (9 : Int) = z := hz
    omega
  · have : (7 : Int) = z := hz
    have := hmono 2 7 (by decide) (by omega)
    omega
  · have : (4 : Int) = z := hz
    have := hmono 3 4 (by decide) (by omega)
    omega
  · have : (3 : Int) = z := hz
    have := hmono 4 3 (by decide) (by omega)
    omega
  · have : (2 : Int) = z := hz
    have := hmono 5 2 (by decide) (by omega)
    omega
  · have : (2 : Int) = z := hz
    have := hmono 6 2 (by decide) (by omega)
    omega
theorem Pr73.uniq {b1 N1 b2 N2 : Int} {A m : Nat} {lw : Bool} {t u v q : List Int} (h : Pr73 b1 N1 b2 N2 A m lw t u) (k : Pr73 b1 N1 b2 N2 A m lw v q) : v = t ∧ q = u := by
  have key : ∀ {x y : List Int}, x.length = m → Ltr A x → y.length = m → Ltr A y → ¬ LexLt x y → ¬ LexLt y x → x = y := fun {x y} hx ax hy ay n1 n2 => by
    obtain ⟨i, hi, ei⟩ := List.getElem_of_mem (txsL_mem.mpr ⟨hx, ax⟩)
    obtain ⟨j, hj, ej⟩ := List.getElem_of_mem (txsL_mem.mpr ⟨hy, ay⟩)
    have lex := List.pairwise_iff_getElem.mp (txsL_lex A m)
    rcases Nat.lt_trichotomy i j with g | g | g
    · have := lex i j hi hj g
      rw [ei, ej] at this
      exact absurd this n1
    · subst g
      rw [← ei, ← ej]
    · have := lex j i hj hi g
      rw [ei, ej] at this
      exact absurd this n2
  have e1 : v = t := key k.lt k.at' h.lt h.at' (h.one v q k.lt k.lu k.at' k.au k.hit) (k.one t u h.lt h.lu h.at' h.au h.hit)
  subst e1
  exact ⟨rfl, key k.lu k.au h.lu h.au (h.two q k.lu k.au k.hit) (k.two u h.lu h.au h.hit)⟩
end Bc
namespace Bc
open PySem PySem.Spec PyProof.Rows L2
theorem snoc_of {n : Nat} {ds : List Int} (h : ds.length = n + 1) : ∃ us d, ds = us ++ [d] ∧ us.length = n := by
  rcases List.eq_nil_or_concat ds with e | ⟨us, d, e⟩
  · rw [e] at h
    cases h
  · rw [List.concat_eq_append] at e
    exact ⟨us, d, e, by rw [e, List.length_append, List.length_singleton] at h; omega⟩
theorem hv_bd1 : ∀ (n : Nat) (ds : List Int), ds.length = n → Stp 2 ds → (hv ds 1).natAbs ≤ n
  | 0, ds, h, _ => by
    rw [List.eq_nil_of_length_eq_zero h]
    decide
  | n + 1, ds, h, hs => by
    obtain ⟨us, d, rfl, hu⟩ := snoc_of h
    have := hv_bd1 n us hu fun x hx => hs x (List.mem_append_left _ hx)
    have := hs d (by simp)
    rw [hv_snoc]
    omega
theorem hv_bd2 : ∀ (n : Nat) (ds : List Int), ds.length = n → Stp 2 ds → (hv ds 2).natAbs + 1 ≤ 2 ^ n
  | 0, ds, h, _ => by
    rw [List.eq_nil_of_length_eq_zero h]
    decide
  | n + 1, ds, h, hs => by
    obtain ⟨us, d, rfl, hu⟩ := snoc_of h
    have := hv_bd2 n us hu fun x hx => hs x (List.mem_append_left _ hx)
    have := hs d (by simp)
    rw [hv_snoc, Nat.pow_succ]
    omega
theorem no_small {b N1 N2 : Int} {A : Nat} {p : Int × Int} {j : Nat} (hb : ∀ ds : List Int, ds.length = j → Stp A ds → (hv ds b).natAbs < N1.natAbs) (h : RL b N1 b N2 A j p) : ¬ Msd p := by
  obtain ⟨ds, h1, h2, rfl⟩ := h
  rintro ⟨g1, g2⟩
  have := hb ds h1 h2
  have g1 : hv ds b % N1 = 0 := g1
  have z : hv ds b = 0 := Int.natAbs_eq_zero.mp (Nat.eq_zero_of_dvd_of_lt (Int.natAbs_dvd_natAbs.mpr (Int.dvd_of_emod_eq_zero g1)) this)
  exact g2 (by show hv ds b % N2 = 0; rw [z, Int.zero_emod])
theorem least_a : LeastM (2 % num [(2, 2)]) (num [(2, 2)]) (2 % num [(2, 3)]) (num [(2, 3)]) 2 3 := by
  rw [show num [(2, 2)] = 4 by decide, show num [(2, 3)] = 8 by decide]
  refine ⟨⟨_, ⟨[1, 0, 0], rfl, (fun x hx => by simp at hx; omega), rfl⟩, by decide, by decide⟩, fun j hj p hp => ?_⟩
  refine no_small (fun ds h hs => ?_) hp
  have h1 := hv_bd2 j ds h hs
  have h2 := Nat.pow_le_pow_right (show 0 < 2 by decide) (show j ≤ 2 by omega)
  show (hv ds (2 % 4)).natAbs < 4
  have : (2 : Int) % 4 = 2 := by decide
  rw [this]
  omega
theorem least_b : LeastM (1 % num [(3, 1)]) (num [(3, 1)]) (1 % num [(2, 1)]) (num [(2, 1)]) 4 1 := by
  rw [show num [(3, 1)] = 3 by decide, show num [(2, 1)] = 2 by decide]
  refine ⟨⟨_, ⟨[3], rfl, (fun x hx => by simp at hx; omega), rfl⟩, by decide, by decide⟩, fun j hj p hp => ?_⟩
  rw [show j = 0 by omega, RL_zero] at hp
  rw [hp]
  exact fun h => h.2 rfl
theorem least_c : LeastM (1 % num [(7, 1)]) (num [(7, 1)]) (1 % num [(2, 1)]) (num [(2, 1)]) 2 7 := by
  rw [show num [(7, 1)] = 7 by decide, show num [(2, 1)] = 2 by decide]
  refine ⟨⟨_, ⟨List.replicate 7 1, rfl, (fun x hx => by rw [(List.mem_replicate.mp hx).2]; omega), rfl⟩, by decide, by decide⟩, fun j hj p hp => ?_⟩
  refine no_small (fun ds h hs => ?_) hp
  have h1 := hv_bd1 j ds h hs
  show (hv ds (1 % 7)).natAbs < 7
  have : (1 : Int) % 7 = 1 := by decide
  rw [this]
  omega
theorem noM_self {b N : Int} {A : Nat} : NoM b N b N A := fun j p hp hm => by
  obtain ⟨ds, _, _, rfl⟩ := hp
  exact hm.2 hm.1
noncomputable instance {b1 N1 b2 N2 : Int} {lw : Bool} {t q : List Int} : Decidable (Ms b1 N1 b2 N2 lw t q) := inferInstanceAs (Decidable (_ ∧ _))
theorem fst_zero {b1 N1 b2 N2 : Int} {lw : Bool} {A m j : Nat} {t u v q : List Int} (h : Pr73 b1 N1 b2 N2 A m lw t u) (h0 : (txsL A m)[0]? = some v) (hj : (txsL A m)[j]? = some q) (hr : Ms b1 N1 b2 N2 lw v q) (hno : ∀ x ∈ (txsL A m).take j, ¬ Ms b1 N1 b2 N2 lw v x) : t = v ∧ u = q := by
  obtain ⟨e1, e2⟩ := fst73 h ⟨h0, hj, hr, fun k l _ _ hk => absurd hk (by omega), fun l q' hl hq' => hno q' (List.mem_of_getElem? (i := l) (by rw [List.getElem?_take_of_lt hl]; exact hq'))⟩
  exact ⟨e1.symm, e2.symm⟩
theorem pair_a {t u : List Int} (h : Pr73 (2 % num [(2, 2)]) (num [(2, 2)]) (2 % num [(2, 3)]) (num [(2, 3)]) 2 3 true t u) : t = [0, 0, 0] ∧ u = [0, 0, 1] :=
  fst_zero (j := 1) h (by decide) (by decide) (by decide) (by decide)
theorem pair_b {t u : List Int} (h : Pr73 (1 % num [(3, 1)]) (num [(3, 1)]) (1 % num [(2, 1)]) (num [(2, 1)]) 4 1 false t u) : t = [0] ∧ u = [3] :=
  fst_zero (j := 3) h (by decide) (by decide) (by decide) (by decide)
theorem pair_c {t u : List Int} (h : Pr73 (1 % num [(7, 1)]) (num [(7, 1)]) (1 % num [(2, 1)]) (num [(2, 1)]) 2 7 false t u) : t = [0, 0, 0, 0, 0, 0, 0] ∧ u = [1, 1, 1, 1, 1, 1, 1] :=
  fst_zero (j := 127) h (by decide +kernel) (by decide +kernel) (by decide +kernel) (by decide +kernel)
end Bc
namespace Bc
open PySem
theorem lenL1 {us : List Value} (h : us.length = 1) : ∃ a0, us = [a0] := by
  rcases us with _ | ⟨_, _ | ⟨_, _⟩⟩
  · cases h
  · exact ⟨_, rfl⟩
  · exact absurd h (by simp)
theorem lenL2 {us : List Value} (h : us.length = 2) : ∃ a0 a1, us = [a0, a1] := by
  rcases us with _ | ⟨_, _ | ⟨_, _ | ⟨_, _⟩⟩⟩
  · cases h
  · cases h
  · exact ⟨_, _, rfl⟩
  · exact absurd h (by simp)
theorem lenL3 {us : List Value} (h : us.length = 3) : ∃ a0 a1 a2, us = [a0, a1, a2] := by
  rcases us with _ | ⟨_, _ | ⟨_, _ | ⟨_, _ | ⟨_, _⟩⟩⟩⟩
  · cases h
  · cases h
  · cases h
  · exact ⟨_, _, _, rfl⟩
  · exact absurd h (by simp)
theorem lenL4 {us : List Value} (h : us.length = 4) : ∃ a0 a1 a2 a3, us = [a0, a1, a2, a3] := by
  rcases us with _ | ⟨_, _ | ⟨_, _ | ⟨_, _ | ⟨_, _ | ⟨_, _⟩⟩⟩⟩⟩
  · cases h
  · cases h
  · cases h
  · cases h
  · exact ⟨_, _, _, _, rfl⟩
  · exact absurd h (by simp)
end Bc
set_option maxHeartbeats 4000000
open Bc
local macro_rules | `(tactic| walk_at "same0") => `(tactic| first
  | with_reducible exact L2.Same.refl _
  | with_reducible assumption
  | with_reducible exact rm_le
  | with_reducible exact L2.Same.trans rm_le rm_le
  | ((with_reducible refine L2.Same.trans ?_ (by with_reducible assumption)); walk_at "same0")
  | ((with_reducible refine L2.Same.trans ?_ (L2.Same.rm (by with_reducible assumption))); walk_at "same0")
  | ((with_reducible refine L2.Same.trans ?_ (Same.new (by with_reducible assumption))); walk_at "same0")
  | ((with_reducible apply same_rm); (first | with_reducible assumption | ((with_reducible refine L2.Same.trans ?_ (by with_reducible assumption)); walk_at "same0") | ((with_reducible refine L2.Same.trans ?_ (L2.Same.rm (by with_reducible assumption))); walk_at "same0")))
  | ((with_reducible refine L2.Same.rm ?_); walk_at "same0"))
local macro_rules | `(tactic| walk_at "same") => `(tactic| first
  | walk_at "same0"
  | ((with_reducible apply same_rm); walk_at "same0")
  | ((with_reducible apply same_rm); (with_reducible apply same_rm); walk_at "same0"))
local macro_rules | `(tactic| walk_at "hp0") => `(tactic| first
  | with_reducible assumption
  | ((with_reducible apply hpL); (with_reducible assumption); walk_at "same")
  | exact L2.upd_same
  | assumption
  | ((with_reducible apply hpL); assumption; walk_at "same"))
local macro_rules | `(tactic| walk_at "hp") => `(tactic| first
  | with_reducible assumption
  | (exact sq (by walk_at "hp0"))
  | (exact sqt (by walk_at "hp0"))
  | ((with_reducible apply hpL); (with_reducible assumption); walk_at "same")
  | ((with_reducible apply WayAt.same); (with_reducible assumption); walk_at "same")
  | ((with_reducible apply MkAt.same); (with_reducible assumption); walk_at "same")
  | ((with_reducible apply ModAt.same); (with_reducible assumption); walk_at "same")
  | ((with_reducible apply PrL.same); (with_reducible assumption); walk_at "same")
  | ((with_reducible apply TextAt.same); (with_reducible assumption); walk_at "same")
  | ((with_reducible apply Purse.same); (with_reducible assumption); walk_at "same")
  | assumption)
local macro_rules | `(tactic| walk_at "side") => `(tactic| first
  | with_reducible assumption
  | assumption
  | (exact rfl)
  | (refine mx_l ⟨?_, ?_⟩ <;> decide)
  | (refine mx_r ⟨?_, ?_⟩ <;> decide)
  | (refine mx_l ⟨?_, ?_⟩ <;> omega)
  | (refine mx_r ⟨?_, ?_⟩ <;> omega)
  | (refine wdiv60 ?_ ?_ <;> omega)
  | decide
  | omega)
local macro_rules | `(tactic| walk_at "go1") => `(tactic| first
  | ((with_reducible apply w_st); ((simp only [L2.start, List.map_cons, List.map_nil, List.length_cons, List.length_nil, List.cons_append, List.nil_append, List.append_nil, Nat.reduceAdd, Nat.reduceSub, List.reduceReplicate]); exact rfl))
  | with_reducible refine w_seq ?_
  | with_reducible refine w_atV ?_
  | ((with_reducible refine w_nxD ?_); (with_reducible refine w_nx ?_))
  | ((with_reducible refine w_rtD ?_); (with_reducible refine w_rt ?_))
  | ((with_reducible refine w_ctD ?_); (with_reducible refine w_ct ?_))
  | ((with_reducible refine w_bkD ?_); (with_reducible refine w_bk ?_))
  | ((with_reducible apply w_var); (exact rfl))
  | with_reducible refine w_c ?_
  | with_reducible refine w_op ?_
  | with_reducible refine w_cons ?_
  | with_reducible refine w_nil ?_
  | with_reducible refine w_cb ?_
  | ((with_reducible apply w_setN); ((intro _; simp only [List.set_cons_zero, List.set_cons_succ]); exact rfl))
  | with_reducible refine w_set ?_
  | with_reducible refine w_ret ?_
  | with_reducible refine w_if ?_
  | with_reducible refine w_test ?_
  | with_reducible refine w_tB ?_
  | with_reducible refine w_bl ?_
  | with_reducible refine w_I0 ?_
  | ((with_reducible refine w_I ?_ ?_); (first | walk_at "side" | rotate_left))
  | ((with_reducible apply w_ixL); (walk_at "hp"); (exact rfl))
  | ((with_reducible apply w_ixT); (walk_at "hp"); (exact rfl))
  | with_reducible refine w_call ?_
  | with_reducible refine w_next ?_
  | with_reducible refine w_drop ?_
  | with_reducible refine w_retN ?_
  | with_reducible refine w_un ?_
  | with_reducible refine w_U ?_
  | ((with_reducible refine w_eq ?_ ?_); (exact rfl))
  | ((with_reducible refine w_ne ?_ ?_); (exact rfl))
  | with_reducible refine w_and ?_
  | with_reducible refine w_or ?_
  | with_reducible refine w_not ?_
  | with_reducible refine w_andV ?_
  | with_reducible refine w_orV ?_
  | with_reducible refine w_notV ?_
  | with_reducible refine w_ifE ?_
  | with_reducible refine w_tup ?_
  | with_reducible refine w_lst ?_
  | ((with_reducible refine w_andsz ?_ ?_); (exact rfl))
  | with_reducible refine w_par ?_
  | with_reducible refine w_par2 ?_
  | ((with_reducible apply w_aug); (exact rfl))
  | with_reducible refine w_ipI ?_
  | with_reducible refine w_yes ?_
  | with_reducible refine w_chain ?_
  | with_reducible refine w_int1 ?_
  | with_reducible refine w_int1b ?_
  | with_reducible refine w_abs ?_
  | with_reducible refine w_max2 ?_
  | with_reducible refine w_min2 ?_
  | with_reducible refine w_for ?_
  | with_reducible refine w_rng1 ?_
  | with_reducible refine w_rng2 ?_
  | ((with_reducible refine w_rng1i ?_ ?_ ?_); omega; omega)
  | ((with_reducible refine w_rng2i ?_ ?_); omega)
  | with_reducible refine w_iList ?_
  | with_reducible refine w_iTup ?_
  | with_reducible refine w_iAt ?_
  | with_reducible refine w_asg ?_
  | with_reducible refine w_name ?_
  | with_reducible refine w_gsub ?_
  | with_reducible refine w_sl ?_
  | with_reducible refine w_noPart ?_
  | with_reducible refine w_part ?_
  | with_reducible refine w_isI ?_
  | with_reducible refine w_revL ?_
  | with_reducible refine w_isN ?_
  | with_reducible refine w_notN ?_
  | with_reducible refine w_bits ?_
  | with_reducible refine w_gcons ?_
  | with_reducible refine w_gnil ?_
  | with_reducible refine w_fld ?_
  | ((with_reducible apply w_wbase); assumption; (walk_at "hp"))
  | ((with_reducible apply w_wnum); assumption; (walk_at "hp"))
  | ((with_reducible apply w_wmark); assumption; (walk_at "hp"); intro _ _)
  | (((with_reducible apply w_wmod); assumption; (walk_at "hp")); intro _ _)
  | ((with_reducible apply w_mnum); assumption; (walk_at "hp"))
  | (((with_reducible apply w_mfac); assumption; (walk_at "hp")); intro _ _ _ _)
  | ((with_reducible apply w_klow); assumption; (walk_at "hp"))
  | ((with_reducible apply w_kshift); assumption; (walk_at "hp"))
  | ((with_reducible apply w_klead); assumption; (walk_at "hp"))
  | ((with_reducible apply w_setL); (walk_at "hp"); (exact rfl))
  | ((with_reducible apply w_len); (walk_at "hp"))
  | ((with_reducible apply w_lenT); (walk_at "hp"))
  | with_reducible refine while_n ?_
  | with_reducible refine while_nm ?_
  | with_reducible refine w_cO ?_
  | with_reducible refine w_m1 ?_
  | with_reducible refine w_isStr ?_
  | ((with_reducible apply w_tyL); (walk_at "hp"))
  | with_reducible refine w_makeK ?_
  | with_reducible refine w_callN ?_
  | ((with_reducible apply w_gtup); (walk_at "hp"); (exact rfl))
  | ((with_reducible apply w_unl); (walk_at "hp"); (exact rfl))
  | with_reducible refine w_sfld ?_
  | with_reducible refine w_make ?_
  | with_reducible refine w_meth ?_
  | with_reducible refine w_iEnum ?_
  | with_reducible refine w_lc ?_
  | with_reducible refine w_iStr ?_
  | with_reducible refine w_isS ?_
  | with_reducible refine w_leS ?_
  | with_reducible refine w_ord ?_
  | ((with_reducible apply w_iL); (walk_at "hp"))
  | ((with_reducible apply w_iT); (walk_at "hp"))
  | with_reducible refine w_bm ?_
  | with_reducible refine w_callX ?_
  | with_reducible refine w_mkO ?_
  | with_reducible refine w_xf ?_
  | with_reducible refine w_lstRg ?_
  | with_reducible refine w_rg1 ?_
  | with_reducible refine w_rg2 ?_
  | with_reducible refine w_rg2i ?_
  | ((with_reducible refine w_rgok ?_ ?_); omega)
  | with_reducible refine w_dnew ?_
  | with_reducible refine w_isB ?_
  | with_reducible refine w_strB ?_
  | with_reducible refine w_iRng3 ?_
  | with_reducible refine w_lstB ?_
  | with_reducible refine w_iZip ?_
  | ((with_reducible apply w_zipi); (walk_at "hp"); (walk_at "hp"))
  | with_reducible refine w_methK ?_
  | with_reducible refine w_cOK ?_
  | with_reducible refine w_makeX ?_
  | with_reducible refine w_makeKS ?_
  | with_reducible refine w_methX ?_
  | with_reducible refine w_mkV ?_
  | with_reducible refine w_rev0 ?_
  | with_reducible refine w_xk ?_
  | with_reducible refine w_lenSet ?_
  | with_reducible refine w_cOX ?_
  | with_reducible refine w_augS ?_
  | with_reducible refine w_lenSet1 ?_
  | with_reducible refine w_bm0 ?_)
local macro_rules | `(tactic| walk_at "go") => `(tactic| repeat (walk_at "go1"))
local macro_rules | `(tactic| walk_at "goI") => `(tactic| repeat ((fail_if_success (with_reducible refine w_if ?_)); walk_at "go1"))
namespace Lw
open PySem PySem.Spec PyProof.Rows L2 Bc C8
noncomputable def top (i : Nat) : Stmt := PySem.Challenge.pw_baseclash_k73_the_first_pair_that_is_mis.main.body.getD i (.Pass ⟨0, 0, 0, 0⟩)
section
variable {P : Program} {w : World} {K : PySem.W.Frag} {mg : Str → Option Value} {base : Heap}
noncomputable abbrev s_isint : Stmt := (top 11)
theorem sc_isint : FnScope ["thing"] ["thing"] (defScope s_isint) :=
  ⟨rfl, rfl, rfl, by decide +kernel, rfl, by decide +kernel, by decide +kernel⟩
theorem ok_isint (F : Dn K mg "is_integer" s_isint ["thing"]) (T : Bt mg) : Cal P w K mg base 1 "is_integer" (spIsInt K) [] := by
  refine F.cal sc_isint (fun vs H Q E h => ?_) (fun f cdv A outer s H vs Q E hr h => ?_)
  · obtain ⟨v, t, b1, b2, rfl, _⟩ := h
    rfl
  · obtain ⟨v, t, b1, b2, rfl, ty, k1, k2, q⟩ := h
    refine ⟨_, (pss_one (ps_ret (pe_and (pe_callB call_isi (by rfl) T.isinstance (by decide +kernel) (pa_cons (pv 0) (pa_cons (pe_bltn (v := .ty "int") (by rfl) T.int (by decide +kernel) rfl) pa_nil))) (pe_one (pe_not (pe_callB call_isi (by rfl) T.isinstance (by decide +kernel) (pa_cons (pv 0) (pa_cons (pe_bltn (v := .ty "bool") (by rfl) T.bool (by decide +kernel) rfl) pa_nil)))))))), ?_⟩
    walk_at "go"
    refine w_isi ty k1 ?_
    walk_at "go"
    cases b1 with
    | false => exact iteF q
    | true =>
      refine iteT ?_
      walk_at "go"
      refine w_isi ty k2 ?_
      walk_at "go"
      exact q
noncomputable abbrev s_raised : Stmt := (top 12)
theorem sc_raised : FnScope ["factor", "power", "found", "turn"] ["factor", "power"] (defScope s_raised) :=
  ⟨rfl, rfl, rfl, by decide +kernel, rfl, by decide +kernel, by decide +kernel⟩
theorem ok_raised (F : Dn K mg "raised" s_raised ["factor", "power"]) (T : Bt mg) : Cal P w K mg base 1 "raised" spRaised [] := by
  refine F.cal sc_raised (fun vs H Q E h => ?_) (fun f cdv A outer s H vs Q E hr h => ?_)
  · obtain ⟨g, p, b, rfl, _⟩ := h
    rfl
  · obtain ⟨g, p, b, rfl, p0, p1, gb, hb, q⟩ := h
    refine ⟨_, (pss_cons (ps_set (i := 2) sc_raised.nd rfl (Or.inl rfl) pe_int)
      (pss_cons (ps_for PassesOwn.never rfl (pi_range1 (by rfl) T.range (pa_cons (pv 1) pa_nil)) (pg_name (i := 3) sc_raised.nd rfl (Or.inl rfl)) (pss_one (ps_set (i := 2) sc_raised.nd rfl (Or.inl rfl) (pe_op oMul (pv 2) (pv 0)))))
      (pss_one (ps_ret (pv 2))))), ?_⟩
    walk_at "go"
    refine for_range (lo := 0) (n := p.toNat) (fun i σ H' => ∃ (u : Option V), σ = [some (.int g), some (.int p), some (.int (g ^ i)), u] ∧ H' = H)
      ⟨none, by rw [Int.pow_zero], rfl⟩ ?_ ?_
    · rintro i σ H' hi ⟨u, rfl, rfl⟩
      walk_at "go"
      · exact ⟨_, by rw [Int.pow_succ], rfl⟩
      · refine mx_w (natAbs_pow_lt gb i) gb ?_
        have h1 : b * i ≤ b * p.toNat := Nat.mul_le_mul_left b (by omega)
        omega
    · rintro σ H' ⟨u, rfl, rfl⟩
      walk_at "go"
      exact q
noncomputable abbrev s_prime : Stmt := (top 13)
theorem sc_prime : FnScope ["number", "divisor"] ["number"] (defScope s_prime) :=
  ⟨rfl, rfl, rfl, by decide +kernel, rfl, by decide +kernel, by decide +kernel⟩
theorem ok_prime (F : Dn K mg "is_prime_number" s_prime ["number"]) (T : Bt mg) : Cal P w K mg base 1 "is_prime_number" spPrime [] := by
  refine F.cal sc_prime (fun vs H Q E h => ?_) (fun f cdv A outer s H vs Q E hr h => ?_)
  · obtain ⟨n, rfl, _⟩ := h
    rfl
  · obtain ⟨n, rfl, n1, q⟩ := h
    refine ⟨_, (pss_cons (ps_set (i := 1) sc_prime.nd rfl (Or.inl rfl) pe_int)
      (pss_cons (ps_while PassesOwn.never (pt_cmpR op_le (pe_op oMul (pv 1) (pv 1)) (pv 0) (nomark _)) (pss_cons (ps_if (pt_cmpR op_eq (pe_op op_mod (pv 0) (pv 1)) pe_int (nomark _)) (pss_one (ps_ret pe_bl)) pss_nil)
      (pss_one (ps_aug (i := 1) sc_prime.nd rfl (Or.inl rfl) pe_int ip_add))))
      (pss_one (ps_ret (pe_cmpR op_gt (pv 0) pe_int (nomark _)))))), ?_⟩
    walk_at "go"
    refine while_go (fun σ H' => ∃ d : Int, σ = [some (.int n), some (.int d)] ∧ 2 ≤ d ∧ d ≤ 2 ^ 31 ∧ (∀ e : Int, 2 ≤ e → e < d → n % e ≠ 0) ∧ H' = H) (fun σ _ => match σ with | [_, some (.int d)] => (2 ^ 31 - d).toNat | _ => 0)
      ⟨2, rfl, by decide, by decide, fun e h1 h2 => by omega, rfl⟩ ?_
    rintro σ H' ⟨d, rfl, d2, d3, hd, rfl⟩
    walk_at "go"
    refine ite_d (fun h => ?_) (fun h => ?_)
    · have hd30 : d < 2 ^ 31 - 1 := by
        refine Int.not_le.mp fun z => ?_
        have h4 : (2 ^ 31 - 1) * (2 ^ 31 - 1) ≤ d * d := Int.mul_le_mul z z (by decide) (by omega)
        omega
      walk_at "go"
      refine ite_d (fun h2 => ?_) (fun h2 => ?_)
      · walk_at "go"
        have e0 : n % d = 0 := by injection h2
        exact q false ⟨(fun z => by cases z), fun z => absurd e0 (z.2 d d2 h)⟩
      · walk_at "go"
        have e0 : n % d ≠ 0 := fun z => h2 (by rw [z])
        refine ⟨?_, d + 1, rfl, by omega, by omega, fun e h3 h4 => ?_, rfl⟩
        · show (2 ^ 31 - (d + 1)).toNat < (2 ^ 31 - d).toNat
          omega
        · by_cases h5 : e = d
          · rw [h5]; exact e0
          · exact hd e h3 (by omega)
    · walk_at "go"
      refine q _ ?_
      rw [decide_eq_true_iff]
      refine ⟨fun z => ⟨z, fun e h1 h2 => ?_⟩, fun z => z.1⟩
      by_cases h5 : e < d
      · exact hd e h1 h5
      · exfalso
        have h4 : d * d ≤ e * e := Int.mul_le_mul (by omega) (by omega) (by omega) (by omega)
        omega
noncomputable abbrev s_istext : Stmt := (top 19)
theorem sc_istext : FnScope ["thing", "sign", "letter"] ["thing"] (defScope s_istext) :=
  ⟨rfl, rfl, rfl, by decide +kernel, rfl, by decide +kernel, by decide +kernel⟩
theorem ok_istext (F : Dn K mg "is_text" s_istext ["thing"]) (T : Bt mg) (c_isint : Cal P w K mg base 1 "is_integer" (spIsInt K) []) : Cal P w K mg base 2 "is_text" spIsText [] := by
  refine F.cal sc_istext (fun vs H Q E h => ?_) (fun f cdv A outer s H vs Q E hr h => ?_)
  · obtain ⟨v, ls, rfl, _⟩ := h
    rfl
  · obtain ⟨v, ls, rfl, tx, k⟩ := h
    cases tx with
    | str z hz hl =>
      refine ⟨_, (pss_cons (ps_if (pt_val (pe_callB call_isi (by rfl) T.isinstance (by decide +kernel) (pa_cons (pv 0) (pa_cons (pe_bltn (v := .ty "str") (by rfl) T.str (by decide +kernel) rfl) pa_nil)))) (pss_one (ps_ret (pe_callB (cr_all rfl) (by rfl) T.all (by decide +kernel) (pa_cons (pe_lc (own := [("sign", 1)]) (g := gName 1) (tt := tYes) (te := (tChain _ _ _ (tVar 1) _)) rfl sc_istext.nd (pi_str (pv 0)) (blkOk_by (own := [("sign", 1)]) (N := ["thing", "sign", "letter"]) (sc := defScope s_istext) (by decide +kernel)) (fun _ _ _ _ _ => (pg_name (i := 1) sc_istext.nd rfl (Or.inl rfl))) (fun _ _ _ _ _ => pts_nil) (fun _ _ _ _ _ => (pe_chain oLeS oLeS pe_str (pv 1) pe_str))) pa_nil)))) pss_nil)
      (pss_one (ps_ret (pe_and (pe_callB call_isiT (by rfl) T.isinstance (by decide +kernel) (pa_cons (pv 0) (pa_cons (pe_tup (pa_cons (pe_bltn (v := .ty "list") (by rfl) T.list (by decide +kernel) rfl) (pa_cons (pe_bltn (v := .ty "tuple") (by rfl) T.tuple (by decide +kernel) rfl) pa_nil))) pa_nil))) (pe_one (pe_callB (cr_all rfl) (by rfl) T.all (by decide +kernel) (pa_cons (pe_lc (own := [("letter", 2)]) (g := gName 2) (tt := tYes) (te := (tCall _ _ _ (tCons (tVar 2) tNil))) rfl sc_istext.nd (pi_list (pv 0)) (blkOk_by (own := [("letter", 2)]) (N := ["thing", "sign", "letter"]) (sc := defScope s_istext) (by decide +kernel)) (fun _ _ _ _ _ => (pg_name (i := 2) sc_istext.nd rfl (Or.inl rfl))) (fun _ _ _ _ _ => pts_nil) (fun _ _ _ _ _ => (pe_c c_isint hr (by decide) (by rfl) (pa_cons (pv 2) pa_nil)))) pa_nil))))))), ?_⟩
      walk_at "go"
      refine w_isi (b := true) (.base (.str z)) (kit_ty (by decide +kernel)) ?_
      walk_at "go"
      refine iteT ?_
      walk_at "go"
      intro D hD
      refine lc_pure (z.cps.toList.map fun c => V.str ⟨#[c]⟩) ((z.cps.toList.map fun _ => true).map V.bl) walk_strY hD (fun _ _ => trivial) (by simp) (by simp; exact hl) (fun _ => rfl) ?_ ?_
      · intro i x y H' hx hy sm Q' q'
        obtain ⟨c, hc, rfl⟩ := get_map hx
        obtain ⟨b, hb, rfl⟩ := get_map hy
        obtain ⟨d, hd, rfl⟩ := get_map hb
        have hr := hz c (List.mem_of_getElem? hc)
        walk_at "go"
        rw [sign_lo hr.1]
        refine iteT ?_
        walk_at "go"
        rw [sign_hi hr.2]
        exact q' _ (Same.refl _)
      · intro H' sm hH
        walk_at "go"
        refine w_all (sq hH) ?_
        rw [all_true]
        exact k _ sm
    | lst a _ h l =>
      refine ⟨_, (pss_cons (ps_if (pt_val (pe_callB call_isi (by rfl) T.isinstance (by decide +kernel) (pa_cons (pv 0) (pa_cons (pe_bltn (v := .ty "str") (by rfl) T.str (by decide +kernel) rfl) pa_nil)))) (pss_one (ps_ret (pe_callB (cr_all rfl) (by rfl) T.all (by decide +kernel) (pa_cons (pe_lc (own := [("sign", 1)]) (g := gName 1) (tt := tYes) (te := (tChain _ _ _ (tVar 1) _)) rfl sc_istext.nd (pi_str (pv 0)) (blkOk_by (own := [("sign", 1)]) (N := ["thing", "sign", "letter"]) (sc := defScope s_istext) (by decide +kernel)) (fun _ _ _ _ _ => (pg_name (i := 1) sc_istext.nd rfl (Or.inl rfl))) (fun _ _ _ _ _ => pts_nil) (fun _ _ _ _ _ => (pe_chain oLeS oLeS pe_str (pv 1) pe_str))) pa_nil)))) pss_nil)
      (pss_one (ps_ret (pe_and (pe_callB call_isiT (by rfl) T.isinstance (by decide +kernel) (pa_cons (pv 0) (pa_cons (pe_tup (pa_cons (pe_bltn (v := .ty "list") (by rfl) T.list (by decide +kernel) rfl) (pa_cons (pe_bltn (v := .ty "tuple") (by rfl) T.tuple (by decide +kernel) rfl) pa_nil))) pa_nil))) (pe_one (pe_callB (cr_all rfl) (by rfl) T.all (by decide +kernel) (pa_cons (pe_lc (own := [("letter", 2)]) (g := gName 2) (tt := tYes) (te := (tCall _ _ _ (tCons (tVar 2) tNil))) rfl sc_istext.nd (pi_list (pv 0)) (blkOk_by (own := [("letter", 2)]) (N := ["thing", "sign", "letter"]) (sc := defScope s_istext) (by decide +kernel)) (fun _ _ _ _ _ => (pg_name (i := 2) sc_istext.nd rfl (Or.inl rfl))) (fun _ _ _ _ _ => pts_nil) (fun _ _ _ _ _ => (pe_c c_isint hr (by decide) (by rfl) (pa_cons (pv 2) pa_nil)))) pa_nil))))))), ?_⟩
      walk_at "go"
      refine w_isi (b := false) (.base (.lst h)) (kit_ty (by decide +kernel)) ?_
      walk_at "go"
      refine iteF ?_
      walk_at "go"
      intro p hp
      walk_at "go"
      have h1 := upd_new (o := .tup [.ty "list", .ty "tuple"]) hp h
      refine w_isi2 (b := true) upd_same (.base (.lst h1)) (kitA (by decide +kernel)) ?_
      walk_at "go"
      refine iteT ?_
      walk_at "go"
      intro D hD
      refine lc_pure (ls.map V.int) ((ls.map fun _ => true).map V.bl) walk_list hD (fun _ sm => sq (sm _ _ h1)) (by simp) (by simp; exact l) (fun _ => rfl) ?_ ?_
      · intro i x y H' hx hy sm Q' q'
        obtain ⟨c, hc, rfl⟩ := get_map hx
        obtain ⟨b, hb, rfl⟩ := get_map hy
        obtain ⟨d, hd, rfl⟩ := get_map hb
        walk_at "go"
        refine use_isInt ?_
        exact q' _ (Same.refl _)
      · intro H' sm hH
        walk_at "go"
        refine w_all (sq hH) ?_
        rw [all_true]
        exact k _ ((Same.new hp).trans sm)
    | tup a _ h l =>
      refine ⟨_, (pss_cons (ps_if (pt_val (pe_callB call_isi (by rfl) T.isinstance (by decide +kernel) (pa_cons (pv 0) (pa_cons (pe_bltn (v := .ty "str") (by rfl) T.str (by decide +kernel) rfl) pa_nil)))) (pss_one (ps_ret (pe_callB (cr_all rfl) (by rfl) T.all (by decide +kernel) (pa_cons (pe_lc (own := [("sign", 1)]) (g := gName 1) (tt := tYes) (te := (tChain _ _ _ (tVar 1) _)) rfl sc_istext.nd (pi_str (pv 0)) (blkOk_by (own := [("sign", 1)]) (N := ["thing", "sign", "letter"]) (sc := defScope s_istext) (by decide +kernel)) (fun _ _ _ _ _ => (pg_name (i := 1) sc_istext.nd rfl (Or.inl rfl))) (fun _ _ _ _ _ => pts_nil) (fun _ _ _ _ _ => (pe_chain oLeS oLeS pe_str (pv 1) pe_str))) pa_nil)))) pss_nil)
      (pss_one (ps_ret (pe_and (pe_callB call_isiT (by rfl) T.isinstance (by decide +kernel) (pa_cons (pv 0) (pa_cons (pe_tup (pa_cons (pe_bltn (v := .ty "list") (by rfl) T.list (by decide +kernel) rfl) (pa_cons (pe_bltn (v := .ty "tuple") (by rfl) T.tuple (by decide +kernel) rfl) pa_nil))) pa_nil))) (pe_one (pe_callB (cr_all rfl) (by rfl) T.all (by decide +kernel) (pa_cons (pe_lc (own := [("letter", 2)]) (g := gName 2) (tt := tYes) (te := (tCall _ _ _ (tCons (tVar 2) tNil))) rfl sc_istext.nd (pi_tup (pv 0)) (blkOk_by (own := [("letter", 2)]) (N := ["thing", "sign", "letter"]) (sc := defScope s_istext) (by decide +kernel)) (fun _ _ _ _ _ => (pg_name (i := 2) sc_istext.nd rfl (Or.inl rfl))) (fun _ _ _ _ _ => pts_nil) (fun _ _ _ _ _ => (pe_c c_isint hr (by decide) (by rfl) (pa_cons (pv 2) pa_nil)))) pa_nil))))))), ?_⟩
      walk_at "go"
      refine w_isi (b := false) (.base (.tup h)) (kit_ty (by decide +kernel)) ?_
      walk_at "go"
      refine iteF ?_
      walk_at "go"
      intro p hp
      walk_at "go"
      have h1 := upd_new (o := .tup [.ty "list", .ty "tuple"]) hp h
      refine w_isi2 (b := true) upd_same (.base (.tup h1)) (kitA (by decide +kernel)) ?_
      walk_at "go"
      refine iteT ?_
      walk_at "go"
      intro D hD
      refine lc_pure (ls.map V.int) ((ls.map fun _ => true).map V.bl) walk_tup hD (fun _ sm => sqt (sm _ _ h1)) (by simp) (by simp; exact l) (fun _ => rfl) ?_ ?_
      · intro i x y H' hx hy sm Q' q'
        obtain ⟨c, hc, rfl⟩ := get_map hx
        obtain ⟨b, hb, rfl⟩ := get_map hy
        obtain ⟨d, hd, rfl⟩ := get_map hb
        walk_at "go"
        refine use_isInt ?_
        exact q' _ (Same.refl _)
      · intro H' sm hH
        walk_at "go"
        refine w_all (sq hH) ?_
        rw [all_true]
        exact k _ ((Same.new hp).trans sm)
noncomputable abbrev s_read : Stmt := (top 20)
theorem sc_read : FnScope ["text", "sign"] ["text"] (defScope s_read) :=
  ⟨rfl, rfl, rfl, by decide +kernel, rfl, by decide +kernel, by decide +kernel⟩
theorem ok_read (F : Dn K mg "read" s_read ["text"]) (T : Bt mg) : Cal P w K mg base 1 "read" spRead [] := by
  refine F.cal sc_read (fun vs H Q E h => ?_) (fun f cdv A outer s H vs Q E hr h => ?_)
  · obtain ⟨v, ls, rfl, _⟩ := h
    rfl
  · obtain ⟨v, ls, rfl, tx, k⟩ := h
    refine ⟨_, (pss_cons (ps_if (pt_val (pe_callB call_isi (by rfl) T.isinstance (by decide +kernel) (pa_cons (pv 0) (pa_cons (pe_bltn (v := .ty "str") (by rfl) T.str (by decide +kernel) rfl) pa_nil)))) (pss_one (ps_ret (pe_callTy cTupOf (by rfl) T.tuple (by decide +kernel) (pa_cons (pe_lc (own := [("sign", 1)]) (g := gName 1) (tt := tYes) (te := (tCB _ (tCons (tVar 1) tNil))) rfl sc_read.nd (pi_str (pv 0)) (blkOk_by (own := [("sign", 1)]) (N := ["text", "sign"]) (sc := defScope s_read) (by decide +kernel)) (fun _ _ _ _ _ => (pg_name (i := 1) sc_read.nd rfl (Or.inl rfl))) (fun _ _ _ _ _ => pts_nil) (fun _ _ _ _ _ => (pe_callB cOrd (by rfl) T.ord (by decide +kernel) (pa_cons (pv 1) pa_nil)))) pa_nil)))) pss_nil)
      (pss_one (ps_ret (pe_callTy cTupOf (by rfl) T.tuple (by decide +kernel) (pa_cons (pv 0) pa_nil))))), ?_⟩
    cases tx with
    | str z hz hl =>
      walk_at "go"
      refine w_isi (b := true) (.base (.str z)) (kit_ty (by decide +kernel)) ?_
      walk_at "go"
      refine iteT ?_
      walk_at "go"
      intro D hD
      refine lc_pure (z.cps.toList.map fun c => V.str ⟨#[c]⟩) ((z.cps.toList.map Int.ofNat).map V.int) walk_strY hD (fun _ _ => trivial) (by simp) (by simp; exact hl) (fun _ => rfl) ?_ ?_
      · intro i x y H' hx hy sm Q' q'
        obtain ⟨c, hc, rfl⟩ := get_map hx
        obtain ⟨b, hb, rfl⟩ := get_map hy
        obtain ⟨d, hd, rfl⟩ := get_map hb
        rw [hc] at hd
        cases hd
        walk_at "go"
        exact q' _ (Same.refl _)
      · intro H' sm hH
        walk_at "go"
        refine w_tupL (sq hH) fun t ht => ?_
        walk_at "go"
        exact k _ _ (sm.trans (Same.new ht)) upd_same
    | lst a _ h l =>
      walk_at "go"
      refine w_isi (b := false) (.base (.lst h)) (kit_ty (by decide +kernel)) ?_
      walk_at "go"
      refine iteF ?_
      walk_at "go"
      refine w_tupL (sq h) fun t ht => ?_
      walk_at "go"
      exact k _ _ (Same.new ht) upd_same
    | tup a _ h l =>
      walk_at "go"
      refine w_isi (b := false) (.base (.tup h)) (kit_ty (by decide +kernel)) ?_
      walk_at "go"
      refine iteF ?_
      walk_at "go"
      refine w_tupT (sqt h) ?_
      walk_at "go"
      exact k _ _ (Same.refl _) h
noncomputable abbrev s_reqtext : Stmt := (top 21)
theorem sc_reqtext : FnScope ["thing"] ["thing"] (defScope s_reqtext) :=
  ⟨rfl, rfl, rfl, by decide +kernel, rfl, by decide +kernel, by decide +kernel⟩
theorem ok_reqtext (F : Dn K mg "require_text" s_reqtext ["thing"]) (T : Bt mg) (c_istext : Cal P w K mg base 2 "is_text" spIsText []) (c_read : Cal P w K mg base 1 "read" spRead []) : Cal P w K mg base 3 "require_text" spRead [] := by
  refine F.cal sc_reqtext (fun vs H Q E h => ?_) (fun f cdv A outer s H vs Q E hr h => ?_)
  · obtain ⟨v, ls, rfl, _⟩ := h
    rfl
  · obtain ⟨v, ls, rfl, tx, k⟩ := h
    refine ⟨_, (pss_cons (ps_if (pt_not (pt_val (pe_c c_istext hr (by decide) (by rfl) (pa_cons (pv 0) pa_nil)))) (pss_one ps_never) pss_nil)
      (pss_one (ps_ret (pe_c c_read hr (by decide) (by rfl) (pa_cons (pv 0) pa_nil))))), ?_⟩
    walk_at "go"
    refine ⟨v, ls, rfl, tx, fun H1 s1 => ?_⟩
    walk_at "go"
    refine iteF ?_
    walk_at "go"
    refine ⟨v, ls, rfl, tx.same s1, fun H2 t s2 ht => ?_⟩
    walk_at "go"
    exact k _ _ (s1.trans s2) ht
noncomputable abbrev s_isfac : Stmt := (top 15)
theorem sc_isfac : FnScope ["thing", "least", "prime", "power"] ["thing", "least"] (defScope s_isfac) :=
  ⟨rfl, rfl, rfl, by decide +kernel, rfl, by decide +kernel, by decide +kernel⟩
theorem ok_isfac (F : Dn K mg "is_factor" s_isfac ["thing", "least"]) (T : Bt mg) (c_isint : Cal P w K mg base 1 "is_integer" (spIsInt K) []) (c_prime : Cal P w K mg base 1 "is_prime_number" spPrime []) : Cal P w K mg base 2 "is_factor" spIsFactor [] := by
  refine F.cal sc_isfac (fun vs H Q E h => ?_) (fun f cdv A outer s H vs Q E hr h => ?_)
  · obtain ⟨t, l, p, k, rfl, _⟩ := h
    rfl
  · obtain ⟨t, l, p, k, rfl, ht, hp, q⟩ := h
    refine ⟨_, (pss_cons (ps_if (PW.pt (pw_or (pt_not (pt_val (pe_callB call_isi (by rfl) T.isinstance (by decide +kernel) (pa_cons (pv 0) (pa_cons (pe_bltn (v := .ty "tuple") (by rfl) T.tuple (by decide +kernel) rfl) pa_nil))))) (pw_or1 (pt_cmpR op_ne (pe_callB cLen (by rfl) T.len (by decide +kernel) (pa_cons (pv 0) pa_nil)) pe_int (nomark _))))) (pss_one (ps_ret pe_bl)) pss_nil)
      (pss_cons (ps_asg (pv 0) (pg_tup rfl (pgs_cons (pg_name (i := 2) sc_isfac.nd rfl (Or.inl rfl)) (pgs_cons (pg_name (i := 3) sc_isfac.nd rfl (Or.inl rfl)) pgs_nil))))
      (pss_cons (ps_if (PW.pt (pw_or (pt_not (pt_val (pe_c c_isint hr (by decide) (by rfl) (pa_cons (pv 2) pa_nil)))) (pw_or1 (pt_not (pt_val (pe_c c_isint hr (by decide) (by rfl) (pa_cons (pv 3) pa_nil))))))) (pss_one (ps_ret pe_bl)) pss_nil)
      (pss_one (ps_ret (pe_and (pe_cmpR op_gt (pv 2) (pv 1) (nomark _)) (pe_and (pe_cmpR op_gt (pv 3) pe_int (nomark _)) (pe_one (pe_c c_prime hr (by decide) (by rfl) (pa_cons (pv 2) pa_nil)))))))))), ?_⟩
    walk_at "go"
    refine w_isi (b := true) (.base (.tup ht)) (kit_ty (by decide +kernel)) ?_
    walk_at "go"
    refine iteF ?_
    walk_at "go"
    refine iteNS rfl ?_
    walk_at "go"
    refine use_isInt ?_
    walk_at "go"
    refine iteF ?_
    walk_at "go"
    refine use_isInt ?_
    walk_at "go"
    refine iteF ?_
    walk_at "go"
    refine ite_d (fun h1 => ?_) (fun h1 => ?_)
    · walk_at "go"
      refine ite_d (fun h2 => ?_) (fun h2 => ?_)
      · walk_at "go"
        refine ⟨p, rfl, hp, fun b hb => ?_⟩
        walk_at "go"
        exact q b (hb.trans ⟨fun z => ⟨h1, h2, z⟩, fun z => z.2.2⟩)
      · walk_at "go"
        exact q false ⟨(fun z => by cases z), fun z => absurd z.2.1 h2⟩
    · walk_at "go"
      exact q false ⟨(fun z => by cases z), fun z => absurd z.1 h1⟩
noncomputable abbrev s_modinit : Stmt := (inClass (top 16) 0)
theorem sc_modinit : FnScope ["self", "factors", "number", "least", "place", "factor"] ["self", "factors"] (defScope s_modinit) :=
  ⟨rfl, rfl, rfl, by decide +kernel, rfl, by decide +kernel, by decide +kernel⟩
theorem ok_modinit {c : CA} {f : Addr} {fd : FuncData} (F : FunD K "__init__" "Modulus.__init__" (defArgs s_modinit) (defBody s_modinit) (defScope s_modinit) [] [] f fd) (T : Bt mg) (X : Kx K mg c) (c_isfac : Cal P w K mg base 2 "is_factor" spIsFactor []) (c_raised : Cal P w K mg base 1 "raised" spRaised []) :
    FnOk P w K mg base L2.CX0 3 f fd ["self", "factors"] (spModInit c) := by
  refine fnD_ok F sc_modinit (fun vs H Q E h => ?_) (fun cdv A outer s H vs Q E hr h => ?_)
  · obtain ⟨x, dx, l, ts, ps, rfl, _⟩ := h
    rfl
  · obtain ⟨x, dx, l, ts, ps, rfl, hx, hl, hp, ha, hs, k⟩ := h
    refine ⟨_, (pss_cons (ps_if (pt_not (pt_val (pe_callB call_isiT (by rfl) T.isinstance (by decide +kernel) (pa_cons (pv 1) (pa_cons (pe_tup (pa_cons (pe_bltn (v := .ty "list") (by rfl) T.list (by decide +kernel) rfl) (pa_cons (pe_bltn (v := .ty "tuple") (by rfl) T.tuple (by decide +kernel) rfl) pa_nil))) pa_nil))))) (pss_one ps_never) pss_nil)
      (pss_cons (ps_set (i := 2) sc_modinit.nd rfl (Or.inl rfl) pe_int)
      (pss_cons (ps_set (i := 3) sc_modinit.nd rfl (Or.inl rfl) pe_int)
      (pss_cons (ps_for PassesOwn.never rfl (pi_enum (by rfl) T.enumerate (pa_cons (pv 1) pa_nil)) (pg_tup rfl (pgs_cons (pg_name (i := 4) sc_modinit.nd rfl (Or.inl rfl)) (pgs_cons (pg_name (i := 5) sc_modinit.nd rfl (Or.inl rfl)) pgs_nil))) (pss_cons (ps_if (pt_not (pt_val (pe_c c_isfac hr (by decide) (by rfl) (pa_cons (pv 5) (pa_cons (pv 3) pa_nil))))) (pss_one ps_never) pss_nil)
      (pss_cons (ps_set (i := 3) sc_modinit.nd rfl (Or.inl rfl) (pe_ix ix_tup (pv 5) pe_int (fun _ _ => rfl)))
      (pss_one (ps_set (i := 2) sc_modinit.nd rfl (Or.inl rfl) (pe_op oMul (pv 2) (pe_c c_raised hr (by decide) (by rfl) (pa_cons (pe_ix ix_tup (pv 5) pe_int (fun _ _ => rfl)) (pa_cons (pe_ix ix_tup (pv 5) pe_int (fun _ _ => rfl)) pa_nil)))))))))
      (pss_cons (ps_fld (pv 0) (pv 2) rfl)
      (pss_one (ps_fld (pv 0) (pe_callTy cTupOf (by rfl) T.tuple (by decide +kernel) (pa_cons (pv 1) pa_nil)) rfl))))))), ?_⟩
    walk_at "go"
    intro p np
    walk_at "go"
    have hl1 := upd_new (o := .tup [.ty "list", .ty "tuple"]) np hl
    have hx1 := upd_new (o := .tup [.ty "list", .ty "tuple"]) np hx
    refine w_isi2 (b := true) upd_same (.base (.lst hl1)) (kitA (by decide +kernel)) ?_
    walk_at "go"
    refine iteF ?_
    walk_at "go"
    refine w_enumi (sq hl1) ?_
    refine for_it (walk_enum (xs := ts.map V.ref)) (fun i σ H' => ∃ (u1 u2 : Option V), σ = [some (.ref x), some (.ref l), some (.int (num (ps.take i))), some (.int (((ps.take i).getLast?.map (·.1)).getD 0)), u1, u2] ∧ Same (upd H p (.tup [.ty "list", .ty "tuple"])) H')
      ⟨none, none, rfl, Same.refl _⟩ (fun i σ H' _ z => by obtain ⟨_, _, _, z⟩ := z; exact sq (z _ _ hl1)) ?_ ?_
    · rintro i y σ H1 H2 hi ⟨u1, u2, rfl, sm⟩ ⟨t, z1, z2, rfl, nt, rfl, e1, e2⟩
      cases e1
      obtain ⟨tt, htt, rfl⟩ := get_map e2
      obtain ⟨pr, hpr, ht⟩ := paired_get hp htt
      have s2 : Same H (upd H1 t (.tup [.int (i : Nat), .ref tt])) := (Same.new np).trans (sm.trans (Same.new nt))
      have ht2 := s2 _ _ ht
      have hsm := hs.1 pr (List.mem_of_getElem? hpr)
      have hasc := ha.at_ hpr
      refine w_gtup (sqt upd_same) rfl ?_
      walk_at "go"
      refine ⟨tt, _, pr.1, pr.2, rfl, ht2, by omega, fun b hb => ?_⟩
      have hb1 : b = true := hb.mpr hasc
      subst hb1
      walk_at "go"
      refine iteF ?_
      walk_at "go"
      refine ⟨pr.1, pr.2, 10, rfl, by omega, by omega, by show pr.1.natAbs < 1024; omega, by omega, ?_⟩
      walk_at "go"
      · refine ⟨some (.int (i : Nat)), some (.ref tt), ?_, (sm.trans (Same.new nt))⟩
        have hi2 : i < ps.length := (List.getElem?_eq_some_iff.mp hpr).1
        have e3 : (ps.take (i + 1)).getLast? = some pr := by
          rw [List.take_succ_eq_append_getElem hi2, List.getLast?_concat, (List.getElem?_eq_some_iff.mp hpr).2]
        rw [num_take hpr, e3]
        rfl
      · have hi2 : i < ps.length := (List.getElem?_eq_some_iff.mp hpr).1
        have h7 := num_bound hs i (by omega)
        refine mx_w h7.2 (natAbs_pow_lt (b := 10) (by show pr.1.natAbs < 1024; omega) pr.2.toNat) ?_
        have := hs.2
        omega
    · rintro σ H1 ⟨u1, u2, rfl, sm⟩
      have hlen : (ts.map V.ref).length = ps.length := by
        rw [List.length_map]
        exact hp.length.symm
      rw [hlen, List.take_length]
      have hx2 := sm _ _ hx1
      have hl2 := sm _ _ hl1
      walk_at "go"
      refine w_sfldi hx2 X.md.cl X.number (by decide) ?_
      walk_at "go"
      have nxl : l ≠ x := fun z => by rw [z, hx] at hl; cases hl
      refine w_tupL (sq ((upd_ne nxl).trans hl2)) fun t ht => ?_
      walk_at "go"
      have nxt : x ≠ t := fun z => by rw [z, upd_same] at ht; cases ht
      refine w_sfldi ((upd_ne nxt).trans upd_same) X.md.cl X.factors (by show 1 < 1000; decide) ?_
      walk_at "go"
      refine k _ t (fun b o nb hb => ?_) ?_ ?_
      · have hb2 := sm _ _ (Same.new np _ _ hb)
        have hbt : b ≠ t := fun z => by rw [z] at nb hb2; rw [upd_ne nb, hb2] at ht; cases ht
        rw [upd_ne nb, upd_ne hbt, upd_ne nb]
        exact hb2
      · rw [upd_same]
        show some (HO.ins c.md dx (putF "factors" (.ref t) [("number", _)])) = _
        rw [putS (by decide +kernel)]
        rfl
      · rw [upd_ne nxt.symm, upd_same]
noncomputable abbrev s_reqmod : Stmt := (top 17)
theorem sc_reqmod : FnScope ["modulus"] ["modulus"] (defScope s_reqmod) :=
  ⟨rfl, rfl, rfl, by decide +kernel, rfl, by decide +kernel, by decide +kernel⟩
theorem ok_reqmod {c : CA} (F : Dn K mg "require_modulus" s_reqmod ["modulus"]) (T : Bt mg) (X : Kx K mg c) : Cal P w K mg base 1 "require_modulus" (spReqMod c) [] := by
  refine F.cal sc_reqmod (fun vs H Q E h => ?_) (fun f cdv A outer s H vs Q E hr h => ?_)
  · obtain ⟨m, dx, fs, rfl, _⟩ := h
    rfl
  · obtain ⟨m, dx, fs, rfl, hm, q⟩ := h
    refine ⟨_, (pss_one (ps_if (pt_not (pt_val (pe_callB call_isi (by rfl) T.isinstance (by decide +kernel) (pa_cons (pv 0) (pa_cons (pe_glob (v := .ref c.md) (by rfl) X.mgMd rfl) pa_nil))))) (pss_one ps_never) pss_nil)), ?_⟩
    walk_at "go"
    refine w_isiC (X.md.ty hm) kit_own ?_
    walk_at "go"
    refine iteF ?_
    walk_at "go"
    exact q
noncomputable abbrev s_mkinit : Stmt := (inClass (top 24) 0)
theorem sc_mkinit : FnScope ["self", "low", "shift", "lead"] ["self", "low", "shift", "lead"] (defScope s_mkinit) :=
  ⟨rfl, rfl, rfl, by decide +kernel, rfl, by decide +kernel, by decide +kernel⟩
theorem ok_mkinit {c : CA} {f : Addr} {fd : FuncData} {kws : List (Str × V)} (F : FunD K "__init__" "Marking.__init__" (defArgs s_mkinit) (defBody s_mkinit) (defScope s_mkinit) [] kws f fd) (T : Bt mg) (X : Kx K mg c) (c_isint : Cal P w K mg base 1 "is_integer" (spIsInt K) []) :
    FnOk P w K mg base L2.CX0 2 f fd ["self", "low", "shift", "lead"] (spMkInit c) := by
  refine fnD_ok F sc_mkinit (fun vs H Q E h => ?_) (fun cdv A outer s H vs Q E hr h => ?_)
  · obtain ⟨x, dx, l, sh, d, rfl, _⟩ := h
    rfl
  · obtain ⟨x, dx, l, sh, d, rfl, hx, k⟩ := h
    refine ⟨_, (pss_cons (ps_if (pt_not (pt_val (pe_callB call_isi (by rfl) T.isinstance (by decide +kernel) (pa_cons (pv 1) (pa_cons (pe_bltn (v := .ty "bool") (by rfl) T.bool (by decide +kernel) rfl) pa_nil))))) (pss_one ps_never) pss_nil)
      (pss_cons (ps_if (pt_not (pt_val (pe_c c_isint hr (by decide) (by rfl) (pa_cons (pv 2) pa_nil)))) (pss_one ps_never) pss_nil)
      (pss_cons (ps_if (pt_not (pt_val (pe_callB call_isi (by rfl) T.isinstance (by decide +kernel) (pa_cons (pv 3) (pa_cons (pe_bltn (v := .ty "bool") (by rfl) T.bool (by decide +kernel) rfl) pa_nil))))) (pss_one ps_never) pss_nil)
      (pss_cons (ps_fld (pv 0) (pv 1) rfl)
      (pss_cons (ps_fld (pv 0) (pv 2) rfl)
      (pss_one (ps_fld (pv 0) (pv 3) rfl))))))), ?_⟩
    walk_at "go"
    refine w_isi (b := true) (.base (.bl l)) (kit_ty (by decide +kernel)) ?_
    walk_at "go"
    refine iteF ?_
    walk_at "go"
    refine use_isInt ?_
    walk_at "go"
    refine iteF ?_
    walk_at "go"
    refine w_isi (b := true) (.base (.bl d)) (kit_ty (by decide +kernel)) ?_
    walk_at "go"
    refine iteF ?_
    walk_at "go"
    refine w_sfldi hx X.kg.cl X.low (by decide) ?_
    walk_at "go"
    refine w_sfldi upd_same X.kg.cl X.shift (by show 1 < 1000; decide) ?_
    walk_at "go"
    refine w_sfldi upd_same X.kg.cl X.lead (by rw [put0, putS (by decide +kernel)]; show 2 < 1000; decide) ?_
    walk_at "go"
    refine k _ (fun b o nb hb => by rw [upd_ne nb, upd_ne nb, upd_ne nb]; exact hb) ?_
    rw [upd_same, put0, putS (by decide +kernel), put0, putS (by decide +kernel), putS (by decide +kernel)]
    rfl
noncomputable abbrev s_hf : Stmt := (inClass (top 24) 2)
theorem sc_hf : FnScope ["self", "letters", "found", "letter"] ["self", "letters"] (defScope s_hf) :=
  ⟨rfl, rfl, rfl, by decide +kernel, rfl, by decide +kernel, by decide +kernel⟩
theorem ok_hf {c : CA} {f : Addr} {fd : FuncData} (F : FunD K "highest_first" "Marking.highest_first" (defArgs s_hf) (defBody s_hf) (defScope s_hf) [] [] f fd) (T : Bt mg) (X : Kx K mg c) :
    FnOk P w K mg base L2.CX0 1 f fd ["self", "letters"] (spHf c) := by
  refine fnD_ok F sc_hf (fun vs H Q E h => ?_) (fun cdv A outer s H vs Q E hr h => ?_)
  · obtain ⟨k, a, y, ls, rfl, _⟩ := h
    rfl
  · obtain ⟨k, a, y, ls, rfl, ⟨dx, hk⟩, ha, hl, q⟩ := h
    refine ⟨_, (pss_cons (ps_setLc (i := 2) (own := [("letter", 3)]) (g := gName 3) (tt := tYes) (te := (tOp _ (tVar 3) (tFld K (tVar 0) "shift"))) rfl sc_hf.nd rfl rfl (sw_true rfl rfl rfl (by decide +kernel)) (pi_tup (pv 1)) (blkOk_by (own := [("letter", 3)]) (N := ["self", "letters", "found", "letter"]) (sc := defScope s_hf) (by decide +kernel)) (fun _ _ _ _ _ => (pg_name (i := 3) sc_hf.nd rfl (Or.inl rfl))) (fun _ _ _ _ _ => pts_nil) (fun _ _ _ _ _ => (pe_op op_add (pv 3) (pe_fld (pv 0) rfl))))
      (pss_cons (ps_if (pt_val (pe_fld (pv 0) rfl)) (pss_one (ps_set (i := 2) sc_hf.nd rfl (Or.inl rfl) (pe_revL (pv 2)))) pss_nil)
      (pss_one (ps_ret (pe_op op_cat (pe_lst (pa_cons (pe_callTy cInt1 (by rfl) T.int (by decide +kernel) (pa_cons (pe_fld (pv 0) rfl) pa_nil)) pa_nil)) (pv 2)))))), ?_⟩
    walk_at "go"
    intro D hD
    refine lc_pure (ls.map V.int) ((ls.map (· + y.shift)).map V.int) walk_tup hD (fun _ sm => sqt (sm _ _ ha)) (by simp) (by simp; exact hl) (fun _ => rfl) ?_ ?_
    · intro i x z H' hx hz sm Q' q'
      obtain ⟨u, hu, rfl⟩ := get_map hx
      obtain ⟨v, hv, rfl⟩ := get_map hz
      obtain ⟨v', hv', rfl⟩ := get_map hv
      rw [hu] at hv'
      cases hv'
      walk_at "go"
      refine w_fldi (sm _ _ hk) X.kg.cl X.shift mk_shift ?_
      walk_at "go"
      exact q' _ (Same.refl _)
    · intro H1 s1 hD1
      walk_at "go"
      refine w_fldi (s1 _ _ hk) X.kg.cl X.low mk_low ?_
      walk_at "go"
      have fin : ∀ (H2 : Hp) (d : Addr), Same H1 H2 → H2 d = some (.lst ((if y.low then (ls.map (· + y.shift)).reverse else ls.map (· + y.shift)).map V.int)) →
          ∀ p, H2 p = none → ∀ r, (upd H2 p (.lst [.int (if y.lead then 1 else 0)])) r = none → Q (.ref r) (upd (upd H2 p (.lst [.int (if y.lead then 1 else 0)])) r (.lst ([V.int (if y.lead then 1 else 0)] ++ (if y.low then (ls.map (· + y.shift)).reverse else ls.map (· + y.shift)).map V.int))) := fun H2 d s2 hd p hp r hr =>
        q _ r ((s1.trans s2).trans ((Same.new hp).trans (Same.new hr))) (by rw [upd_same]; rfl)
      have hlen : (if y.low then (ls.map (· + y.shift)).reverse else ls.map (· + y.shift)).length = ls.length := by split <;> simp
      have hsz : ([V.int (if y.lead then 1 else 0)] : List V).length + ((if y.low then (ls.map (· + y.shift)).reverse else ls.map (· + y.shift)).map V.int).length ≤ sizeLine := by
        rw [List.length_map, hlen]
        have : (100001 : Nat) ≤ sizeLine := by decide
        simp only [List.length_cons, List.length_nil]
        omega
      by_cases hlow : y.low = true
      · rw [hlow]
        refine iteT ?_
        walk_at "go"
        refine w_revi (sq hD1) fun e he => ?_
        walk_at "go"
        have hk2 := upd_new (o := .lst (((ls.map (· + y.shift)).map V.int).reverse)) he (s1 _ _ hk)
        refine w_fldi hk2 X.kg.cl X.lead mk_lead ?_
        walk_at "go"
        intro p hp
        walk_at "go"
        have hd2 : upd H1 e (.lst (((ls.map (· + y.shift)).map V.int).reverse)) e = some (.lst ((if y.low then (ls.map (· + y.shift)).reverse else ls.map (· + y.shift)).map V.int)) := by
          rw [upd_same, if_pos hlow, map_rev]
        refine w_cat upd_same (upd_new hp hd2) hsz ?_
        exact fin _ e (Same.new he) hd2 p hp
      · have hlow' : y.low = false := by simpa using hlow
        rw [hlow']
        refine iteF ?_
        walk_at "go"
        refine w_fldi (s1 _ _ hk) X.kg.cl X.lead mk_lead ?_
        walk_at "go"
        intro p hp
        walk_at "go"
        have hd2 : H1 D = some (.lst ((if y.low then (ls.map (· + y.shift)).reverse else ls.map (· + y.shift)).map V.int)) := by
          rw [hD1, if_neg hlow]
        refine w_cat upd_same (upd_new hp hd2) hsz ?_
        exact fin _ D (Same.refl _) hd2 p hp
noncomputable abbrev s_mkof : Stmt := (top 25)
theorem sc_mkof : FnScope ["marking"] ["marking"] (defScope s_mkof) :=
  ⟨rfl, rfl, rfl, by decide +kernel, rfl, by decide +kernel, by decide +kernel⟩
theorem ok_mkof {c : CA} (F : Dn K mg "marking_of" s_mkof ["marking"]) (T : Bt mg) (X : Kx K mg c) (c_mk0 : Mak P w K mg base 2 "Marking" c.kg (spMkInit c) [.bl false, .int 0, .bl false]) : Cal P w K mg base 4 "marking_of" (spMkOf c) [] := by
  refine F.cal sc_mkof (fun vs H Q E h => ?_) (fun f cdv A outer s H vs Q E hr h => ?_)
  · obtain ⟨v, y, rfl, _⟩ := h
    rfl
  · obtain ⟨v, y, rfl, hv, q⟩ := h
    refine ⟨_, (pss_cons (ps_if (pt_cmpR op_isN1 (pv 0) pe_non (nomark _)) (pss_one (ps_ret (pe_mk0 c_mk0 hr (by decide) (by rfl)))) pss_nil)
      (pss_cons (ps_if (pt_not (pt_val (pe_callB call_isi (by rfl) T.isinstance (by decide +kernel) (pa_cons (pv 0) (pa_cons (pe_glob (v := .ref c.kg) (by rfl) X.mgMk rfl) pa_nil))))) (pss_one ps_never) pss_nil)
      (pss_one (ps_ret (pv 0))))), ?_⟩
    rcases hv with ⟨rfl, rfl⟩ | ⟨k, rfl, hk⟩
    · walk_at "go"
      refine iteT ?_
      walk_at "go"
      refine use_mk fun m H' _ s1 hm => ?_
      walk_at "go"
      exact q _ _ s1 hm
    · walk_at "go"
      refine iteF ?_
      walk_at "go"
      obtain ⟨dx, hk1⟩ := id hk
      refine w_isiC (X.kg.ty hk1) kit_own ?_
      walk_at "go"
      refine iteF ?_
      walk_at "go"
      exact q _ _ (Same.refl _) hk
noncomputable abbrev s_restat : Stmt := (top 26)
theorem sc_restat : FnScope ["coefficients", "base", "number", "found", "coefficient"] ["coefficients", "base", "number"] (defScope s_restat) :=
  ⟨rfl, rfl, rfl, by decide +kernel, rfl, by decide +kernel, by decide +kernel⟩
theorem ok_restat (F : Dn K mg "rest_at" s_restat ["coefficients", "base", "number"]) (T : Bt mg) : Cal P w K mg base 1 "rest_at" spRestAt [] := by
  refine F.cal sc_restat (fun vs H Q E h => ?_) (fun f cdv A outer s H vs Q E hr h => ?_)
  · obtain ⟨a, cs, b, n, B, rfl, _⟩ := h
    rfl
  · obtain ⟨a, cs, b, n, B, rfl, ha, b0, bn, hB, hB2, q⟩ := h
    refine ⟨_, (pss_cons (ps_set (i := 3) sc_restat.nd rfl (Or.inl rfl) pe_int)
      (pss_cons (ps_for PassesOwn.never rfl (pi_list (pv 0)) (pg_name (i := 4) sc_restat.nd rfl (Or.inl rfl)) (pss_one (ps_set (i := 3) sc_restat.nd rfl (Or.inl rfl) (pe_op op_mod (pe_op op_add (pe_op oMul (pv 3) (pv 1)) (pv 4)) (pv 2)))))
      (pss_one (ps_ret (pv 3))))), ?_⟩
    walk_at "go"
    refine for_list (K := K) (a := a) (xs := cs.map V.int) (fun i σ H' => ∃ (u : Option V), σ = [some (.ref a), some (.int b), some (.int n), some (.int (restAt (cs.take i) b n)), u] ∧ H' = H)
      ⟨none, rfl, rfl⟩ (fun i σ H' _ z => by obtain ⟨_, _, rfl⟩ := z; exact sq ha) ?_ ?_
    · rintro i x σ H' hi ⟨u, rfl, rfl⟩
      obtain ⟨v, hv, rfl⟩ := get_map hi
      have hr := rest_range (b := b) (show 0 < n by omega) (cs.take i)
      walk_at "go"
      · exact ⟨_, by rw [rest_take hv], rfl⟩
      · exact mx_w (a := B) (b := B) (wide_le hr.1 (Int.le_of_lt hr.2) hB) (wide_le b0 (Int.le_of_lt bn) hB) (by omega)
    · rintro σ H' ⟨u, rfl, rfl⟩
      rw [List.length_map, List.take_length]
      walk_at "go"
      exact q
noncomputable abbrev s_wayinit : Stmt := (inClass (top 27) 0)
theorem sc_wayinit : FnScope ["self", "base", "modulus", "marking"] ["self", "base", "modulus", "marking"] (defScope s_wayinit) :=
  ⟨rfl, rfl, rfl, by decide +kernel, rfl, by decide +kernel, by decide +kernel⟩
theorem ok_wayinit {c : CA} {f : Addr} {fd : FuncData} {dvs : List V} (F : FunD K "__init__" "Way.__init__" (defArgs s_wayinit) (defBody s_wayinit) (defScope s_wayinit) dvs [] f fd) (T : Bt mg) (X : Kx K mg c) (c_isint : Cal P w K mg base 1 "is_integer" (spIsInt K) [])
    (c_reqmod : Cal P w K mg base 1 "require_modulus" (spReqMod c) []) (c_mkof : Cal P w K mg base 4 "marking_of" (spMkOf c) []) :
    FnOk P w K mg base L2.CX0 5 f fd ["self", "base", "modulus", "marking"] (spWayInit c) := by
  refine fnD_ok F sc_wayinit (fun vs H Q E h => ?_) (fun cdv A outer s H vs Q E hr h => ?_)
  · obtain ⟨x, dx, m, b, mv, ps, y, rfl, _⟩ := h
    rfl
  · obtain ⟨x, dx, m, b, mv, ps, y, rfl, hx, hm, hk, q⟩ := h
    obtain ⟨dm, t, ts, hm1, hm2, hm3, hm4, hm5⟩ := id hm
    have hn := num_pos hm5
    have nmx : m ≠ x := fun z => by
      rw [z, hx] at hm1
      have := Option.some.inj hm1
      injection this with _ _ e
      cases e
    refine ⟨_, (pss_cons (ps_if (pt_not (pt_val (pe_c c_isint hr (by decide) (by rfl) (pa_cons (pv 1) pa_nil)))) (pss_one ps_never) pss_nil)
      (pss_cons (ps_expr (pe_c c_reqmod hr (by decide) (by rfl) (pa_cons (pv 2) pa_nil)))
      (pss_cons (ps_fld (pv 0) (pe_c c_mkof hr (by decide) (by rfl) (pa_cons (pv 3) pa_nil)) rfl)
      (pss_cons (ps_fld (pv 0) (pv 2) rfl)
      (pss_cons (ps_fld (pv 0) (pe_fld (pv 2) rfl) rfl)
      (pss_one (ps_fld (pv 0) (pe_op op_mod (pv 1) (pe_fld (pv 2) rfl)) rfl))))))), ?_⟩
    walk_at "go"
    refine use_isInt ?_
    walk_at "go"
    refine iteF ?_
    walk_at "go"
    refine ⟨m, dm, _, rfl, hm1, ?_⟩
    walk_at "go"
    refine ⟨mv, y, rfl, hk, fun H1 k s1 hk1 => ?_⟩
    obtain ⟨dk, hk2⟩ := id hk1
    walk_at "go"
    have nkx : k ≠ x := fun z => by
      rw [z, s1 _ _ hx] at hk2
      have := Option.some.inj hk2
      injection this with _ _ e
      cases e
    refine w_sfldi (s1 _ _ hx) X.wy.cl X.marking (by decide) ?_
    walk_at "go"
    refine w_sfldi upd_same X.wy.cl X.modulus (by show 1 < 1000; decide) ?_
    walk_at "go"
    have e1 : putF "modulus" (.ref m) (putF "marking" (.ref k) []) = ([("marking", V.ref k), ("modulus", .ref m)] : List (Str × V)) := by
      rw [put0, putS (by decide +kernel)]
      rfl
    rw [e1]
    have hmA : ∀ (o1 o2 : HO), upd (upd H1 x o1) x o2 m = some (.ins c.md dm (mdF (num ps) t)) := fun o1 o2 => by rw [upd_ne nmx, upd_ne nmx]; exact s1 _ _ hm1
    refine w_fldi (hmA _ _) X.md.cl X.number md_number ?_
    walk_at "go"
    refine w_sfldi upd_same X.wy.cl X.wnumber (by show 2 < 1000; decide) ?_
    walk_at "go"
    refine w_fldi (by rw [upd_ne nmx]; exact hmA _ _) X.md.cl X.number md_number ?_
    walk_at "go"
    have e2 : putF "number" (.int (num ps)) [("marking", V.ref k), ("modulus", .ref m)] = ([("marking", V.ref k), ("modulus", .ref m), ("number", .int (num ps))] : List (Str × V)) := by
      rw [putS (by decide +kernel), putS (by decide +kernel)]
      rfl
    rw [e2]
    refine w_sfldi upd_same X.wy.cl X.base (by show 3 < 1000; decide) ?_
    walk_at "go"
    have e3 : putF "base" (.int (b % num ps)) [("marking", V.ref k), ("modulus", .ref m), ("number", .int (num ps))] = wyF k m (num ps) (b % num ps) := by
      rw [putS (by decide +kernel), putS (by decide +kernel), putS (by decide +kernel)]
      rfl
    rw [e3]
    refine q _ k (fun b o nb hb => by rw [upd_ne nb, upd_ne nb, upd_ne nb, upd_ne nb]; exact s1 _ _ hb) upd_same ⟨dk, ?_⟩
    rw [upd_ne nkx, upd_ne nkx, upd_ne nkx, upd_ne nkx]
    exact hk2
noncomputable abbrev s_ofl : Stmt := (inClass (top 27) 2)
theorem sc_ofl : FnScope ["self", "letters"] ["self", "letters"] (defScope s_ofl) :=
  ⟨rfl, rfl, rfl, by decide +kernel, rfl, by decide +kernel, by decide +kernel⟩
theorem ok_ofl {c : CA} {f : Addr} {fd : FuncData} (F : FunD K "of_letters" "Way.of_letters" (defArgs s_ofl) (defBody s_ofl) (defScope s_ofl) [] [] f fd) (T : Bt mg) (X : Kx K mg c) (c_restat : Cal P w K mg base 1 "rest_at" spRestAt []) (c_hf : Met P w K mg base 1 c.kg "highest_first" (spHf c) []) :
    FnOk P w K mg base L2.CX0 2 f fd ["self", "letters"] (spOfLetters c) := by
  refine fnD_ok F sc_ofl (fun vs H Q E h => ?_) (fun cdv A outer s H vs Q E hr h => ?_)
  · obtain ⟨x, a, b, ps, y, ls, rfl, _⟩ := h
    rfl
  · obtain ⟨x, a, b, ps, y, ls, rfl, ⟨dx, m, k, hx, hm, ⟨dk, hk⟩, b0, bn⟩, ha, hl, q⟩ := h
    obtain ⟨_, _, _, _, _, _, _, hs⟩ := id hm
    refine ⟨_, (pss_one (ps_ret (pe_c c_restat hr (by decide) (by rfl) (pa_cons (pe_mt c_hf hr (by decide) (pe_fld (pv 0) rfl) (pa_cons (pv 1) pa_nil)) (pa_cons (pe_fld (pv 0) rfl) (pa_cons (pe_fld (pv 0) rfl) pa_nil)))))), ?_⟩
    walk_at "go"
    refine w_fldi hx X.wy.cl X.marking wy_marking ?_
    refine w_methi hk (mk_no (by decide +kernel) (by decide +kernel) (by decide +kernel)) ?_
    walk_at "go"
    refine ⟨k, a, y, ls, rfl, ⟨dk, hk⟩, ha, hl, fun H1 l s1 hl1 => ?_⟩
    walk_at "go"
    refine w_fldi (s1 _ _ hx) X.wy.cl X.base wy_base ?_
    walk_at "go"
    refine w_fldi (s1 _ _ hx) X.wy.cl X.wnumber wy_number ?_
    walk_at "go"
    refine ⟨l, hf y ls, b, num ps, 70000, rfl, hl1, b0, bn, num_lt hs, by decide, ?_⟩
    walk_at "go"
    exact q _ s1
noncomputable abbrev s_mixed : Stmt := (top 39)
theorem sc_mixed : FnScope ["_law_cell", "_law_k", "_law_stirred"] ["_law_cell", "_law_k"] (defScope s_mixed) :=
  ⟨rfl, rfl, rfl, by decide +kernel, rfl, by decide +kernel, by decide +kernel⟩
theorem ok_mixed (F : Dn K mg "_law_mixed" s_mixed ["_law_cell", "_law_k"]) (T : Bt mg) : Cal P w K mg base 1 "_law_mixed" spMixed [] := by
  refine F.cal sc_mixed (fun vs H Q E h => ?_) (fun f cdv A outer s H vs Q E hr h => ?_)
  · obtain ⟨a, b, rfl, _⟩ := h
    rfl
  · obtain ⟨a, b, rfl, a0, a1, b0, b1, k⟩ := h
    refine ⟨_, (pss_cons (ps_set (i := 2) sc_mixed.nd rfl (Or.inl rfl) (pe_op op_mod (pe_callTy cInt1 (by rfl) T.int (by decide +kernel) (pa_cons (pe_op op_add (pe_op op_add (pe_op op_add (pe_op oMul (pv 0) pe_int) (pe_op oMul (pe_op oMul pe_int (pv 1)) (pv 1))) (pe_op oMul pe_int (pv 1))) pe_int) pa_nil)) pe_int))
      (pss_one (ps_ret (pe_op op_fdivW (pe_op op_mod (pe_callTy cInt1 (by rfl) T.int (by decide +kernel) (pa_cons (pe_op op_add (pe_op op_add (pe_op oMul (pv 2) (pv 2)) (pe_op oMul pe_int (pv 2))) pe_int) pa_nil)) pe_int) pe_int)))), ?_⟩
    walk_at "go"
    · exact k _ (by omega) (by omega)
noncomputable abbrev s_purse : Stmt := (top 40)
theorem sc_purse : FnScope ["_law_cells", "_law_at", "_law_cell"] ["_law_cells", "_law_at"] (defScope s_purse) :=
  ⟨rfl, rfl, rfl, by decide +kernel, rfl, by decide +kernel, by decide +kernel⟩
theorem ok_purse (F : Dn K mg "_law_purse" s_purse ["_law_cells", "_law_at"]) (T : Bt mg) : Cal P w K mg base 1 "_law_purse" (spPurse K) [] := by
  refine F.cal sc_purse (fun vs H Q E h => ?_) (fun f cdv A outer s H vs Q E hr h => ?_)
  · obtain ⟨a, ns, i, rfl, _⟩ := h
    rfl
  · obtain ⟨a, ns, i, rfl, hS, i0, hl, k⟩ := h
    have e1 : CPowW 10 18 := ⟨by decide, by decide +kernel⟩
    have e2 : CPowW 10 60 := ⟨by decide, by decide +kernel⟩
    have e3 : CPowW (10 ^ Int.toNat 60) 8 := ⟨by decide, by decide +kernel⟩
    have e4 : (0 : Int) < (10 ^ Int.toNat 60) ^ Int.toNat 8 := by decide +kernel
    have e5 : ((10 : Int) ^ Int.toNat 60) ^ Int.toNat 8 < 2 ^ 1600 := by decide +kernel
    generalize e6 : ((10 : Int) ^ Int.toNat 60) ^ Int.toNat 8 = g at e4 e5
    have fin : ∀ c : Int, Q = Q → ∀ p, H p = none → Q (.ref p) (upd H p (.lst [.int ((if 0 > c - 10 ^ Int.toNat 18 then 0 else c - 10 ^ Int.toNat 18) % g), .int (c % 2147483647), .int (1000 * i)])) := fun c _ p np =>
      k p _ np (Same.new np) ⟨_, _, _, upd_same, Int.emod_nonneg _ (by omega), Int.lt_trans (Int.emod_lt_of_pos _ e4) e5, by omega, by omega, by omega, by omega⟩
    refine ⟨_, (pss_cons (ps_set (i := 2) sc_purse.nd rfl (Or.inl rfl) pe_int)
      (pss_cons (ps_if (pt_cmpR op_lt (pv 1) (pe_callB cLen (by rfl) T.len (by decide +kernel) (pa_cons (pv 0) pa_nil)) (nomark _)) (pss_one (ps_set (i := 2) sc_purse.nd rfl (Or.inl rfl) (pe_ix ix_list (pv 0) (pv 1) (fun _ _ => rfl)))) pss_nil)
      (pss_one (ps_ret (pe_lst (pa_cons (pe_op op_mod (pe_callTy cInt1 (by rfl) T.int (by decide +kernel) (pa_cons (pe_callB (cMax2 rfl) (by rfl) T.max (by decide +kernel) (pa_cons (pe_op op_sub (pv 2) (pe_op oPowW pe_int pe_int)) (pa_cons pe_int pa_nil))) pa_nil)) (pe_op oPowW (pe_op oPowW pe_int pe_int) pe_int)) (pa_cons (pe_op op_mod (pe_callTy cInt1 (by rfl) T.int (by decide +kernel) (pa_cons (pv 2) pa_nil)) pe_int) (pa_cons (pe_op oMul pe_int (pv 1)) pa_nil)))))))), ?_⟩
    walk_at "go"
    refine ite_d (fun h => ?_) (fun h => ?_)
    · walk_at "go"
      refine w_ixL hS (atI_ints i0 h) ?_
      walk_at "go"
      rw [e6]
      exact fin _ rfl
    · walk_at "go"
      rw [e6]
      exact fin _ rfl
noncomputable abbrev s_draw : Stmt := (top 41)
theorem sc_draw : FnScope ["_law_purse_here", "_law_out_of", "_law_drawn"] ["_law_purse_here", "_law_out_of"] (defScope s_draw) :=
  ⟨rfl, rfl, rfl, by decide +kernel, rfl, by decide +kernel, by decide +kernel⟩
theorem ok_draw (F : Dn K mg "_law_draw" s_draw ["_law_purse_here", "_law_out_of"]) (T : Bt mg) (c_mixed : Cal P w K mg base 1 "_law_mixed" spMixed []) : Cal P w K mg base 2 "_law_draw" spDraw [] := by
  refine F.cal sc_draw (fun vs H Q E h => ?_) (fun f cdv A outer s H vs Q E hr h => ?_)
  · obtain ⟨a, n, c, rfl, _⟩ := h
    rfl
  · obtain ⟨a, n, c, rfl, n0, n1, hc, ⟨x, y, z, hp, x0, x1, y0, y1, z0, z1⟩, k⟩ := h
    refine ⟨_, (pss_cons (ps_if (pt_cmpR op_gt (pe_ix ix_list (pv 0) pe_int (fun _ _ => rfl)) pe_int (nomark _)) (pss_cons (ps_set (i := 2) sc_draw.nd rfl (Or.inl rfl) (pe_op op_mod (pe_callTy cInt1 (by rfl) T.int (by decide +kernel) (pa_cons (pe_ix ix_list (pv 0) pe_int (fun _ _ => rfl)) pa_nil)) (pv 1)))
      (pss_cons (ps_asg (pe_op op_fdivW (pe_ix ix_list (pv 0) pe_int (fun _ _ => rfl)) (pv 1)) (pg_sub (pv 0) pe_int set_list))
      (pss_one (ps_ret (pv 2))))) pss_nil)
      (pss_cons (ps_asg (pe_op op_add (pe_ix ix_list (pv 0) pe_int (fun _ _ => rfl)) pe_int) (pg_sub (pv 0) pe_int set_list))
      (pss_one (ps_ret (pe_op op_mod (pe_callTy cInt1 (by rfl) T.int (by decide +kernel) (pa_cons (pe_c c_mixed hr (by decide) (by rfl) (pa_cons (pe_ix ix_list (pv 0) pe_int (fun _ _ => rfl)) (pa_cons (pe_ix ix_list (pv 0) pe_int (fun _ _ => rfl)) pa_nil))) pa_nil)) (pv 1)))))), ?_⟩
    walk_at "go"
    refine ite_d (fun h => ?_) (fun h => ?_)
    · walk_at "go"
      exact k _ _ (Int.emod_nonneg _ (by omega)) (Int.emod_lt_of_pos _ n0) Keep.refl.upd ⟨_, _, _, upd_same, Int.ediv_nonneg x0 (by omega), Int.lt_of_le_of_lt (Int.ediv_le_self _ x0) x1, y0, y1, z0, by omega⟩
    · walk_at "go"
      refine ⟨_, _, rfl, y0, y1, (by omega), (by omega), fun r r0 r1 => ?_⟩
      walk_at "go"
      exact k _ _ (Int.emod_nonneg _ (by omega)) (Int.emod_lt_of_pos _ n0) Keep.refl.upd ⟨_, _, _, upd_same, x0, x1, y0, y1, by omega, by omega⟩
noncomputable abbrev s_great : Stmt := (top 42)
theorem sc_great : FnScope ["_law_purse_here", "_law_figures", "_law_found", "_law_turn"] ["_law_purse_here", "_law_figures"] (defScope s_great) :=
  ⟨rfl, rfl, rfl, by decide +kernel, rfl, by decide +kernel, by decide +kernel⟩
theorem ok_great (F : Dn K mg "_law_great" s_great ["_law_purse_here", "_law_figures"]) (T : Bt mg) (c_draw : Cal P w K mg base 2 "_law_draw" spDraw []) : Cal P w K mg base 3 "_law_great" spGreat [] := by
  refine F.cal sc_great (fun vs H Q E h => ?_) (fun f cdv A outer s H vs Q E hr h => ?_)
  · obtain ⟨a, n, c, rfl, _⟩ := h
    rfl
  · obtain ⟨a, n, c, rfl, n0, n1, hc, p, k⟩ := h
    refine ⟨_, (pss_cons (ps_set (i := 2) sc_great.nd rfl (Or.inl rfl) pe_int)
      (pss_cons (ps_for PassesOwn.never rfl (pi_range1 (by rfl) T.range (pa_cons (pv 1) pa_nil)) (pg_name (i := 3) sc_great.nd rfl (Or.inl rfl)) (pss_one (ps_set (i := 2) sc_great.nd rfl (Or.inl rfl) (pe_op op_add (pe_op oMul pe_int (pv 2)) (pe_c c_draw hr (by decide) (by rfl) (pa_cons (pv 0) (pa_cons pe_int pa_nil)))))))
      (pss_one (ps_ret (pv 2))))), ?_⟩
    walk_at "go"
    refine for_range (lo := 0) (n := n.toNat) (fun i σ H' => ∃ (v : Int) (u : Option V), σ = [some (.ref a), some (.int n), some (.int v), u] ∧ 0 ≤ v ∧ v < 10 ^ i ∧ Keep a H H' ∧ Purse H' a (c + i))
      ⟨0, none, rfl, by decide, by decide, Keep.refl, p.le (by omega)⟩ ?_ ?_
    · rintro i σ H' hi ⟨v, u, rfl, v0, v1, kp, pu⟩
      walk_at "go"
      refine use_draw pu (by decide) (by decide) (by omega) (fun r H2 r0 r1 k2 p2 => ?_)
      walk_at "go"
      refine ⟨_, _, rfl, by omega, ?_, kp.trans k2, p2.le (by omega)⟩
      rw [Int.pow_succ]
      omega
    · rintro σ H' ⟨v, u, rfl, v0, v1, kp, pu⟩
      walk_at "go"
      exact k _ _ v0 v1 kp (pu.le (by omega))
noncomputable abbrev s_style : Stmt := (top 43)
theorem sc_style : FnScope ["_law_purse_here", "_law_moved"] ["_law_purse_here"] (defScope s_style) :=
  ⟨rfl, rfl, rfl, by decide +kernel, rfl, by decide +kernel, by decide +kernel⟩
theorem ok_style (F : Dn K mg "_law_style" s_style ["_law_purse_here"]) (T : Bt mg) (c_draw : Cal P w K mg base 2 "_law_draw" spDraw []) (c_great : Cal P w K mg base 3 "_law_great" spGreat []) : Cal P w K mg base 4 "_law_style" spStyle [] := by
  refine F.cal sc_style (fun vs H Q E h => ?_) (fun f cdv A outer s H vs Q E hr h => ?_)
  · obtain ⟨a, c, rfl, _⟩ := h
    rfl
  · obtain ⟨a, c, rfl, hc, p, k⟩ := h
    refine ⟨_, (pss_cons (ps_set (i := 1) sc_style.nd rfl (Or.inl rfl) (pe_ix ix_list (pe_lst (pa_cons pe_int (pa_cons pe_int (pa_cons pe_int (pa_cons (pe_op op_sub pe_int pe_int) (pa_cons (pe_c c_great hr (by decide) (by rfl) (pa_cons (pv 0) (pa_cons (pe_op op_add pe_int (pe_c c_draw hr (by decide) (by rfl) (pa_cons (pv 0) (pa_cons pe_int pa_nil)))) pa_nil))) pa_nil)))))) (pe_c c_draw hr (by decide) (by rfl) (pa_cons (pv 0) (pa_cons pe_int pa_nil))) (fun _ _ => rfl)))
      (pss_one (ps_ret (pe_lst (pa_cons (pe_cmpR op_eq (pe_c c_draw hr (by decide) (by rfl) (pa_cons (pv 0) (pa_cons pe_int pa_nil))) pe_int (nomark _)) (pa_cons (pv 1) (pa_cons (pe_cmpR op_eq (pe_c c_draw hr (by decide) (by rfl) (pa_cons (pv 0) (pa_cons pe_int pa_nil))) pe_int (nomark _)) pa_nil))))))), ?_⟩
    walk_at "go"
    refine use_draw p (by decide) (by decide) (by omega) (fun r1 H1 r10 r11 k1 p1 => ?_)
    walk_at "go"
    refine use_great p1 (by omega) (by omega) (by omega) (fun g H2 g0 g1 k2 p2 => ?_)
    walk_at "go"
    intro q1 f1
    have s1 : Same H2 (upd H2 q1 (.lst (([0, 0, 1, 0 - 97, g] : List Int).map V.int))) := Same.new f1
    have m1 := p2.fresh f1
    walk_at "go"
    refine use_draw (p2.same s1) (by decide) (by decide) (by omega) (fun r2 H3 r20 r21 k3 p3 => ?_)
    have h1 := k3.at_ m1 (upd_same (H := H2) (a := q1) (o := .lst (([0, 0, 1, 0 - 97, g] : List Int).map V.int)))
    refine w_ixL (xs := ([0, 0, 1, 0 - 97, g] : List Int).map V.int) (sq h1) (atI_ints r20 (by simpa using r21)) ?_
    have hb : (([0, 0, 1, 0 - 97, g] : List Int).getD r2.toNat 0).natAbs < 10 ^ 31 := by
      have hg : g.natAbs < 10 ^ 31 := by
        have h2 : (10 : Int) ^ (1 + r1).toNat ≤ 10 ^ 30 := by
          have e : (10 : Int) ^ (1 + r1).toNat = ((10 ^ (1 + r1).toNat : Nat) : Int) := by rw [Int.natCast_pow]; rfl
          have e2 : 10 ^ (1 + r1).toNat ≤ 10 ^ 30 := Nat.pow_le_pow_right (by decide) (by omega)
          rw [e]
          omega
        omega
      have hr : r2 = 0 ∨ r2 = 1 ∨ r2 = 2 ∨ r2 = 3 ∨ r2 = 4 := by omega
      rcases hr with rfl | rfl | rfl | rfl | rfl
      · show (0 : Int).natAbs < 10 ^ 31; decide
      · show (0 : Int).natAbs < 10 ^ 31; decide
      · show (1 : Int).natAbs < 10 ^ 31; decide
      · show (0 - 97 : Int).natAbs < 10 ^ 31; decide
      · exact hg
    generalize ([0, 0, 1, 0 - 97, g] : List Int).getD r2.toNat 0 = sh at hb
    walk_at "go"
    refine use_draw p3 (by decide) (by decide) (by omega) (fun r4 H4 r40 r41 k4 p4 => ?_)
    walk_at "go"
    refine use_draw p4 (by decide) (by decide) (by omega) (fun r5 H5 r50 r51 k5 p5 => ?_)
    walk_at "go"
    intro q2 f2
    walk_at "go"
    have kp : Keep a H H5 := k1.trans (k2.trans ((Keep.of s1).trans (k3.trans (k4.trans k5))))
    have g2 : H q2 = none := by
      cases e : H q2 with
      | none => rfl
      | some o =>
        by_cases z : q2 = a
        · rw [z] at f2
          obtain ⟨_, _, _, e2, _⟩ := p5
          rw [e2] at f2
          cases f2
        · rw [kp _ _ z e] at f2
          cases f2
    exact k q2 _ ⟨_, sh, _⟩ g2 (kp.trans (Keep.of (Same.new f2))) ((p5.same (Same.new f2)).le (by omega)) upd_same hb
noncomputable abbrev s_call : Stmt := (inClass (top 27) 3)
theorem sc_call : FnScope ["self", "text"] ["self", "text"] (defScope s_call) :=
  ⟨rfl, rfl, rfl, by decide +kernel, rfl, by decide +kernel, by decide +kernel⟩
theorem ok_call {c : CA} {f : Addr} {fd : FuncData} (F : FunD K "__call__" "Way.__call__" (defArgs s_call) (defBody s_call) (defScope s_call) [] [] f fd) (T : Bt mg) (X : Kx K mg c) (c_reqtext : Cal P w K mg base 3 "require_text" spRead []) (c_ofl : Met P w K mg base 2 c.wy "of_letters" (spOfLetters c) []) :
    FnOk P w K mg base L2.CX0 4 f fd ["self", "text"] (spMarkOf c) := by
  refine fnD_ok F sc_call (fun vs H Q E h => ?_) (fun cdv A outer s H vs Q E hr h => ?_)
  · obtain ⟨x, v, b, ps, y, ls, rfl, _⟩ := h
    rfl
  · obtain ⟨x, v, b, ps, y, ls, rfl, hw, tv, q⟩ := h
    obtain ⟨dx, m, k, hx, r⟩ := id hw
    refine ⟨_, (pss_one (ps_ret (pe_mt c_ofl hr (by decide) (pv 0) (pa_cons (pe_c c_reqtext hr (by decide) (by rfl) (pa_cons (pv 1) pa_nil)) pa_nil)))), ?_⟩
    walk_at "go"
    refine w_methi hx (wy_no (by decide +kernel) (by decide +kernel) (by decide +kernel) (by decide +kernel)) ?_
    walk_at "go"
    refine ⟨v, ls, rfl, tv, fun H1 t1 s1 h1 => ?_⟩
    walk_at "go"
    refine ⟨x, t1, b, ps, y, ls, rfl, hw.same s1, h1, tv.len, fun H3 s3 => ?_⟩
    walk_at "go"
    exact q _ (s1.trans s3)
noncomputable abbrev s_agree : Stmt := (inClass (top 27) 4)
theorem sc_agree : FnScope ["self", "text", "other", "first", "second"] ["self", "text", "other"] (defScope s_agree) :=
  ⟨rfl, rfl, rfl, by decide +kernel, rfl, by decide +kernel, by decide +kernel⟩
theorem ok_agree {c : CA} {f : Addr} {fd : FuncData} (F : FunD K "agree" "Way.agree" (defArgs s_agree) (defBody s_agree) (defScope s_agree) [] [] f fd) (T : Bt mg) (X : Kx K mg c) (c_reqtext : Cal P w K mg base 3 "require_text" spRead []) (c_ofl : Met P w K mg base 2 c.wy "of_letters" (spOfLetters c) []) :
    FnOk P w K mg base L2.CX0 4 f fd ["self", "text", "other"] (spTwo c rAgree) := by
  refine fnD_ok F sc_agree (fun vs H Q E h => ?_) (fun cdv A outer s H vs Q E hr h => ?_)
  · obtain ⟨x, v, u, b, ps, y, ls, ms, rfl, _⟩ := h
    rfl
  · obtain ⟨x, v, u, b, ps, y, ls, ms, rfl, hw, tv, tu, q⟩ := h
    refine ⟨_, (pss_cons (ps_par (i := 3) (j := 4) (by rfl) sc_agree.nd rfl rfl (by decide) rfl rfl (pa_cons (pe_c c_reqtext hr (by decide) (by rfl) (pa_cons (pv 1) pa_nil)) (pa_cons (pe_c c_reqtext hr (by decide) (by rfl) (pa_cons (pv 2) pa_nil)) pa_nil)) (by rfl))
      (pss_one (ps_ret (pe_cmpR op_eq (pe_mt c_ofl hr (by decide) (pv 0) (pa_cons (pv 3) pa_nil)) (pe_mt c_ofl hr (by decide) (pv 0) (pa_cons (pv 4) pa_nil)) (nomark _))))), ?_⟩
    walk_at "go"
    refine ⟨v, ls, rfl, tv, fun H1 t1 s1 h1 => ?_⟩
    walk_at "go"
    refine ⟨u, ms, rfl, tu.same s1, fun H2 t2 s2 h2 => ?_⟩
    have s12 := s1.trans s2
    walk_at "go"
    obtain ⟨dx, m, k, hx, r⟩ := hw.same s12
    refine w_methi hx (wy_no (by decide +kernel) (by decide +kernel) (by decide +kernel) (by decide +kernel)) ?_
    walk_at "go"
    refine ⟨x, t1, b, ps, y, ls, rfl, ⟨dx, m, k, hx, r⟩, s2 _ _ h1, tv.len, fun H3 s3 => ?_⟩
    walk_at "go"
    obtain ⟨dx, m, k, hx, r⟩ := hw.same (s12.trans s3)
    refine w_methi hx (wy_no (by decide +kernel) (by decide +kernel) (by decide +kernel) (by decide +kernel)) ?_
    walk_at "go"
    refine ⟨x, t2, b, ps, y, ms, rfl, ⟨dx, m, k, hx, r⟩, s3 _ _ h2, tu.len, fun H4 s4 => ?_⟩
    walk_at "go"
    rw [decI]
    exact q H4 (s12.trans (s3.trans s4))
noncomputable abbrev s_invway : Stmt := (inClass (top 7) 0)
theorem sc_invway : FnScope ["self", "thing"] ["self", "thing"] (defScope s_invway) :=
  ⟨rfl, rfl, rfl, by decide +kernel, rfl, by decide +kernel, by decide +kernel⟩
theorem ok_invway {C f : Addr} {fd : FuncData} (F : FunD K "__init__" "InvalidWay.__init__" (defArgs s_invway) (defBody s_invway) (defScope s_invway) [] [] f fd) (T : Bt mg) (hC : OexC K C) (hf : PySem.W.findIn K (.ref C) "thing" = some none) : FnOk P w K mg base L2.CX0 1 f fd ["self", "thing"] (spErr C "thing") := by
  refine fnD_ok F sc_invway (fun vs H Q E h => ?_) (fun cdv A outer s H vs Q E hr h => ?_)
  · obtain ⟨a, v, rfl, _⟩ := h
    rfl
  · obtain ⟨a, v, rfl, ha, q⟩ := h
    refine ⟨_, (pss_one (ps_ost (pv 0) (pv 1))), ?_⟩
    walk_at "go"
    exact ⟨v, rfl, .ref a, rfl, a, C, rfl, hC, hf, .inl ⟨ha, q⟩⟩
noncomputable abbrev s_reqonex : Stmt := (top 29)
theorem sc_reqonex : FnScope ["thing"] ["thing"] (defScope s_reqonex) :=
  ⟨rfl, rfl, rfl, by decide +kernel, rfl, by decide +kernel, by decide +kernel⟩
theorem ok_reqonex {c : CA} {Ci : Addr} (F : Dn K mg "require_one_way" s_reqonex ["thing"]) (T : Bt mg) (X : Kx K mg c) (c_invway : Err P w K mg base 1 "InvalidWay" Ci "thing") : CalX P w K mg base 3 "require_one_way" (spReqOneX K c Ci) [] := by
  refine F.calX sc_reqonex (fun vs H Q E h => ?_) (fun f cdv A outer s H vs Q E hr h => ?_)
  · obtain ⟨v, t, b, rfl, _⟩ := h
    rfl
  · obtain ⟨v, t, b, rfl, ht, hk, q1, q2⟩ := h
    refine ⟨_, (pss_one (ps_if (pt_not (pt_val (pe_callB call_isi (by rfl) T.isinstance (by decide +kernel) (pa_cons (pv 0) (pa_cons (pe_glob (v := .ref c.wy) (by rfl) X.mgWy rfl) pa_nil))))) (pss_one (ps_rse c_invway rfl hr (by decide) (takes_of rfl rfl rfl rfl) (by rfl) (pa_cons (pv 0) pa_nil))) pss_nil)), ?_⟩
    walk_at "go"
    refine w_isiC ht hk ?_
    walk_at "go"
    cases b with
    | true =>
      refine iteF ?_
      walk_at "go"
      exact q1 rfl
    | false =>
      refine iteT ?_
      walk_at "go"
      exact w_fly (q2 rfl)
noncomputable abbrev s_reqlikex : Stmt := (top 30)
theorem sc_reqlikex : FnScope ["one", "other"] ["one", "other"] (defScope s_reqlikex) :=
  ⟨rfl, rfl, rfl, by decide +kernel, rfl, by decide +kernel, by decide +kernel⟩
theorem ok_reqlikex {c : CA} {Cu : Addr} (F : Dn K mg "require_like" s_reqlikex ["one", "other"]) (T : Bt mg) (X : Kx K mg c) (e_unlike : Err0 K mg "UnlikeMarkings" Cu) : CalX P w K mg base 1 "require_like" (spLikeX c Cu) [] := by
  refine F.calX sc_reqlikex (fun vs H Q E h => ?_) (fun f cdv A outer s H vs Q E hr h => ?_)
  · obtain ⟨x, x', b, b', ps, ps', y, y', rfl, _⟩ := h
    rfl
  · obtain ⟨x, x', b, b', ps, ps', y, y', rfl, hw, hw', q1, q2⟩ := h
    refine ⟨_, (pss_one (ps_if (pt_cmpR op_ne (pe_fld (pe_fld (pv 0) rfl) rfl) (pe_fld (pe_fld (pv 1) rfl) rfl) (nomark _)) (pss_one (ps_rse0 e_unlike rfl (takes_of rfl rfl rfl rfl) (by rfl))) pss_nil)), ?_⟩
    walk_at "go"
    rw [decB]
    refine ite_nd (fun h => ?_) (fun h => ?_)
    · exact q2 h
    · walk_at "go"
      exact q1 h
noncomputable abbrev s_prinit : Stmt := (inClass (top 31) 0)
theorem sc_prinit : FnScope ["self", "one", "other", "letters", "number"] ["self", "one", "other", "letters"] (defScope s_prinit) :=
  ⟨rfl, rfl, rfl, by decide +kernel, rfl, by decide +kernel, by decide +kernel⟩
theorem ok_prinit {c : CA} {Cp : Addr} {f : Addr} {fd : FuncData} (F : FunD K "__init__" "Pairs.__init__" (defArgs s_prinit) (defBody s_prinit) (defScope s_prinit) [] [] f fd) (T : Bt mg) (S : KPr K mg Cp) : FnOk P w K mg base L2.CX0 1 f fd ["self", "one", "other", "letters"] (spPrInit c Cp) := by
  refine fnD_ok F sc_prinit (fun vs H Q E h => ?_) (fun cdv A' outer s H vs Q E hr h => ?_)
  · obtain ⟨o, dx, x1, x2, b1, b2, ps1, ps2, y1, y2, A, rfl, _⟩ := h
    rfl
  · obtain ⟨o, dx, x1, x2, b1, b2, ps1, ps2, y1, y2, A, rfl, ho, hw, n1, n2, A1, A2, q⟩ := h
    refine ⟨_, (pss_cons (ps_fld (pv 0) (pv 1) rfl)
      (pss_cons (ps_fld (pv 0) (pv 2) rfl)
      (pss_one (ps_fld (pv 0) (pe_lc (own := [("number", 4)]) (g := gName 4) (tt := tYes) (te := (tVar 4)) rfl sc_prinit.nd (pi_range2 (by rfl) T.range (pa_cons (pe_op op_sub pe_int (pv 3)) (pa_cons (pv 3) pa_nil))) (blkOk_by (own := [("number", 4)]) (N := ["self", "one", "other", "letters", "number"]) (sc := defScope s_prinit) (by decide +kernel)) (fun _ _ _ _ _ => (pg_name (i := 4) sc_prinit.nd rfl (Or.inl rfl))) (fun _ _ _ _ _ => pts_nil) (fun _ _ _ _ _ => (pv 4))) rfl)))), ?_⟩
    walk_at "go"
    refine w_sfldi ho S.cl.cl S.one (by decide) ?_
    walk_at "go"
    refine w_sfldi L2.upd_same S.cl.cl S.other (by show 1 < 1000; decide) ?_
    have e1 : putF "other" (.ref x2) (putF "one" (.ref x1) []) = ([("one", V.ref x1), ("other", .ref x2)] : List (Str × V)) := by
      rw [put0, putS (by decide +kernel), put0]
    rw [e1]
    generalize hH2 : upd (upd H o (.ins Cp dx (putF "one" (.ref x1) []))) o (.ins Cp dx [("one", V.ref x1), ("other", .ref x2)]) = H2
    have h2 : H2 o = some (.ins Cp dx [("one", V.ref x1), ("other", .ref x2)]) := by rw [← hH2, L2.upd_same]
    have k2 : ∀ a ob, a ≠ o → H a = some ob → H2 a = some ob := fun a ob na e => by rw [← hH2, upd_ne na, upd_ne na]; exact e
    walk_at "go"
    intro D hD
    have eL : (stps A).map V.int = (List.range ((A : Int) - (1 - (A : Int))).toNat).map fun i : Nat => V.int (1 - (A : Int) + i) := by
      unfold stps
      rw [List.map_map, show ((A : Int) - (1 - (A : Int))).toNat = 2 * A - 1 by omega]
      rfl
    have hsl := stps_len A
    refine lc_pure _ ((stps A).map V.int) walk_rangeY hD (fun _ _ => trivial) (by rw [eL]) (by rw [List.length_map, hsl]; omega) (fun _ => rfl) ?_ ?_
    · intro i x z H' hx hz sm Q' q'
      rw [eL, hx] at hz
      cases hz
      walk_at "go"
      exact q' _ (Same.refl _)
    · intro H3 s3 hD3
      walk_at "go"
      have ho3 := s3 _ _ h2
      refine w_sfldi ho3 S.cl.cl S.differences (by show 2 < 1000; decide) ?_
      have e5 : putF "differences" (.ref D) [("one", V.ref x1), ("other", .ref x2)] = prF x1 x2 D := by
        rw [putS (by decide +kernel), putS (by decide +kernel)]
        rfl
      rw [e5]
      walk_at "go"
      have nDo : D ≠ o := fun e => by rw [e, h2] at hD; cases hD
      have kp : ∀ b o', b ≠ o → H b = some o' → upd H3 o (.ins Cp dx (prF x1 x2 D)) b = some o' := fun b o' nb e => by
        rw [upd_ne nb]
        exact s3 _ _ (k2 _ _ nb e)
      refine q _ kp ⟨dx, x1, x2, D, L2.upd_same, ?_, ?_⟩
      · rw [upd_ne nDo]
        exact hD3
      · have hno : ∀ b ob, rm o H b = some ob → upd H3 o (.ins Cp dx (prF x1 x2 D)) b = some ob := fun b ob e => by
          obtain ⟨nb, e⟩ := rm_some' e
          exact kp b ob nb e
        exact (hw.rmI ho).same hno
noncomputable abbrev s_prled : Stmt := (inClass (top 31) 1)
theorem sc_prled : FnScope ["self", "sums", "difference", "first", "second"] ["self", "sums", "difference"] (defScope s_prled) :=
  ⟨rfl, rfl, rfl, by decide +kernel, rfl, by decide +kernel, by decide +kernel⟩
theorem ok_prled {c : CA} {Cp : Addr} {f : Addr} {fd : FuncData} (F : FunD K "led" "Pairs.led" (defArgs s_prled) (defBody s_prled) (defScope s_prled) [] [] f fd) (T : Bt mg) (X : Kx K mg c) (S : KPr K mg Cp) : FnOk P w K mg base L2.CX0 1 f fd ["self", "sums", "difference"] (spPrLed c Cp) := by
  refine fnD_ok F sc_prled (fun vs H Q E h => ?_) (fun cdv A' outer s H vs Q E hr h => ?_)
  · obtain ⟨o, p, b1, b2, d, ps1, ps2, y1, y2, A, x, rfl, _⟩ := h
    rfl
  · obtain ⟨o, p, b1, b2, d, ps1, ps2, y1, y2, A, x, rfl, ⟨dx, x1, x2, l, ho, hl, hw⟩, hp, hx1, hx2, hd, q⟩ := h
    obtain ⟨hw1, hw2, hn1, hn2⟩ := hw
    unfold pT at hp
    obtain ⟨_, _, _, _, _, _, hb1, hb1'⟩ := id hw1
    obtain ⟨_, _, _, _, _, _, hb2, hb2'⟩ := id hw2
    have hm1 : CMx x.1 b1 := cmx20 (by omega) (by omega)
    have hm2 : CMx x.2 b2 := cmx20 (by omega) (by omega)
    refine ⟨_, (pss_cons (ps_asg (pv 1) (pg_tup rfl (pgs_cons (pg_name (i := 3) sc_prled.nd rfl (Or.inl rfl)) (pgs_cons (pg_name (i := 4) sc_prled.nd rfl (Or.inl rfl)) pgs_nil))))
      (pss_cons (ps_set (i := 3) sc_prled.nd rfl (Or.inl rfl) (pe_op op_mod (pe_op op_add (pe_op oMul (pv 3) (pe_fld (pe_fld (pv 0) rfl) rfl)) (pv 2)) (pe_fld (pe_fld (pv 0) rfl) rfl)))
      (pss_one (ps_ret (pe_tup (pa_cons (pv 3) (pa_cons (pe_op op_mod (pe_op op_add (pe_op oMul (pv 4) (pe_fld (pe_fld (pv 0) rfl) rfl)) (pv 2)) (pe_fld (pe_fld (pv 0) rfl) rfl)) pa_nil))))))), ?_⟩
    walk_at "go"
    refine w_fldi ho S.cl.cl S.one pr_one ?_
    walk_at "go"
    refine w_fldi ho S.cl.cl S.one pr_one ?_
    walk_at "go"
    refine w_fldi ho S.cl.cl S.other pr_other ?_
    walk_at "go"
    refine w_fldi ho S.cl.cl S.other pr_other ?_
    walk_at "go"
    refine al fun t H1 n1 s1 h1 => ?_
    exact q H1 t n1 s1 h1
noncomputable abbrev s_prmiss : Stmt := (inClass (top 31) 2)
theorem sc_prmiss : FnScope ["self", "sums"] ["self", "sums"] (defScope s_prmiss) :=
  ⟨rfl, rfl, rfl, by decide +kernel, rfl, by decide +kernel, by decide +kernel⟩
theorem ok_prmiss {c : CA} {Cp : Addr} {f : Addr} {fd : FuncData} (F : FunD K "is_missed" "Pairs.is_missed" (defArgs s_prmiss) (defBody s_prmiss) (defScope s_prmiss) [] [] f fd) (T : Bt mg) (S : KPr K mg Cp) : FnOk P w K mg base L2.CX0 1 f fd ["self", "sums"] (spPrMissed c Cp) := by
  refine fnD_ok F sc_prmiss (fun vs H Q E h => ?_) (fun cdv A' outer s H vs Q E hr h => ?_)
  · obtain ⟨o, p, b1, b2, ps1, ps2, y1, y2, A, x, rfl, _⟩ := h
    rfl
  · obtain ⟨o, p, b1, b2, ps1, ps2, y1, y2, A, x, rfl, hpr, hp, q⟩ := h
    unfold pT at hp
    refine ⟨_, (pss_one (ps_ret (pe_and (pe_cmpR op_eq (pe_ix ix_tup (pv 1) pe_int (fun _ _ => rfl)) pe_int (nomark _)) (pe_one (pe_cmpR op_ne (pe_ix ix_tup (pv 1) pe_int (fun _ _ => rfl)) pe_int (nomark _)))))), ?_⟩
    walk_at "go"
    refine ite_d (fun h0 => ?_) (fun h0 => ?_)
    · have h0 : x.1 = 0 := V.int.inj h0
      walk_at "go"
      refine q _ ?_
      unfold Msd
      by_cases c2 : x.2 = 0
      · rw [decide_eq_true (show V.int x.2 = V.int 0 by rw [c2])]
        exact ⟨fun e => (nomatch e), fun e => absurd c2 e.2⟩
      · rw [decide_eq_false (fun e => c2 (V.int.inj e))]
        exact ⟨fun _ => ⟨h0, c2⟩, fun _ => rfl⟩
    · have h0 : x.1 ≠ 0 := fun e => h0 (by rw [e])
      walk_at "go"
      exact q false ⟨fun e => (nomatch e), fun e => absurd e.1 h0⟩
noncomputable abbrev s_reach : Stmt := (inClass (top 31) 3)
theorem sc_reach : FnScope ["self", "found", "last", "later", "sums", "difference", "there"] ["self"] (defScope s_reach) :=
  ⟨rfl, rfl, rfl, by decide +kernel, rfl, by decide +kernel, by decide +kernel⟩
theorem ok_reach {c : CA} {Cp : Addr} {f : Addr} {fd : FuncData} (F : FunD K "reach" "Pairs.reach" (defArgs s_reach) (defBody s_reach) (defScope s_reach) [] [] f fd) (T : Bt mg) (S : KPr K mg Cp) (c_prled : C8.Met P w K mg base 1 Cp "led" (spPrLed c Cp) []) : FnOk P w K mg base L2.CX0 2 f fd ["self"] (spReach c Cp) := by
  refine fnD_ok F sc_reach (fun vs H Q E h => ?_) (fun cdv A' outer s H vs Q E hr h => ?_)
  · obtain ⟨o, b1, b2, ps1, ps2, y1, y2, A, rfl, _⟩ := h
    rfl
  · obtain ⟨o, b1, b2, ps1, ps2, y1, y2, A, rfl, hpr, A1, A2, hNN, q⟩ := h
    obtain ⟨dx, x1, x2, l, ho, hl, hw⟩ := id hpr
    have hn1 := hw.one.pos
    have hn2 := hw.two.pos
    have hszl : (100000 : Nat) < sizeLine := by decide
    refine ⟨_, (pss_cons (ps_set (i := 1) sc_reach.nd rfl (Or.inl rfl) (pe_disp1 hr.units (pe_tup (pa_cons pe_int (pa_cons pe_int pa_nil))) pe_int))
      (pss_cons (ps_set (i := 2) sc_reach.nd rfl (Or.inl rfl) (pe_lst (pa_cons (pe_tup (pa_cons pe_int (pa_cons pe_int pa_nil))) pa_nil)))
      (pss_cons (ps_while PassesOwn.never (pt_cmpR (op_neE hr.units) (pv 2) (pe_lst pa_nil) (nomark _)) (pss_cons (ps_set (i := 3) sc_reach.nd rfl (Or.inl rfl) (pe_lst pa_nil))
      (pss_cons (ps_for PassesOwn.never rfl (pi_list (pv 2)) (pg_name (i := 4) sc_reach.nd rfl (Or.inl rfl)) (pss_one (ps_for PassesOwn.never rfl (pi_list (pe_fld (pv 0) rfl)) (pg_name (i := 5) sc_reach.nd rfl (Or.inl rfl)) (pss_cons (ps_set (i := 6) sc_reach.nd rfl (Or.inl rfl) (pe_mt c_prled hr (by decide) (pv 0) (pa_cons (pv 4) (pa_cons (pv 5) pa_nil))))
      (pss_one (ps_if (pt_cmp (pc_dnotin (u66q hr) (pv 6) (pv 1))) (pss_cons (ps_asg (pe_op op_add (pe_dget (u66 hr) (pv 1) (pv 4) (fun _ _ => rfl)) pe_int) (pg_sub (pv 1) (pv 6) (set_dict (u66 hr))))
      (pss_one (ps_expr (pe_bm PySem.F.plainAttrs_list PySem.F.slot_list_append PySem.F.type_list_append mt_append (pv 3) (pa_cons (pv 6) pa_nil))))) pss_nil))))))
      (pss_one (ps_set (i := 2) sc_reach.nd rfl (Or.inl rfl) (pv 3))))))
      (pss_one (ps_ret (pv 1)))))), ?_⟩
    walk_at "go"
    intro d0 nd0
    have s0 : Same H (upd H d0 (.dT [])) := Same.new nd0
    have h0 : (upd H d0 (.dT [])) d0 = some (.dT []) := upd_same
    generalize upd H d0 (.dT []) = H0 at s0 h0
    walk_at "go"
    refine al fun t0 H1 n1 s1 h1 => ?_
    walk_at "go"
    refine ⟨t0, pk (0, 0), rfl, s1 _ _ h0, h1, ?_⟩
    have s2 : Same H (upd H1 d0 (.dT [(pk (0, 0), .int 0)])) := same_up nd0 (s0.trans s1)
    have h2 : (upd H1 d0 (.dT [(pk (0, 0), .int 0)])) d0 = some (.dT (kvP [((0, 0), 0)])) := upd_same
    generalize upd H1 d0 (.dT [(pk (0, 0), .int 0)]) = H2 at s2 h2
    walk_at "go"
    refine al fun t3 H3 n3 s3 h3 => ?_
    walk_at "go"
    refine al fun l4 H4 n4 s4 h4 => ?_
    have F0 : ∀ p n, (p, n) ∈ ([((0, 0), 0)] : List PN) ↔ n ≤ 0 ∧ Frst b1 (num ps1) b2 (num ps2) A n p := fun p n => by
      rw [List.mem_singleton]
      constructor
      · intro e
        cases e
        exact ⟨Nat.le_refl _, RL_zero.mpr rfl, fun j hj => absurd hj (by omega)⟩
      · rintro ⟨g1, g2⟩
        have : n = 0 := by omega
        subst this
        rw [RL_zero.mp g2.1]
    have nl4 : l4 ≠ d0 := (ne_of_none' (s3 _ _ h2) n4)
    have nt3 : t3 ≠ d0 := (ne_of_none' h2 n3)
    walk_at "go"
    refine while_m (fun mm σ H' => ∃ (la : Addr) (v3 v4 v5 v6 : Option V) (L : Nat) (ks : List PN) (qs : List (Int × Int)), σ = [some (.ref o), some (.ref d0), some (.ref la), v3, v4, v5, v6] ∧ Same H H' ∧ H' d0 = some (.dT (kvP ks)) ∧ PrL2 (rm d0 H') la qs ∧ (ks.map (·.1)).Nodup ∧ (∀ p n, (p, n) ∈ ks ↔ n ≤ L ∧ Frst b1 (num ps1) b2 (num ps2) A n p) ∧ (∀ q, q ∈ qs ↔ Frst b1 (num ps1) b2 (num ps2) A L q) ∧ mm = 2 * ((num ps1).toNat * (num ps2).toNat - ks.length) + (if qs = [] then 0 else 1)) _
      ⟨l4, none, none, none, none, 0, [((0, 0), 0)], [(0, 0)], rfl, s2.trans (s3.trans s4), s4 _ _ (s3 _ _ h2), ⟨[t3], rm_of nl4 h4, .cons (rm_of nt3 (s4 _ _ h3)) .nil⟩, by simp, F0, fun q => by
        rw [List.mem_singleton]
        have := F0 q 0
        rw [List.mem_singleton] at this
        constructor
        · rintro rfl
          exact (this.mp rfl).2
        · intro h
          have := this.mpr ⟨Nat.le_refl _, h⟩
          exact (Prod.ext_iff.mp this).1, rfl⟩ ?_
    rintro mm σ H5 ⟨la, v3, v4, v5, v6, L, ks, qs, rfl, s5, hd5, ⟨ps, hla, hps⟩, hkn, hks, hqs, rfl⟩
    walk_at "go"
    refine al fun e6 H6 n6 s6 h6 => ?_
    walk_at "go"
    refine w_neE (sq (s6 _ _ (rm_le _ _ hla))) (sq h6) ?_
    have hd6 := s6 _ _ hd5
    cases hps0 : ps with
    | nil =>
      subst hps0
      cases hps
      walk_at "go"
      refine iteF ?_
      walk_at "go"
      refine q H6 d0 ks (s5.trans s6) hd6 ⟨hkn, fun p n => ?_⟩
      rw [hks]
      refine ⟨fun h => h.2, fun h => ⟨?_, h⟩⟩
      refine Classical.byContradiction fun c => ?_
      obtain ⟨z, hz⟩ := h.down L (by omega)
      have := (hqs z).mpr hz
      cases this
    | cons p0 ps0 =>
      refine ⟨true, rfl, iteT ?_⟩
      have hq1 : qs ≠ [] := fun e => by
        rw [e] at hps
        cases hps
        cases hps0
      have hlen := hps.length
      walk_at "go"
      refine al fun lt H7 n7 s7 h7 => ?_
      have S7 : Same H H7 := s5.trans (s6.trans s7)
      have hd7 := s7 _ _ hd6
      have nlt : lt ≠ d0 := (ne_of_none' hd6 n7)
      have SR7 : Same (rm d0 H5) (rm d0 H7) := (s6.trans s7).rm
      have hla7 := SR7 _ _ hla
      have hps7 := paired_imp (fun a b (z : pT (rm d0 H5) b a) => (SR7 _ _ z : pT (rm d0 H7) b a)) hps
      have n7' : rm d0 H6 lt = none := by
        unfold rm
        rw [if_neg nlt]
        exact n7
      walk_at "go"
      refine for_list (K := K) (a := la) (xs := ps.map V.ref) (fun i σ H' => ∃ (v4 v5 v6 : Option V) (ks' : List PN) (qs' : List (Int × Int)), σ = [some (.ref o), some (.ref d0), some (.ref la), some (.ref lt), v4, v5, v6] ∧ Same (rm d0 H6) (rm d0 H') ∧ H' d0 = some (.dT (kvP ks')) ∧ PrL2 (rm d0 H') lt qs' ∧ Rnd b1 (num ps1) b2 (num ps2) A L ks ks' qs' ∧ ∀ i', i' < i → ∀ q, qs[i']? = some q → ∀ d : Int, -(A : Int) < d ∧ d < A → numOf ks' (led2 b1 (num ps1) b2 (num ps2) q d) ≠ none)
        ⟨v4, v5, v6, ks, [], rfl, s7.rm, hd7, ⟨[], rm_of nlt h7, .nil⟩, ⟨hkn, fun p n => by simp, fun p h => (nomatch h), rfl⟩, fun i' h => absurd h (by omega)⟩ (fun i σ H' _ z => by
          obtain ⟨_, _, _, _, _, _, z, _⟩ := z
          exact sq (rm_le _ _ (z _ _ (s6.rm _ _ hla)))) ?_ ?_
      · rintro i x σ H8 hx ⟨v4', v5', v6', ks', qs', rfl, s8, hd8, hlt8, hR, hall⟩
        obtain ⟨p, hp, rfl⟩ := get_map hx
        obtain ⟨q0, hq0, hpq⟩ := paired_get hps hp
        have hF0 := (hqs q0).mp (List.mem_of_getElem? hq0)
        have hrng := RL_rng hn1 hn2 hF0.1
        have SH8 : Same H H8 := (rm_in nd0 (s5.trans s6)).trans (s8.trans rm_le)
        have hl8 := SH8 _ _ hl
        have ho8 := SH8 _ _ ho
        have hsl := stps_len A
        walk_at "go"
        refine w_fldi ho8 S.cl.cl S.differences pr_diff ?_
        walk_at "go"
        refine for_list (K := K) (a := l) (xs := (stps A).map V.int) (fun j σ H' => ∃ (v5 v6 : Option V) (ks' : List PN) (qs' : List (Int × Int)), σ = [some (.ref o), some (.ref d0), some (.ref la), some (.ref lt), some (.ref p), v5, v6] ∧ Same (rm d0 H6) (rm d0 H') ∧ H' d0 = some (.dT (kvP ks')) ∧ PrL2 (rm d0 H') lt qs' ∧ Rnd b1 (num ps1) b2 (num ps2) A L ks ks' qs' ∧ (∀ i', i' < i → ∀ q, qs[i']? = some q → ∀ d : Int, -(A : Int) < d ∧ d < A → numOf ks' (led2 b1 (num ps1) b2 (num ps2) q d) ≠ none) ∧ ∀ d ∈ (stps A).take j, numOf ks' (led2 b1 (num ps1) b2 (num ps2) q0 d) ≠ none)
          ⟨v5', v6', ks', qs', rfl, s8, hd8, hlt8, hR, hall, fun d h => absurd h (by simp)⟩ (fun j σ H' _ z => by
            obtain ⟨_, _, _, _, _, z, _⟩ := z
            exact sq ((rm_in nd0 (s5.trans s6)).trans (z.trans rm_le) _ _ hl)) ?_ ?_
        · rintro j x σ H9 hx ⟨v5'', v6'', ks2, qs2, rfl, s9, hd9, ⟨rs, hlt9, hrs⟩, hR2, hall2, hdone⟩
          obtain ⟨d, hd, rfl⟩ := get_map hx
          have hdb := stps_mem.mp (List.mem_of_getElem? hd)
          have SH9 : Same H H9 := (rm_in nd0 (s5.trans s6)).trans (s9.trans rm_le)
          have ho9 := SH9 _ _ ho
          have hp9 : pT H9 p q0 := rm_le _ _ (s9 _ _ (s6.rm _ _ hpq))
          have tk : (stps A).take (j + 1) = (stps A).take j ++ [d] := by rw [List.take_add_one, hd]; rfl
          walk_at "go"
          refine w_methi ho9 (pr_no (by decide +kernel) (by decide +kernel) (by decide +kernel)) ?_
          walk_at "go"
          refine ⟨o, p, b1, b2, d, ps1, ps2, y1, y2, A, q0, rfl, hpr.same SH9, hp9, hrng.1, hrng.2, by omega, fun H10 t n10 s10 h10 => ?_⟩
          have hd10 := s10 _ _ hd9
          have nt : t ≠ d0 := ne_of_none' hd9 n10
          have S910 : Same (rm d0 H6) (rm d0 H10) := s9.trans s10.rm
          have hlt10 : rm d0 H10 lt = some (.lst (rs.map V.ref)) := s10.rm _ _ hlt9
          have hrs10 := paired_imp (fun a b (z : pT (rm d0 H9) b a) => (s10.rm _ _ z : pT (rm d0 H10) b a)) hrs
          have hp10 : pT H10 p q0 := s10 _ _ hp9
          unfold pT at h10
          walk_at "go"
          refine w_dnotin ?_
          walk_at "go"
          refine ⟨d0, _, rfl, DGet.t (k := pk (led2 b1 (num ps1) b2 (num ps2) q0 d)) hd10 (by rw [pk_val]; exact h10), ?_⟩
          rw [kvP_val]
          cases hnum : numOf ks2 (led2 b1 (num ps1) b2 (num ps2) q0 d) with
          | some n =>
            refine ⟨false, rfl, iteF ?_⟩
            walk_at "go"
            refine ⟨_, _, ks2, qs2, rfl, S910, hd10, ⟨rs, hlt10, hrs10⟩, hR2, hall2, fun d' hd' => ?_⟩
            rw [tk] at hd'
            rcases List.mem_append.mp hd' with g | g
            · exact hdone d' g
            · rw [List.mem_singleton.mp g, hnum]
              exact fun e => by cases e
          | none =>
            refine ⟨true, rfl, iteT ?_⟩
            have hR3 := hR2.add hks hF0 hdb hnum
            have hq0m : numOf ks2 q0 = some L := (numOf_mem hR2.nd).mpr ((hR2.mem q0 L).mpr (.inl ((hks q0 L).mpr ⟨Nat.le_refl _, hF0⟩)))
            have hfew := few_pairs hR3.nd fun p' n' hpn => by
              rcases (hR3.mem p' n').mp hpn with g | g
              · exact RL_rng hn1 hn2 ((hks p' n').mp g).2.1
              · exact RL_rng hn1 hn2 (hR3.new p' g.2).1
            rw [List.length_append, List.length_singleton] at hfew
            have hNN' : (num ps1).toNat * (num ps2).toNat ≤ 10000 := by
              have e : (((num ps1).toNat * (num ps2).toNat : Nat) : Int) = num ps1 * num ps2 := by
                rw [Int.natCast_mul, Int.toNat_of_nonneg (by omega), Int.toNat_of_nonneg (by omega)]
              omega
            have hl2 := hR2.len
            have hrl := hrs.length
            unfold pT at hp10
            walk_at "go"
            refine w_dget ?_
            walk_at "go"
            refine ⟨d0, _, rfl, by have := DGet.t (k := pk q0) hd10 (by rw [pk_val]; exact hp10); rw [kvP_val, hq0m] at this; exact this, ?_⟩
            walk_at "go"
            refine w_setDq ⟨d0, _, rfl, DPut.t (k := pk (led2 b1 (num ps1) b2 (num ps2) q0 d)) hd10 (by rw [pk_val]; exact h10) (by rw [kvP_len]; omega), ?_⟩
            rw [show (L : Int) + 1 = ((L + 1 : Nat) : Int) by omega, kvP_put hnum]
            have h11 : (upd H10 d0 (.dT (kvP (ks2 ++ [(led2 b1 (num ps1) b2 (num ps2) q0 d, L + 1)])))) d0 = some (.dT (kvP (ks2 ++ [(led2 b1 (num ps1) b2 (num ps2) q0 d, L + 1)]))) := upd_same
            have r11 : rm d0 (upd H10 d0 (.dT (kvP (ks2 ++ [(led2 b1 (num ps1) b2 (num ps2) q0 d, L + 1)])))) = rm d0 H10 := rm_updS
            generalize upd H10 d0 (.dT (kvP (ks2 ++ [(led2 b1 (num ps1) b2 (num ps2) q0 d, L + 1)]))) = H11 at h11 r11
            have hlt11 : H11 lt = some (.lst (rs.map V.ref)) := rm_le _ _ (by rw [r11]; exact hlt10)
            walk_at "go"
            refine w_append hlt11 (by rw [List.length_map]; omega) ?_
            walk_at "go"
            have nlt' : d0 ≠ lt := nlt.symm
            have hrm : rm d0 (upd H11 lt (.lst (rs.map V.ref ++ [.ref t]))) = upd (rm d0 H10) lt (.lst (rs.map V.ref ++ [.ref t])) := by
              rw [← r11]
              funext b
              unfold rm
              by_cases c1 : b = d0
              · rw [if_pos c1, upd_ne (by rw [c1]; exact nlt'), if_pos c1]
              · rw [if_neg c1]
                by_cases c2 : b = lt
                · rw [c2, upd_same, upd_same]
                · rw [upd_ne c2, upd_ne c2, if_neg c1]
            have kp : ∀ (b : Addr) (ob : HO), b ≠ lt → rm d0 H10 b = some ob → rm d0 (upd H11 lt (.lst (rs.map V.ref ++ [.ref t]))) b = some ob := fun b ob nb e => by
              rw [hrm, upd_ne nb]
              exact e
            refine ⟨_, _, _, _, rfl, fun b ob e => ?_, by rw [upd_ne nlt']; exact h11, ⟨rs ++ [t], by rw [hrm, upd_same, List.map_append]; rfl, ?_⟩, hR3, fun i' hi' q hq d' hd' e => ?_, fun d' hd' e => ?_⟩
            · exact kp b ob (fun z => by rw [z, n7'] at e; cases e) (S910 _ _ e)
            · refine paired_appQ (paired_imp (fun a b (z : pT (rm d0 H10) b a) => kp b _ (fun w => by unfold pT at z; rw [w, hlt10] at z; cases z) z) hrs10) (.cons (kp t _ (fun w => by rw [w] at n10; rw [rm_le _ _ hlt9] at n10; cases n10) (rm_of nt h10)) .nil)
            · have := hall2 i' hi' q hq d' hd'
              cases hh : numOf ks2 (led2 b1 (num ps1) b2 (num ps2) q d') with
              | none => exact this hh
              | some n => exact numOf_none.mp e n (List.mem_append_left _ ((numOf_mem hR2.nd).mp hh))
            · rw [tk] at hd'
              rcases List.mem_append.mp hd' with g | g
              · have := hdone d' g
                cases hh : numOf ks2 (led2 b1 (num ps1) b2 (num ps2) q0 d') with
                | none => exact this hh
                | some n => exact numOf_none.mp e n (List.mem_append_left _ ((numOf_mem hR2.nd).mp hh))
              · rw [List.mem_singleton.mp g] at e
                exact numOf_none.mp e (L + 1) (List.mem_append_right _ (by simp))
        · rintro σ H9 ⟨v5'', v6'', ks2, qs2, rfl, s9, hd9, hlt9, hR2, hall2, hdone⟩
          walk_at "go"
          refine ⟨_, _, _, ks2, qs2, rfl, s9, hd9, hlt9, hR2, fun i' hi' q hq d hd => ?_⟩
          by_cases c : i' = i
          · subst c
            rw [hq0] at hq
            cases hq
            exact hdone d (by rw [List.length_map, List.take_length]; exact stps_mem.mpr hd)
          · exact hall2 i' (by omega) q hq d hd
      · rintro σ H8 ⟨v4', v5', v6', ks', qs', rfl, s8, hd8, hlt8, hR, hall⟩
        have SH8 : Same H H8 := (rm_in nd0 (s5.trans s6)).trans (s8.trans rm_le)
        obtain ⟨hks2, hqs2⟩ := hR.done hks fun q hq d hd => by
          obtain ⟨i', hi'⟩ := List.getElem?_of_mem ((hqs q).mpr hq)
          refine hall i' ?_ q hi' d hd
          rw [List.length_map, ← hlen]
          exact (List.getElem?_eq_some_iff.mp hi').1
        have hfew := few_pairs hR.nd fun p n hpn => RL_rng hn1 hn2 ((hks2 p n).mp hpn).2.1
        have hl := hR.len
        walk_at "go"
        refine ⟨_, ?_, lt, _, _, _, _, L + 1, ks', qs', rfl, SH8, hd8, hlt8, hR.nd, hks2, hqs2, rfl⟩
        rw [if_neg hq1]
        cases qs' with
        | nil =>
          rw [if_pos rfl, hl]
          simp
        | cons z zs =>
          rw [if_neg (by simp)]
          rw [List.length_cons] at hl
          omega
noncomputable abbrev s_mislen : Stmt := (top 32)
theorem sc_mislen : FnScope ["pairs", "reach", "found", "sums"] ["pairs", "reach"] (defScope s_mislen) :=
  ⟨rfl, rfl, rfl, by decide +kernel, rfl, by decide +kernel, by decide +kernel⟩
theorem ok_mislen {c : CA} {Cp : Addr} (F : Dn K mg "missed_length" s_mislen ["pairs", "reach"]) (T : Bt mg) (S : KPr K mg Cp) (c_prmiss : C8.Met P w K mg base 1 Cp "is_missed" (spPrMissed c Cp) []) : Cal P w K mg base 2 "missed_length" (spMisLen c Cp) [] := by
  refine F.cal sc_mislen (fun vs H Q E h => ?_) (fun f cdv A' outer s H vs Q E hr h => ?_)
  · obtain ⟨o, d, b1, b2, ps1, ps2, y1, y2, A, ks, rfl, _⟩ := h
    rfl
  · obtain ⟨o, d, b1, b2, ps1, ps2, y1, y2, A, ks, rfl, hpr, hd, hR, q1, q2⟩ := h
    refine ⟨_, (pss_cons (ps_set (i := 2) sc_mislen.nd rfl (Or.inl rfl) pe_non)
      (pss_cons (ps_lock (ps_for PassesOwn.never rfl (pi_keys (pv 1)) (pg_name (i := 3) sc_mislen.nd rfl (Or.inl rfl)) (pss_one (ps_if (PW.pt (pw_and (pt_val (pe_mt c_prmiss hr (by decide) (pv 0) (pa_cons (pv 3) pa_nil))) (pw_and1 (PW.pt (pw_or (pt_cmpR op_isN1 (pv 2) pe_non (nomark _)) (pw_or1 (pt_cmpR op_lt (pe_dget (u66 hr) (pv 1) (pv 3) (fun _ _ => rfl)) (pv 2) (nomark _)))))))) (pss_one (ps_set (i := 2) sc_mislen.nd rfl (Or.inl rfl) (pe_dget (u66 hr) (pv 1) (pv 3) (fun _ _ => rfl)))) pss_nil))))
      (pss_one (ps_ret (pv 2))))), ?_⟩
    walk_at "go"
    refine ⟨d, _, hd, trivial, fun od => ?_⟩
    have so := lock_same (H := H) (d := d) (o := .frz od (.dT (kvP ks)))
    have hun := fun H7 (s7 : Same (upd H d (.frz od (.dT (kvP ks)))) H7) => unlock_same hd s7
    have hd1 : (upd H d (.frz od (.dT (kvP ks)))) d = some (.frz od (.dT (kvP ks))) := upd_same
    generalize upd H d (.frz od (.dT (kvP ks))) = H1 at so hun hd1
    have hpr1 := (hpr.rmT hd).same so
    obtain ⟨dx, x1, x2, l, ho1, hl1, hw1⟩ := id hpr1
    unfold iKeys
    walk_at "go"
    refine ⟨d, od, rfl, .inr ⟨_, hd1, ?_⟩⟩
    refine for_it walk_keysT (fun i σ H' => ∃ (fv : V) (v3 : Option V), σ = [some (.ref o), some (.ref d), some fv, v3] ∧ H' = H1 ∧ ((fv = .non ∧ ∀ e ∈ ks.take i, ¬ Msd e.1) ∨ ∃ m : Nat, fv = .int (m : Int) ∧ (∃ e ∈ ks.take i, e.2 = m ∧ Msd e.1) ∧ ∀ e ∈ ks.take i, Msd e.1 → m ≤ e.2))
      ⟨.non, none, rfl, rfl, .inl ⟨rfl, fun e h => absurd h (by simp)⟩⟩ (fun i σ H' _ z => by obtain ⟨_, _, _, rfl, _⟩ := z; exact hd1) ?_ ?_
    · rintro i x σ H2 H3 hi ⟨fv, v3, rfl, rfl, hfv⟩ ⟨rfl, k, v, qa, hkv, rfl, hq⟩
      unfold kvP at hkv
      rw [List.getElem?_map] at hkv
      obtain ⟨e, he, hev⟩ := Option.map_eq_some_iff.mp hkv
      cases hev
      have tk : ks.take (i + 1) = ks.take i ++ [e] := by rw [List.take_add_one, he]; rfl
      have hq : H3 qa = some (.tup [.int e.1.1, .int e.1.2]) := hq
      walk_at "go"
      refine w_methi ho1 (pr_no (by decide +kernel) (by decide +kernel) (by decide +kernel)) ?_
      walk_at "go"
      have hem : (e.1, e.2) ∈ ks := List.mem_of_getElem? he
      have hg : DGet H3 d (.ref qa) (some (.int (e.2 : Int))) := by
        have g : DGet H3 d (.ref qa) (valV (kvP ks) (pk e.1)) := .inr ⟨kvP ks, pk e.1, qa, .inr ⟨od, hd1⟩, rfl, hq, rfl⟩
        rw [kvP_val, (numOf_mem hR.nd).mpr hem] at g
        exact g
      refine ⟨o, qa, b1, b2, ps1, ps2, y1, y2, A, e.1, rfl, hpr1, hq, fun kb hkb => ⟨kb, rfl, ?_⟩⟩
      have mt : ∀ {R : PN → Prop}, (∀ z ∈ ks.take (i + 1), R z) ↔ (∀ z ∈ ks.take i, R z) ∧ R e := fun {R} => by
        rw [tk]
        constructor
        · exact fun h => ⟨fun z hz => h z (List.mem_append_left _ hz), h e (by simp)⟩
        · rintro ⟨h1, h2⟩ z hz
          rcases List.mem_append.mp hz with g | g
          · exact h1 z g
          · rw [List.mem_singleton.mp g]
            exact h2
      cases kb with
      | false =>
        have hne : ¬ Msd e.1 := fun z => by have := hkb.mpr z; cases this
        refine iteF ?_
        walk_at "go"
        refine ⟨fv, _, rfl, rfl, ?_⟩
        rcases hfv with ⟨rfl, h⟩ | ⟨m, rfl, ⟨z, hz, h1⟩, h2⟩
        · exact .inl ⟨rfl, mt.mpr ⟨h, hne⟩⟩
        · exact .inr ⟨m, rfl, ⟨z, by rw [tk]; exact List.mem_append_left _ hz, h1⟩, mt.mpr ⟨h2, fun g => absurd g hne⟩⟩
      | true =>
        have hmd : Msd e.1 := hkb.mp rfl
        refine iteT ?_
        rcases hfv with ⟨rfl, h⟩ | ⟨m, rfl, ⟨z, hz, h1⟩, h2⟩
        · walk_at "go"
          refine iteT ?_
          refine iteT ?_
          walk_at "go"
          refine w_dget ?_
          walk_at "go"
          refine ⟨d, _, rfl, hg, ?_⟩
          walk_at "go"
          exact ⟨_, _, rfl, rfl, .inr ⟨e.2, rfl, ⟨e, by rw [tk]; simp, rfl, hmd⟩, mt.mpr ⟨fun z hz hm => absurd hm (h z hz), fun _ => Nat.le_refl _⟩⟩⟩
        · walk_at "go"
          refine iteF ?_
          walk_at "go"
          refine w_dget ?_
          walk_at "go"
          refine ⟨d, _, rfl, hg, ?_⟩
          walk_at "go"
          refine ite_d (fun hlt => ?_) (fun hge => ?_)
          · walk_at "go"
            refine w_dget ?_
            walk_at "go"
            refine ⟨d, _, rfl, hg, ?_⟩
            walk_at "go"
            exact ⟨_, _, rfl, rfl, .inr ⟨e.2, rfl, ⟨e, by rw [tk]; simp, rfl, hmd⟩, mt.mpr ⟨fun z hz hm => by have := h2 z hz hm; omega, fun _ => Nat.le_refl _⟩⟩⟩
          · walk_at "go"
            exact ⟨_, _, rfl, rfl, .inr ⟨m, rfl, ⟨z, by rw [tk]; exact List.mem_append_left _ hz, h1⟩, mt.mpr ⟨h2, fun _ => by omega⟩⟩⟩
    · rintro σ H2 ⟨fv, v3, rfl, rfl, hfv⟩
      rw [kvP_len, List.take_length] at hfv
      refine ⟨hd1, ?_⟩
      have hS := hun _ (Same.refl _)
      walk_at "go"
      rcases hfv with ⟨rfl, h⟩ | ⟨m, rfl, h1, h2⟩
      · exact q1 (hR.dec.1.mpr h) _ hS
      · exact q2 m (hR.dec.2 m h1 h2) _ hS
noncomputable abbrev s_weighed : Stmt := (top 33)
theorem sc_weighed : FnScope ["way", "length", "found", "weight", "place"] ["way", "length"] (defScope s_weighed) :=
  ⟨rfl, rfl, rfl, by decide +kernel, rfl, by decide +kernel, by decide +kernel⟩
theorem ok_weighed {c : CA} (F : Dn K mg "weighed" s_weighed ["way", "length"]) (T : Bt mg) (X : Kx K mg c) : Cal P w K mg base 1 "weighed" (spWeighed c) [] := by
  refine F.cal sc_weighed (fun vs H Q E h => ?_) (fun f cdv A' outer s H vs Q E hr h => ?_)
  · obtain ⟨x, b, ps, y, n, rfl, _⟩ := h
    rfl
  · obtain ⟨x, b, ps, y, n, rfl, hw, hN2, hn, q⟩ := h
    have hN := hw.pos
    obtain ⟨_, _, _, _, _, _, hb0, hb1⟩ := id hw
    have hszl : (100000 : Nat) < sizeLine := by decide
    refine ⟨_, (pss_cons (ps_set (i := 2) sc_weighed.nd rfl (Or.inl rfl) (pe_lst pa_nil))
      (pss_cons (ps_set (i := 3) sc_weighed.nd rfl (Or.inl rfl) pe_int)
      (pss_cons (ps_for PassesOwn.never rfl (pi_range1 (by rfl) T.range (pa_cons (pv 1) pa_nil)) (pg_name (i := 4) sc_weighed.nd rfl (Or.inl rfl)) (pss_cons (ps_expr (pe_bm PySem.F.plainAttrs_list PySem.F.slot_list_append PySem.F.type_list_append mt_append (pv 2) (pa_cons (pe_op op_mod (pv 3) (pe_fld (pv 0) rfl)) pa_nil)))
      (pss_one (ps_set (i := 3) sc_weighed.nd rfl (Or.inl rfl) (pe_op op_mod (pe_op oMul (pv 3) (pe_fld (pv 0) rfl)) (pe_fld (pv 0) rfl))))))
      (pss_one (ps_ret (pe_ifExp (pt_val (pe_fld (pe_fld (pv 0) rfl) rfl)) (pv 2) (pe_revL (pv 2)))))))), ?_⟩
    walk_at "go"
    refine al fun l0 H1 n1 s1 h1 => ?_
    walk_at "go"
    refine for_range (lo := 0) (n := n) (fun i σ H' => ∃ (v4 : Option V) (wt : Int), σ = [some (.ref x), some (.int (n : Int)), some (.ref l0), some (.int wt), v4] ∧ Same H H' ∧ H' l0 = some (.lst (((List.range i).map fun e : Nat => pwF (num ps) e b).map V.int)) ∧ wt % num ps = b ^ i % num ps ∧ 0 ≤ wt ∧ wt ≤ 2000)
      ⟨none, 1, rfl, s1, h1, by rw [Int.pow_zero], by decide, by decide⟩ ?_ ?_
    · rintro i σ H2 hi ⟨v4, wt, rfl, s2, h2, hwt, w0, w1⟩
      have hw2 := hw.same s2
      have hm : CMx wt b := cmx20 (by omega) (by omega)
      walk_at "go"
      refine w_append h2 (by rw [List.length_map, List.length_map, List.length_range]; omega) ?_
      have hw3 : WayAt c (upd H2 l0 (.lst (((List.range i).map fun e : Nat => pwF (num ps) e b).map V.int ++ [.int (wt % num ps)]))) x b ps y := hw.same (same_up n1 s2)
      walk_at "go"
      refine ⟨_, _, rfl, same_up n1 s2, ?_, ?_, Int.emod_nonneg _ (by omega), by have := Int.emod_lt_of_pos (wt * b) hN; omega⟩
      · rw [upd_same, List.range_succ, List.map_append, List.map_append, hwt]
        rfl
      · rw [Int.emod_emod_of_dvd _ (Int.dvd_refl _), Int.pow_succ, Int.mul_emod, hwt, ← Int.mul_emod]
    · rintro σ H2 ⟨v4, wt, rfl, s2, h2, hwt, w0, w1⟩
      have hw2 := hw.same s2
      walk_at "go"
      cases hy : y.low with
      | true =>
        refine iteT ?_
        walk_at "go"
        refine q H2 l0 n1 s2 ?_
        rw [h2, hy]
        unfold wsL
        rw [if_pos rfl]
        simp only [List.map_map]
        rfl
      | false =>
        refine iteF ?_
        walk_at "go"
        refine ⟨l0, _, rfl, sq h2, al fun l3 H3 n3 s3 h3 => ?_⟩
        refine q H3 l3 (s2.free n3) (s2.trans s3) ?_
        rw [h3, hy, ← List.map_reverse]
        unfold wsL
        rw [if_neg (by decide)]
        simp only [List.map_map, List.map_reverse]
        rfl
noncomputable abbrev s_rsinit : Stmt := (inClass (top 34) 0)
theorem sc_rsinit : FnScope ["self", "one", "other", "sums", "here", "there"] ["self", "one", "other", "sums"] (defScope s_rsinit) :=
  ⟨rfl, rfl, rfl, by decide +kernel, rfl, by decide +kernel, by decide +kernel⟩
theorem ok_rsinit {c : CA} {Cr : Addr} {f : Addr} {fd : FuncData} (F : FunD K "__init__" "Rests.__init__" (defArgs s_rsinit) (defBody s_rsinit) (defScope s_rsinit) [] [] f fd) (T : Bt mg) (S : KRs K mg Cr) : FnOk P w K mg base L2.CX0 1 f fd ["self", "one", "other", "sums"] (spRsInit c Cr) := by
  refine fnD_ok F sc_rsinit (fun vs H Q E h => ?_) (fun cdv A' outer s H vs Q E hr h => ?_)
  · obtain ⟨o, dx, x1, x2, sm, b1, b2, ps1, ps2, y1, y2, ks, rfl, _⟩ := h
    rfl
  · obtain ⟨o, dx, x1, x2, sm, b1, b2, ps1, ps2, y1, y2, ks, rfl, ho, hw, hs, hk, q⟩ := h
    have hszl : (100000 : Nat) < sizeLine := by decide
    unfold DpP at hs
    refine ⟨_, (pss_cons (ps_fld (pv 0) (pv 1) rfl)
      (pss_cons (ps_fld (pv 0) (pv 2) rfl)
      (pss_cons (ps_fld (pv 0) (pv 3) rfl)
      (pss_cons (ps_fld (pv 0) pe_dnewK rfl)
      (pss_cons (ps_fld (pv 0) pe_dnewK rfl)
      (pss_one (ps_lock (ps_for PassesOwn.never rfl (pi_keys (pv 3)) (pg_tup rfl (pgs_cons (pg_name (i := 4) sc_rsinit.nd rfl (Or.inl rfl)) (pgs_cons (pg_name (i := 5) sc_rsinit.nd rfl (Or.inl rfl)) pgs_nil))) (pss_cons (ps_if (pt_cmpR op_le (pv 5) (pe_dget2 (u66 hr) (pe_fld (pv 0) rfl) (pv 4) (pv 5) ⟨rfl, rfl, rfl, rfl⟩) (nomark _)) (pss_one (ps_asg (pv 5) (pg_sub (pe_fld (pv 0) rfl) (pv 4) (set_dict (u66 hr))))) pss_nil)
      (pss_one (ps_if (pt_cmpR op_ge (pv 5) (pe_dget2 (u66 hr) (pe_fld (pv 0) rfl) (pv 4) (pv 5) ⟨rfl, rfl, rfl, rfl⟩) (nomark _)) (pss_one (ps_asg (pv 5) (pg_sub (pe_fld (pv 0) rfl) (pv 4) (set_dict (u66 hr))))) pss_nil))))))))))), ?_⟩
    have nso : sm ≠ o := fun e => by rw [e, ho] at hs; cases hs
    walk_at "go"
    refine w_sfldi ho S.cl.cl S.one (by decide) ?_
    walk_at "go"
    refine w_sfldi L2.upd_same S.cl.cl S.other (by show 1 < 1000; decide) ?_
    walk_at "go"
    refine w_sfldi L2.upd_same S.cl.cl S.sums (by rw [put0, putS (by decide +kernel), put0]; show 2 < 1000; decide) ?_
    have e1 : putF "sums" (.ref sm) (putF "other" (.ref x2) (putF "one" (.ref x1) [])) = ([("one", V.ref x1), ("other", .ref x2), ("sums", .ref sm)] : List (Str × V)) := by
      rw [put0, putS (by decide +kernel), put0, putS (by decide +kernel), putS (by decide +kernel)]
      rfl
    rw [e1]
    generalize hH2 : upd (upd (upd H o (.ins Cr dx (putF "one" (.ref x1) []))) o (.ins Cr dx (putF "other" (.ref x2) (putF "one" (.ref x1) [])))) o (.ins Cr dx [("one", V.ref x1), ("other", .ref x2), ("sums", .ref sm)]) = H2
    have h2 : H2 o = some (.ins Cr dx [("one", V.ref x1), ("other", .ref x2), ("sums", .ref sm)]) := by rw [← hH2, L2.upd_same]
    have k2 : ∀ a ob, a ≠ o → H a = some ob → H2 a = some ob := fun a ob na e => by rw [← hH2, upd_ne na, upd_ne na, upd_ne na]; exact e
    clear hH2
    walk_at "go"
    refine al fun l H3 n3 s3 h3 => ?_
    walk_at "go"
    refine w_sfldi (s3 _ _ h2) S.cl.cl S.least (by show 3 < 1000; decide) ?_
    have e2 : putF "least" (.ref l) [("one", V.ref x1), ("other", .ref x2), ("sums", .ref sm)] = ([("one", V.ref x1), ("other", .ref x2), ("sums", .ref sm), ("least", .ref l)] : List (Str × V)) := by
      rw [putS (by decide +kernel), putS (by decide +kernel), putS (by decide +kernel)]
      rfl
    rw [e2]
    have nlo : l ≠ o := (ne_of_none' h2 n3)
    have h4 : (upd H3 o (.ins Cr dx [("one", V.ref x1), ("other", .ref x2), ("sums", .ref sm), ("least", .ref l)])) o = some (.ins Cr dx [("one", V.ref x1), ("other", .ref x2), ("sums", .ref sm), ("least", .ref l)]) := upd_same
    have k4 : ∀ a ob, a ≠ o → H3 a = some ob → (upd H3 o (.ins Cr dx [("one", V.ref x1), ("other", .ref x2), ("sums", .ref sm), ("least", .ref l)])) a = some ob := fun a ob na e => by rw [upd_ne na]; exact e
    generalize upd H3 o (.ins Cr dx [("one", V.ref x1), ("other", .ref x2), ("sums", .ref sm), ("least", .ref l)]) = H4 at h4 k4
    have hl4 := k4 _ _ nlo h3
    walk_at "go"
    refine al fun g H5 n5 s5 h5 => ?_
    walk_at "go"
    refine w_sfldi (s5 _ _ h4) S.cl.cl S.greatest (by show 4 < 1000; decide) ?_
    have e3 : putF "greatest" (.ref g) [("one", V.ref x1), ("other", .ref x2), ("sums", .ref sm), ("least", .ref l)] = rsF x1 x2 sm l g := by
      rw [putS (by decide +kernel), putS (by decide +kernel), putS (by decide +kernel), putS (by decide +kernel)]
      rfl
    rw [e3]
    have ngo : g ≠ o := (ne_of_none' h4 n5)
    have ngl : g ≠ l := (ne_of_none' hl4 n5)
    have h6 : (upd H5 o (.ins Cr dx (rsF x1 x2 sm l g))) o = some (.ins Cr dx (rsF x1 x2 sm l g)) := upd_same
    have k6 : ∀ a ob, a ≠ o → H5 a = some ob → (upd H5 o (.ins Cr dx (rsF x1 x2 sm l g))) a = some ob := fun a ob na e => by rw [upd_ne na]; exact e
    generalize upd H5 o (.ins Cr dx (rsF x1 x2 sm l g)) = H6 at h6 k6
    have hl6 := k6 _ _ nlo (s5 _ _ hl4)
    have hg6 := k6 _ _ ngo h5
    have kH : ∀ a ob, a ≠ o → H a = some ob → H6 a = some ob := fun a ob na e => k6 _ _ na (s5 _ _ (k4 _ _ na (s3 _ _ (k2 _ _ na e))))
    have hs6 := kH _ _ nso hs
    have nls : l ≠ sm := fun e => by rw [e, k2 _ _ nso hs] at n3; cases n3
    have ngs : g ≠ sm := fun e => by rw [e, k4 _ _ nso (s3 _ _ (k2 _ _ nso hs))] at n5; cases n5
    have fl : ∀ a ob, a ≠ o → H a = some ob → a ≠ l := fun a ob na e z => by rw [z] at e na; rw [k2 _ _ na e] at n3; cases n3
    have fg : ∀ a ob, a ≠ o → H a = some ob → a ≠ g := fun a ob na e z => by rw [z] at e na; rw [k4 _ _ na (s3 _ _ (k2 _ _ na e))] at n5; cases n5
    walk_at "go"
    refine ⟨sm, _, hs6, trivial, fun od => ?_⟩
    have hs7 : (upd H6 sm (.frz od (.dT (ks.map fun p => (pk p, V.bl true))))) sm = some (.frz od (.dT (ks.map fun p => (pk p, V.bl true)))) := upd_same
    have k7 : ∀ a ob, a ≠ sm → H6 a = some ob → (upd H6 sm (.frz od (.dT (ks.map fun p => (pk p, V.bl true))))) a = some ob := fun a ob na e => by rw [upd_ne na]; exact e
    generalize upd H6 sm (.frz od (.dT (ks.map fun p => (pk p, V.bl true)))) = H7 at hs7 k7
    have ho7 := k7 _ _ nso.symm h6
    have hl7 := k7 _ _ nls hl6
    have hg7 := k7 _ _ ngs hg6
    unfold iKeys
    walk_at "go"
    refine ⟨sm, od, rfl, .inr ⟨_, hs7, ?_⟩⟩
    refine for_it walk_keysT (fun i σ H' => ∃ (v4 v5 : Option V) (L G : Int → Option Int), σ = [some (.ref o), some (.ref x1), some (.ref x2), some (.ref sm), v4, v5] ∧ Same (rm l (rm g H7)) H' ∧ RsD H' l L i ∧ RsD H' g G i ∧ LeO leI (ks.take i) L ∧ LeO geI (ks.take i) G)
      ⟨none, none, fun _ => none, fun _ => none, rfl, rm_le.trans rm_le, ⟨[], hl7, Nat.le_refl _, fun _ => rfl⟩, ⟨[], hg7, Nat.le_refl _, fun _ => rfl⟩, LeO.nil _, LeO.nil _⟩ (fun i σ H' _ z => by
        obtain ⟨_, _, _, _, _, z, _⟩ := z
        exact z _ _ (rm_of nls.symm (rm_of ngs.symm hs7))) ?_ ?_
    · rintro i x σ H8 H9 hi ⟨v4, v5, L, G, rfl, s8, hL, hG, oL, oG⟩ ⟨rfl, k, v, qa, hkv, rfl, hq⟩
      rw [List.getElem?_map] at hkv
      obtain ⟨e, he, hev⟩ := Option.map_eq_some_iff.mp hkv
      cases hev
      have hq : H9 qa = some (.tup [.int e.1, .int e.2]) := hq
      have hil : i < ks.length := (List.getElem?_eq_some_iff.mp he).1
      have tk : ks.take (i + 1) = ks.take i ++ [(e.1, e.2)] := by rw [List.take_add_one, he]; rfl
      obtain ⟨kvl, g1, g2, g3⟩ := id hL
      have ho9 := s8 _ _ (rm_of nlo.symm (rm_of ngo.symm ho7))
      walk_at "goI"
      refine w_ifJ (fun σ' H' => ∃ L', σ' = [some (.ref o), some (.ref x1), some (.ref x2), some (.ref sm), some (.int e.1), some (.int e.2)] ∧ Same (rm l (rm g H7)) H' ∧ RsD H' l L' (i + 1) ∧ RsD H' g G i ∧ LeO leI (ks.take (i + 1)) L') ?_ (fun N hN => ?_)
      · rintro σ' H10 ⟨L', rfl, s10, hL', hG10, oL'⟩
        obtain ⟨kvg, f1, f2, f3⟩ := id hG10
        have ho10 := s10 _ _ (rm_of nlo.symm (rm_of ngo.symm ho7))
        walk_at "go"
        refine w_dget2 ?_
        walk_at "go"
        refine w_fldi ho10 S.cl.cl S.greatest rs_great ?_
        refine ⟨g, rfl, .inl ⟨_, .inl f1⟩, ?_⟩
        walk_at "go"
        refine ⟨_, DGet.k (k := .inl e.1) f1, ?_⟩
        rw [f3, getD_int]
        walk_at "go"
        refine ite_d (fun hc => ?_) (fun hc => ?_)
        · walk_at "go"
          refine w_fldi ho10 S.cl.cl S.greatest rs_great ?_
          walk_at "go"
          refine w_setDq ⟨g, _, rfl, DPut.k (k := .inl e.1) f1 (by omega), ?_⟩
          walk_at "go"
          refine ⟨_, _, L', _, rfl, fun b ob z => ?_, hL'.up (by rw [upd_ne ngl.symm]) (Nat.le_refl _), RsD.put f2 f3 e.1 e.2, oL', by rw [tk]; exact oG.ge_put hc⟩
          have nb : b ≠ g := fun y => by rw [y] at z; have := rm_le _ _ z; unfold rm at this; rw [if_pos rfl] at this; cases this
          rw [upd_ne nb]
          exact s10 _ _ z
        · walk_at "go"
          exact ⟨_, _, L', G, rfl, s10, hL', hG10.up rfl (by omega), oL', by rw [tk]; exact oG.ge_keep hc⟩
      · walk_at "go"
        refine w_dget2 ?_
        walk_at "go"
        refine w_fldi ho9 S.cl.cl S.least rs_least ?_
        refine ⟨l, rfl, .inl ⟨_, .inl g1⟩, ?_⟩
        walk_at "go"
        refine ⟨_, DGet.k (k := .inl e.1) g1, ?_⟩
        rw [g3, getD_int]
        walk_at "go"
        refine ite_d (fun hc => ?_) (fun hc => ?_)
        · walk_at "go"
          refine w_fldi ho9 S.cl.cl S.least rs_least ?_
          walk_at "go"
          refine w_setDq ⟨l, _, rfl, DPut.k (k := .inl e.1) g1 (by omega), ?_⟩
          walk_at "go"
          refine hN _ _ ⟨_, rfl, fun b ob z => ?_, RsD.put g2 g3 e.1 e.2, hG.up (by rw [upd_ne ngl]) (Nat.le_refl _), by rw [tk]; exact oL.le_put hc⟩
          have nb : b ≠ l := fun y => by rw [y] at z; unfold rm at z; rw [if_pos rfl] at z; cases z
          rw [upd_ne nb]
          exact s8 _ _ z
        · walk_at "go"
          exact hN _ _ ⟨L, rfl, s8, hL.up rfl (by omega), hG, by rw [tk]; exact oL.le_keep hc⟩
    · rintro σ H8 ⟨v4, v5, L, G, rfl, s8, hL, hG, oL, oG⟩
      rw [List.length_map] at hL hG
      rw [List.length_map, List.take_length] at oL oG
      refine ⟨s8 _ _ (rm_of nls.symm (rm_of ngs.symm hs7)), ?_⟩
      have ho8 := s8 _ _ (rm_of nlo.symm (rm_of ngo.symm ho7))
      have kp : ∀ b o', b ≠ o → H b = some o' → upd H8 sm (.dT (ks.map fun p => (pk p, V.bl true))) b = some o' := fun b o' nb e => by
        by_cases c : b = sm
        · rw [c] at e ⊢
          rw [upd_same, ← hs, ← e]
        · rw [upd_ne c]
          exact s8 _ _ (rm_of (fl _ _ nb e) (rm_of (fg _ _ nb e) (k7 _ _ c (kH _ _ nb e))))
      walk_at "go"
      refine q _ kp ⟨dx, x1, x2, sm, l, g, L, G, ks.length, ?_, ?_, hL.up (by rw [upd_ne nls]) (Nat.le_refl _), hG.up (by rw [upd_ne ngs]) (Nat.le_refl _), oL, oG⟩
      · rw [upd_ne nso.symm]
        exact ho8
      · exact (hw.rmI ho).same fun b ob e => by
          obtain ⟨nb, e⟩ := rm_some' e
          exact kp b ob nb e
noncomputable abbrev s_rsopen : Stmt := (inClass (top 34) 1)
theorem sc_rsopen : FnScope ["self", "sums", "needed"] ["self", "sums"] (defScope s_rsopen) :=
  ⟨rfl, rfl, rfl, by decide +kernel, rfl, by decide +kernel, by decide +kernel⟩
theorem ok_rsopen {c : CA} {Cr : Addr} {f : Addr} {fd : FuncData} (F : FunD K "is_open" "Rests.is_open" (defArgs s_rsopen) (defBody s_rsopen) (defScope s_rsopen) [] [] f fd) (T : Bt mg) (X : Kx K mg c) (S : KRs K mg Cr) : FnOk P w K mg base L2.CX0 1 f fd ["self", "sums"] (spRsOpen c Cr) := by
  refine fnD_ok F sc_rsopen (fun vs H Q E h => ?_) (fun cdv A' outer s H vs Q E hr h => ?_)
  · obtain ⟨o, p, b1, b2, ps1, ps2, y1, y2, ks, x, rfl, _⟩ := h
    rfl
  · obtain ⟨o, p, b1, b2, ps1, ps2, y1, y2, ks, x, rfl, hrs, hp, hrng, q⟩ := h
    obtain ⟨dx, x1, x2, sm, l, g, L, G, n, ho, ⟨hw1, hw2, hn1, hn2⟩, ⟨kvl, g1, g2, g3⟩, ⟨kvg, f1, f2, f3⟩, oL, oG⟩ := hrs
    unfold pT at hp
    have hN1 := hw1.pos
    have hN2 := hw2.pos
    obtain ⟨i1, i2⟩ := opk_iff (x := x) (N1 := num ps1) hN2 hrng oL oG
    refine ⟨_, (pss_cons (ps_set (i := 2) sc_rsopen.nd rfl (Or.inl rfl) (pe_op op_mod (pe_un un_neg (pe_ix ix_tup (pv 1) pe_int (fun _ _ => rfl))) (pe_fld (pe_fld (pv 0) rfl) rfl)))
      (pss_cons (ps_if (pt_cmp (pc_dnotin (u66q hr) (pv 2) (pe_fld (pv 0) rfl))) (pss_one (ps_ret pe_bl)) pss_nil)
      (pss_one (ps_ret (pe_or (pe_cmpR op_ne (pe_dget (u66 hr) (pe_fld (pv 0) rfl) (pv 2) (fun _ _ => rfl)) (pe_dget (u66 hr) (pe_fld (pv 0) rfl) (pv 2) (fun _ _ => rfl)) (nomark _)) (pe_one (pe_cmpR op_ne (pe_op op_mod (pe_op op_add (pe_ix ix_tup (pv 1) pe_int (fun _ _ => rfl)) (pe_dget (u66 hr) (pe_fld (pv 0) rfl) (pv 2) (fun _ _ => rfl))) (pe_fld (pe_fld (pv 0) rfl) rfl)) pe_int (nomark _)))))))), ?_⟩
    walk_at "go"
    refine w_fldi ho S.cl.cl S.one rs_one ?_
    walk_at "go"
    refine w_dnotin ?_
    walk_at "go"
    refine w_fldi ho S.cl.cl S.least rs_least ?_
    refine ⟨l, _, rfl, DGet.k (k := .inl (-x.1 % num ps1)) g1, ?_⟩
    rw [g3]
    cases hL : L (-x.1 % num ps1) with
    | none =>
      refine ⟨true, rfl, iteT ?_⟩
      walk_at "go"
      exact q false ⟨fun e => (nomatch e), fun e => absurd e (i1 hL)⟩
    | some m =>
      refine ⟨false, rfl, iteF ?_⟩
      have hm := oL.hit _ m hL
      cases hG : G (-x.1 % num ps1) with
      | none => exact absurd hm (oG.no _ hG m)
      | some g0 =>
        have i3 := i2 m g0 hL hG
        have rm0 := hrng _ hm
        walk_at "go"
        refine w_dget ?_
        walk_at "go"
        refine w_fldi ho S.cl.cl S.least rs_least ?_
        walk_at "go"
        refine ⟨l, _, rfl, by have := DGet.k (k := .inl (-x.1 % num ps1)) g1; rw [g3, hL] at this; exact this, ?_⟩
        refine w_dget ?_
        walk_at "go"
        refine w_fldi ho S.cl.cl S.greatest rs_great ?_
        walk_at "go"
        refine ⟨g, _, rfl, by have := DGet.k (k := .inl (-x.1 % num ps1)) f1; rw [f3, hG] at this; exact this, ?_⟩
        walk_at "go"
        by_cases hmg : m = g0
        · rw [decide_eq_true (show V.int m = V.int g0 by rw [hmg])]
          refine iteF ?_
          walk_at "go"
          refine w_dget ?_
          walk_at "go"
          refine w_fldi ho S.cl.cl S.least rs_least ?_
          walk_at "go"
          refine ⟨l, _, rfl, by have := DGet.k (k := .inl (-x.1 % num ps1)) g1; rw [g3, hL] at this; exact this, ?_⟩
          walk_at "go"
          refine w_fldi ho S.cl.cl S.other rs_other ?_
          walk_at "go"
          refine q _ ?_
          rw [i3]
          by_cases c2 : (x.2 + m) % num ps2 = 0
          · rw [decide_eq_true (show V.int ((x.2 + m) % num ps2) = V.int 0 by rw [c2])]
            exact ⟨fun e => (nomatch e), fun e => e.elim (fun z => absurd hmg z) fun z => absurd c2 z⟩
          · rw [decide_eq_false (fun e => c2 (V.int.inj e))]
            exact ⟨fun _ => .inr c2, fun _ => rfl⟩
        · rw [decide_eq_false (fun e => hmg (V.int.inj e))]
          refine iteT ?_
          walk_at "go"
          exact q true ⟨fun _ => i3.mpr (.inl hmg), fun _ => rfl⟩
noncomputable abbrev s_restsof : Stmt := (top 35)
theorem sc_restsof : FnScope ["one", "other", "choices", "first", "second", "sums", "found", "place", "later", "here", "there", "step", "near"] ["one", "other", "choices"] (defScope s_restsof) :=
  ⟨rfl, rfl, rfl, by decide +kernel, rfl, by decide +kernel, by decide +kernel⟩
theorem ok_restsof {c : CA} {Cr : Addr} (F : Dn K mg "rests_of" s_restsof ["one", "other", "choices"]) (T : Bt mg) (zreversed : mg "reversed" = none) (X : Kx K mg c) (c_weighed : Cal P w K mg base 1 "weighed" (spWeighed c) []) (c_rs : C8.Mak P w K mg base 1 "Rests" Cr (spRsInit c Cr) []) : Cal P w K mg base 3 "rests_of" (spRestsOf c Cr) [] := by
  refine F.cal sc_restsof (fun vs H Q E h => ?_) (fun f cdv A' outer s H vs Q E hr h => ?_)
  · obtain ⟨x1, x2, l, b1, b2, ps1, ps2, y1, y2, U, rfl, _⟩ := h
    rfl
  · obtain ⟨x1, x2, l, b1, b2, ps1, ps2, y1, y2, U, rfl, hw, hNN, hU, hUl, hUs, q⟩ := h
    obtain ⟨rs, hl, hrs⟩ := id hU
    have hrl := hrs.length
    have hN1 := hw.one.pos
    have hN2 := hw.two.pos
    have hszl : (100000 : Nat) < sizeLine := by decide
    refine ⟨_, (pss_cons (ps_par (i := 3) (j := 4) (by rfl) sc_restsof.nd rfl rfl (by decide) rfl rfl (pa_cons (pe_c c_weighed hr (by decide) (by rfl) (pa_cons (pv 0) (pa_cons (pe_callB cLen (by rfl) T.len (by decide +kernel) (pa_cons (pv 2) pa_nil)) pa_nil))) (pa_cons (pe_c c_weighed hr (by decide) (by rfl) (pa_cons (pv 1) (pa_cons (pe_callB cLen (by rfl) T.len (by decide +kernel) (pa_cons (pv 2) pa_nil)) pa_nil))) pa_nil)) (by rfl))
      (pss_cons (ps_set (i := 5) sc_restsof.nd rfl (Or.inl rfl) (pe_disp1 hr.units (pe_tup (pa_cons pe_int (pa_cons pe_int pa_nil))) pe_bl))
      (pss_cons (ps_set (i := 6) sc_restsof.nd rfl (Or.inl rfl) (pe_lst (pa_cons (pe_mk c_rs hr (by decide) (by rfl) (pa_cons (pv 0) (pa_cons (pv 1) (pa_cons (pv 5) pa_nil)))) pa_nil)))
      (pss_cons (ps_for PassesOwn.never rfl (pi_revR (by rfl) zreversed (prg_1 (by rfl) T.range (pe_callB cLen (by rfl) T.len (by decide +kernel) (pa_cons (pv 2) pa_nil)))) (pg_name (i := 7) sc_restsof.nd rfl (Or.inl rfl)) (pss_cons (ps_set (i := 8) sc_restsof.nd rfl (Or.inl rfl) pe_dnewT)
      (pss_cons (ps_lock (ps_for PassesOwn.never rfl (pi_keys (pv 5)) (pg_tup rfl (pgs_cons (pg_name (i := 9) sc_restsof.nd rfl (Or.inl rfl)) (pgs_cons (pg_name (i := 10) sc_restsof.nd rfl (Or.inl rfl)) pgs_nil))) (pss_one (ps_for PassesOwn.never rfl (pi_list (pe_ix ix_list (pv 2) (pv 7) (fun _ _ => rfl))) (pg_name (i := 11) sc_restsof.nd rfl (Or.inl rfl)) (pss_cons (ps_set (i := 12) sc_restsof.nd rfl (Or.inl rfl) (pe_op op_mod (pe_op op_add (pv 9) (pe_op oMul (pv 11) (pe_ix ix_list (pv 3) (pv 7) (fun _ _ => rfl)))) (pe_fld (pv 0) rfl)))
      (pss_one (ps_asg pe_bl (pg_sub (pv 8) (pe_tup (pa_cons (pv 12) (pa_cons (pe_op op_mod (pe_op op_add (pv 10) (pe_op oMul (pv 11) (pe_ix ix_list (pv 4) (pv 7) (fun _ _ => rfl)))) (pe_fld (pv 1) rfl)) pa_nil))) (set_dict (u66q hr))))))))))
      (pss_cons (ps_set (i := 5) sc_restsof.nd rfl (Or.inl rfl) (pv 8))
      (pss_one (ps_expr (pe_bm PySem.F.plainAttrs_list PySem.F.slot_list_append PySem.F.type_list_append mt_append (pv 6) (pa_cons (pe_mk c_rs hr (by decide) (by rfl) (pa_cons (pv 0) (pa_cons (pv 1) (pa_cons (pv 5) pa_nil)))) pa_nil))))))))
      (pss_one (ps_ret (pe_revL (pv 6)))))))), ?_⟩
    walk_at "go"
    rw [List.length_map]
    refine ⟨x1, b1, ps1, y1, rs.length, rfl, hw.one, hw.n1, by omega, fun H1 f n1 s1 h1 => ?_⟩
    walk_at "go"
    rw [List.length_map]
    refine ⟨x2, b2, ps2, y2, rs.length, rfl, (hw.same s1).two, hw.n2, by omega, fun H2 g n2 s2 h2 => ?_⟩
    rw [← hrl] at h1 h2
    have hw2 := hw.same (s1.trans s2)
    have h1' := s2 _ _ h1
    clear h1
    generalize hW1 : wsL (num ps1) y1.low U.length = W1 at h1' q
    generalize hW2 : wsL (num ps2) y2.low U.length = W2 at h2 q
    have hW1l : W1.length = U.length := by rw [← hW1, wsL_len]
    have hW2l : W2.length = U.length := by rw [← hW2, wsL_len]
    walk_at "go"
    intro d0 nd0
    have s0 : Same H2 (upd H2 d0 (.dT [])) := Same.new nd0
    have h0 : (upd H2 d0 (.dT [])) d0 = some (.dT []) := upd_same
    generalize upd H2 d0 (.dT []) = H3 at s0 h0
    walk_at "go"
    refine al fun t0 H4 n4 s4 h4 => ?_
    walk_at "go"
    refine ⟨t0, pk (0, 0), rfl, s4 _ _ h0, h4, ?_⟩
    have s5 : Same H2 (upd H4 d0 (.dT [(pk (0, 0), .bl true)])) := same_up nd0 (s0.trans s4)
    have h5 : DpP (upd H4 d0 (.dT [(pk (0, 0), .bl true)])) d0 [(0, 0)] := upd_same
    generalize upd H4 d0 (.dT [(pk (0, 0), .bl true)]) = H5 at s5 h5
    walk_at "go"
    have hw5 := hw2.same s5
    refine use_rs (ks := [(0, 0)]) hw5 h5 (by simp) fun o6 H6 n6 s6 h6 => ?_
    have h5' : DpP H6 d0 [(0, 0)] := s6 _ _ h5
    walk_at "go"
    refine al fun F0 H7 n7 s7 h7 => ?_
    have S27 : Same H2 H7 := s5.trans (s6.trans s7)
    have nF : H2 F0 = none := (s5.trans s6).free n7
    have nFH : H F0 = none := (s1.trans s2).free nF
    have SH7 : Same H (rm F0 H7) := rm_in nFH (s1.trans (s2.trans S27))
    have S27' : Same H2 (rm F0 H7) := rm_in nF S27
    have n6F : o6 ≠ F0 := fun e => by
      obtain ⟨dx, _, _, _, _, _, _, _, _, z, _⟩ := h6
      rw [e, n7] at z
      cases z
    have hsta : ∀ p, p ∈ [((0 : Int), (0 : Int))] ↔ Sta b1 (num ps1) b2 (num ps2) [] [] [] p := fun p => by rw [List.mem_singleton, Sta_nil]
    have hR0 : RsFor c Cr (rm F0 H7) o6 b1 b2 ps1 ps2 y1 y2 [] [] [] := ⟨[(0, 0)], h6.same (rm_in n7 s7), hsta⟩
    have hd0 : DpP (rm F0 H7) d0 [(0, 0)] := rm_in n7 s7 _ _ h5'
    have hf7 := S27' _ _ h1'
    have hg7 := S27' _ _ h2
    walk_at "go"
    refine w_iRev ?_
    walk_at "go"
    rw [List.length_map, ← hrl]
    refine ⟨by omega, by omega, by omega, by omega, ?_⟩
    rw [show ((U.length : Int) - 0).toNat = U.length by omega, show (0 : Int) + (U.length : Int) - 1 = (U.length : Int) - 1 by omega]
    refine for_it walk_rangeC (fun i σ H' => ∃ (v7 v8 v9 v10 v11 v12 : Option V) (d : Addr) (os : List Addr) (ks : List (Int × Int)), σ = [some (.ref x1), some (.ref x2), some (.ref l), some (.ref f), some (.ref g), some (.ref d), some (.ref F0), v7, v8, v9, v10, v11, v12] ∧ Same (rm F0 H7) (rm F0 H') ∧ H' F0 = some (.lst (os.map V.ref)) ∧ os.length = i + 1 ∧ DpP (rm F0 H') d ks ∧ ks.Nodup ∧ (∀ p, p ∈ ks ↔ Sta b1 (num ps1) b2 (num ps2) (W1.drop (U.length - i)) (W2.drop (U.length - i)) (U.drop (U.length - i)) p) ∧ ∀ (j : Nat) (o : Addr), os[j]? = some o → RsFor c Cr (rm F0 H') o b1 b2 ps1 ps2 y1 y2 (W1.drop (U.length - j)) (W2.drop (U.length - j)) (U.drop (U.length - j)))
      ⟨none, none, none, none, none, none, d0, [o6], [(0, 0)], rfl, Same.refl _, h7, rfl, hd0, by simp, fun p => by
        rw [Nat.sub_zero, List.drop_of_length_le (by omega), List.drop_of_length_le (by omega), List.drop_length]
        exact hsta p, fun j o ho => by
        cases j with
        | zero =>
          cases ho
          rw [Nat.sub_zero, List.drop_of_length_le (by omega), List.drop_of_length_le (by omega), List.drop_length]
          exact hR0
        | succ j => simp at ho⟩ (fun i σ H' _ h => trivial) ?_ ?_
    · rintro i x σ H8 H9 hi ⟨v7, v8, v9, v10, v11, v12, d, os, ks, rfl, s8, hF8, hol, hd8, hkn, hks, hos⟩ ⟨rfl, rfl⟩
      have ep : ((U.length : Nat) : Int) - 1 + ((i : Nat) : Int) * -1 = ((U.length - 1 - i : Nat) : Int) := by omega
      show gName 7 (V.int (((U.length : Nat) : Int) - 1 + ((i : Nat) : Int) * -1)) _ _ _
      rw [ep]
      obtain ⟨fw, hfw⟩ : ∃ t, W1[U.length - 1 - i]? = some t := ⟨_, List.getElem?_eq_getElem (by omega)⟩
      obtain ⟨gw, hgw⟩ : ∃ t, W2[U.length - 1 - i]? = some t := ⟨_, List.getElem?_eq_getElem (by omega)⟩
      obtain ⟨ra, hra⟩ : ∃ t, rs[U.length - 1 - i]? = some t := ⟨_, List.getElem?_eq_getElem (by omega)⟩
      obtain ⟨u, hu, hur⟩ := paired_get hrs hra
      have edw := drop_sub hW1l hi hfw
      have edg := drop_sub hW2l hi hgw
      have edu := drop_sub (n := U.length) rfl hi hu
      have SH9 : Same H (rm F0 H9) := SH7.trans s8
      have S29 : Same H2 (rm F0 H9) := S27'.trans s8
      have hf9 := S29 _ _ h1'
      have hg9 := S29 _ _ h2
      have hl9 := SH9 _ _ hl
      have hr9 := SH9 _ _ hur
      have hus := hUs u (List.mem_of_getElem? hu)
      obtain ⟨ndF, hd9⟩ := rm_some' hd8
      walk_at "go"
      refine w_dnewT fun D nD => ?_
      have sD : Same H9 (upd H9 D (.dT [])) := Same.new nD
      have hD : (upd H9 D (.dT [])) D = some (.dT []) := upd_same
      generalize upd H9 D (.dT []) = HA at sD hD
      have nDF : D ≠ F0 := ne_of_none' hF8 nD
      have nDd : D ≠ d := ne_of_none' hd9 nD
      have hdA := sD _ _ hd9
      have hFA := sD _ _ hF8
      have sAr : Same (rm F0 H9) (rm F0 HA) := sD.rm
      walk_at "go"
      refine ⟨d, _, hdA, trivial, fun od => ?_⟩
      have so := lock_same (H := HA) (d := d) (o := .frz od (.dT (ks.map fun p => (pk p, V.bl true))))
      have hun := fun HZ (sZ : Same (upd HA d (.frz od (.dT (ks.map fun p => (pk p, V.bl true))))) HZ) => unlock_same hdA sZ
      have hdB : (upd HA d (.frz od (.dT (ks.map fun p => (pk p, V.bl true))))) d = some (.frz od (.dT (ks.map fun p => (pk p, V.bl true)))) := upd_same
      have kB : ∀ b ob, b ≠ d → HA b = some ob → (upd HA d (.frz od (.dT (ks.map fun p => (pk p, V.bl true))))) b = some ob := fun b ob nb e => by rw [upd_ne nb]; exact e
      generalize upd HA d (.frz od (.dT (ks.map fun p => (pk p, V.bl true)))) = HB at so hun hdB kB
      have hDB : HB D = some (.dT []) := kB _ _ nDd hD
      have hwb := (((hw.same (SH9.trans (rm_le.trans sD))).rmT hdA).same so).rmT hDB
      have toB : ∀ {b : Addr} {xs : List V}, rm F0 H9 b = some (.lst xs) → rm D HB b = some (.lst xs) := fun z => rm_lst hDB (fun _ e => by cases e) (so _ _ (rm_lst hdA (fun _ e => by cases e) (sD _ _ (rm_le _ _ z))))
      have hfb := toB hf9
      have hgb := toB hg9
      have hlb := toB hl9
      have hrb := toB hr9
      have hdb := rm_of nDd.symm hdB
      unfold iKeys
      walk_at "go"
      refine ⟨d, od, rfl, .inr ⟨_, hdB, ?_⟩⟩
      refine for_it walk_keysT (fun j σ H' => ∃ (v9 v10 v11 v12 : Option V) (ks' : List (Int × Int)), σ = [some (.ref x1), some (.ref x2), some (.ref l), some (.ref f), some (.ref g), some (.ref d), some (.ref F0), some (.int ((U.length - 1 - i : Nat) : Int)), some (.ref D), v9, v10, v11, v12] ∧ Same (rm D HB) H' ∧ DpP H' D ks' ∧ ks'.Nodup ∧ ∀ p, p ∈ ks' ↔ ∃ x ∈ ks.take j, ∃ s ∈ u, p = mov2 b1 (num ps1) b2 (num ps2) fw gw x s)
        ⟨v9, v10, v11, v12, [], rfl, rm_le, hDB, List.nodup_nil, fun p => by simp⟩ (fun j σ H' _ z => by
          obtain ⟨_, _, _, _, _, _, z, _⟩ := z
          exact z _ _ hdb) ?_ ?_
      · rintro j x σ HC HE hj ⟨v9', v10', v11', v12', ks', rfl, sC, hDC, hn', hm'⟩ ⟨rfl, k, v, qa, hkv, rfl, hq⟩
        rw [List.getElem?_map] at hkv
        obtain ⟨e, he, hev⟩ := Option.map_eq_some_iff.mp hkv
        cases hev
        have hq : HE qa = some (.tup [.int e.1, .int e.2]) := hq
        have her := Sta_rng hN1 hN2 ((hks e).mp (List.mem_of_getElem? he))
        have tk : ∀ {R : Int × Int → Prop}, (∃ x ∈ ks.take (j + 1), R x) ↔ (∃ x ∈ ks.take j, R x) ∨ R e := fun {R} => by
          rw [List.take_add_one, he]
          constructor
          · rintro ⟨x, hx, h⟩
            rcases List.mem_append.mp hx with z | z
            · exact .inl ⟨x, z, h⟩
            · rw [Option.toList_some, List.mem_singleton] at z
              rw [← z]
              exact .inr h
          · rintro (⟨x, hx, h⟩ | h)
            · exact ⟨x, List.mem_append_left _ hx, h⟩
            · exact ⟨e, by simp, h⟩
        walk_at "go"
        refine w_ixL (sq (sC _ _ hlb)) (at_idx (n := U.length - 1 - i) (by rw [List.getElem?_map, hra]; rfl) rfl) ?_
        walk_at "go"
        refine for_list (K := K) (a := ra) (xs := u.map V.int) (fun jj σ H' => ∃ (v11 v12 : Option V) (ks2 : List (Int × Int)), σ = [some (.ref x1), some (.ref x2), some (.ref l), some (.ref f), some (.ref g), some (.ref d), some (.ref F0), some (.int ((U.length - 1 - i : Nat) : Int)), some (.ref D), some (.int e.1), some (.int e.2), v11, v12] ∧ Same (rm D HB) H' ∧ DpP H' D ks2 ∧ ks2.Nodup ∧ ∀ p, p ∈ ks2 ↔ (∃ x ∈ ks.take j, ∃ s ∈ u, p = mov2 b1 (num ps1) b2 (num ps2) fw gw x s) ∨ ∃ s ∈ u.take jj, p = mov2 b1 (num ps1) b2 (num ps2) fw gw e s)
          ⟨v11', v12', ks', rfl, sC, hDC, hn', fun p => by rw [hm']; simp⟩ (fun jj σ H' _ z => by
            obtain ⟨_, _, _, _, z, _⟩ := z
            exact sq (z _ _ hrb)) ?_ ?_
        · rintro jj x σ HG hx ⟨v11'', v12'', ks2, rfl, sG, hDG, hn2, hm2⟩
          obtain ⟨s0', hs0, rfl⟩ := get_map hx
          have hsb := hus s0' (List.mem_of_getElem? hs0)
          have tk2 : ∀ {R : Int → Prop}, (∃ s ∈ u.take (jj + 1), R s) ↔ (∃ s ∈ u.take jj, R s) ∨ R s0' := fun {R} => by
            rw [List.take_add_one, hs0]
            constructor
            · rintro ⟨x, hx, h⟩
              rcases List.mem_append.mp hx with z | z
              · exact .inl ⟨x, z, h⟩
              · rw [Option.toList_some, List.mem_singleton] at z
                rw [← z]
                exact .inr h
            · rintro (⟨x, hx, h⟩ | h)
              · exact ⟨x, List.mem_append_left _ hx, h⟩
              · exact ⟨s0', by simp, h⟩
          have bf := wsL_bd (b := b1) hN1 (by rw [hW1]; exact List.mem_of_getElem? hfw)
          have bg := wsL_bd (b := b2) hN2 (by rw [hW2]; exact List.mem_of_getElem? hgw)
          obtain ⟨hn1', hn2'⟩ : num ps1 ≤ 2000 ∧ num ps2 ≤ 2000 := ⟨hw.n1, hw.n2⟩
          have hm1 : CMx s0' (fw b1) := cmx20 (by omega) (by omega)
          have hm3 : CMx s0' (gw b2) := cmx20 (by omega) (by omega)
          have hwG := hwb.same sG
          obtain ⟨hwG1, hwG2, _, _⟩ := id hwG
          walk_at "go"
          refine w_ixL (v := .int (fw b1)) (sq (sG _ _ hfb)) (at_idx (n := U.length - 1 - i) (by rw [List.getElem?_map, List.getElem?_map, hfw]; rfl) rfl) ?_
          walk_at "go"
          refine w_ixL (v := .int (gw b2)) (sq (sG _ _ hgb)) (at_idx (n := U.length - 1 - i) (by rw [List.getElem?_map, List.getElem?_map, hgw]; rfl) rfl) ?_
          walk_at "go"
          refine al fun tt HI nI sI hI => ?_
          walk_at "go"
          have hDI : HI D = some (.dT (ks2.map fun p => (pk p, V.bl true))) := sI _ _ hDG
          obtain ⟨ks3, p1, p2, p3⟩ := dp_put (k := mov2 b1 (num ps1) b2 (num ps2) fw gw e s0') hn2
          have hin : ∀ p ∈ ks2, (0 ≤ p.1 ∧ p.1 < num ps1) ∧ 0 ≤ p.2 ∧ p.2 < num ps2 := fun p hp => by
            rcases (hm2 p).mp hp with ⟨x, _, s, _, rfl⟩ | ⟨s, _, rfl⟩ <;> exact mov2_rng hN1 hN2
          have hk2 := few_dp hN1 hN2 hNN hn2 hin
          refine w_setDq ⟨D, _, rfl, DPut.t (k := pk (mov2 b1 (num ps1) b2 (num ps2) fw gw e s0')) hDI (by rw [pk_val]; exact hI) (by rw [List.length_map]; omega), ?_⟩
          rw [p1]
          walk_at "go"
          refine ⟨_, _, ks3, rfl, fun b ob z => ?_, upd_same, p2, fun p => ?_⟩
          · obtain ⟨nb, _⟩ := rm_some' z
            rw [upd_ne nb]
            exact sI _ _ (sG _ _ z)
          · rw [p3, hm2, tk2, or_assoc]
        · rintro σ HG ⟨v11'', v12'', ks2, rfl, sG, hDG, hn2, hm2⟩
          rw [List.length_map, List.take_length] at hm2
          walk_at "go"
          exact ⟨_, _, _, _, ks2, rfl, sG, hDG, hn2, fun p => by rw [hm2, tk]⟩
      · rintro σ HC ⟨v9', v10', v11', v12', ks', rfl, sC, hDC, hn', hm'⟩
        rw [List.length_map, List.take_length] at hm'
        refine ⟨sC _ _ hdb, ?_⟩
        have kZ : ∀ b ob, H9 b = some ob → upd HC d (.dT (ks.map fun p => (pk p, V.bl true))) b = some ob := fun b ob z => by
          by_cases c1 : b = d
          · rw [c1] at z ⊢
            rw [upd_same, ← hd9, z]
          · rw [upd_ne c1]
            exact sC _ _ (rm_of (fun c2 => by rw [c2, nD] at z; cases z) (kB _ _ c1 (sD _ _ z)))
        have hDZ : DpP (upd HC d (.dT (ks.map fun p => (pk p, V.bl true)))) D ks' := by
          show upd HC d _ D = _
          rw [upd_ne nDd]
          exact hDC
        generalize upd HC d (.dT (ks.map fun p => (pk p, V.bl true))) = HZ at kZ hDZ
        have hin : ∀ p ∈ ks', (0 ≤ p.1 ∧ p.1 < num ps1) ∧ 0 ≤ p.2 ∧ p.2 < num ps2 := fun p hp => by
          obtain ⟨x, _, s, _, rfl⟩ := (hm' p).mp hp
          exact mov2_rng hN1 hN2
        have hk' := few_dp hN1 hN2 hNN hn' hin
        have SHZ : Same H HZ := SH9.trans fun b ob z => kZ b ob (rm_le _ _ z)
        have hFZ := kZ _ _ hF8
        walk_at "go"
        refine use_rs (hw.same SHZ) hDZ hk' fun oN HY nY sY hY => ?_
        have hFY : HY F0 = some (.lst (os.map V.ref)) := sY _ _ (kZ _ _ hF8)
        walk_at "go"
        refine w_append hFY (by rw [List.length_map]; omega) ?_
        walk_at "go"
        have hFr : rm F0 (upd HY F0 (.lst (os.map V.ref ++ [.ref oN]))) = rm F0 HY := rm_updS
        have S9Y : Same (rm F0 H9) (rm F0 HY) := (show Same H9 HY from fun b ob z => sY _ _ (kZ b ob z)).rm
        have hSt : ∀ p, p ∈ ks' ↔ Sta b1 (num ps1) b2 (num ps2) (W1.drop (U.length - (i + 1))) (W2.drop (U.length - (i + 1))) (U.drop (U.length - (i + 1))) p := fun p => by
          rw [edw, edg, edu, Sta_cons, hm']
          constructor
          · rintro ⟨x, hx, h⟩
            exact ⟨x, (hks x).mp hx, h⟩
          · rintro ⟨x, hx, h⟩
            exact ⟨x, (hks x).mpr hx, h⟩
        refine ⟨_, _, _, _, _, _, D, os ++ [oN], ks', rfl, ?_, ?_, ?_, ?_, hn', hSt, fun j o ho => ?_⟩
        · rw [hFr]
          exact s8.trans S9Y
        · rw [upd_same, List.map_append]
          rfl
        · rw [List.length_append, hol]
          rfl
        · rw [hFr]
          exact rm_of nDF (sY _ _ hDZ)
        · rw [hFr]
          by_cases c : j < os.length
          · rw [List.getElem?_append_left c] at ho
            exact (hos j o ho).same S9Y
          · rw [List.getElem?_append_right (by omega)] at ho
            have : j = i + 1 := by
              have := (List.getElem?_eq_some_iff.mp ho).1
              rw [List.length_singleton] at this
              omega
            subst this
            rw [hol, Nat.sub_self] at ho
            cases ho
            exact ⟨ks', hY.rmL hFY, hSt⟩
    · rintro σ H8 ⟨v7, v8, v9, v10, v11, v12, d, os, ks, rfl, s8, hF8, hol, hd8, hkn, hks, hos⟩
      walk_at "go"
      refine ⟨F0, _, rfl, sq hF8, al fun l3 H9 n9 s9 h9 => ?_⟩
      have SHF : Same H H8 := SH7.trans (s8.trans rm_le)
      refine q H9 l3 os.reverse (SHF.free n9) (SHF.trans s9) (by rw [h9, List.map_reverse]) (by rw [List.length_reverse, hol]) fun i o ho => ?_
      have hi : i < os.length := by
        have := (List.getElem?_eq_some_iff.mp ho).1
        rwa [List.length_reverse] at this
      rw [List.getElem?_reverse hi] at ho
      have := (hos _ o ho).same (rm_le.trans s9)
      rw [show U.length - (os.length - 1 - i) = i by omega] at this
      exact this
noncomputable abbrev s_firstl : Stmt := (top 36)
theorem sc_firstl : FnScope ["one", "other", "choices", "letters", "first", "second", "rests", "some", "step", "row", "found", "states", "place", "letter", "later", "here", "there", "sums"] ["one", "other", "choices", "letters"] (defScope s_firstl) :=
  ⟨rfl, rfl, rfl, by decide +kernel, rfl, by decide +kernel, by decide +kernel⟩
theorem ok_firstl {c : CA} {Cr : Addr} (F : Dn K mg "first_letters" s_firstl ["one", "other", "choices", "letters"]) (T : Bt mg) (zsorted : mg "sorted" = none) (zset : mg "set" = none) (X : Kx K mg c) (S : KRs K mg Cr) (c_weighed : Cal P w K mg base 1 "weighed" (spWeighed c) []) (c_restsof : Cal P w K mg base 3 "rests_of" (spRestsOf c Cr) []) (c_rsopen : C8.Met P w K mg base 1 Cr "is_open" (spRsOpen c Cr) []) : Cal P w K mg base 4 "first_letters" (spFirstL c) [] := by
  refine F.cal sc_firstl (fun vs H Q E h => ?_) (fun f cdv A' outer s H vs Q E hr h => ?_)
  · obtain ⟨x1, x2, l, A, b1, b2, ps1, ps2, y1, y2, rows, rfl, _⟩ := h
    rfl
  · obtain ⟨x1, x2, l, A, b1, b2, ps1, ps2, y1, y2, rows, rfl, hw, hNN, hRL, hrl, hA, hrA, hr60, hrs, hgd, q⟩ := h
    obtain ⟨rs, hl, hrp⟩ := id hRL
    have hrsl := hrp.length
    have hN1 := hw.one.pos
    have hN2 := hw.two.pos
    have hszl : (100000 : Nat) < sizeLine := by decide
    refine ⟨_, (pss_cons (ps_par (i := 4) (j := 5) (by rfl) sc_firstl.nd rfl rfl (by decide) rfl rfl (pa_cons (pe_c c_weighed hr (by decide) (by rfl) (pa_cons (pv 0) (pa_cons (pe_callB cLen (by rfl) T.len (by decide +kernel) (pa_cons (pv 2) pa_nil)) pa_nil))) (pa_cons (pe_c c_weighed hr (by decide) (by rfl) (pa_cons (pv 1) (pa_cons (pe_callB cLen (by rfl) T.len (by decide +kernel) (pa_cons (pv 2) pa_nil)) pa_nil))) pa_nil)) (by rfl))
      (pss_cons (ps_set (i := 6) sc_firstl.nd rfl (Or.inl rfl) (pe_c c_restsof hr (by decide) (by rfl) (pa_cons (pv 0) (pa_cons (pv 1) (pa_cons (pe_lc (own := [("row", 9)]) (g := gName 9) (tt := tYes) (te := (tSortSet K (tLc2 (iList K (tVar 9)) (gName 7) tYes (iList K (tVar 7)) (gName 8) tYes (tCB _ (tCons (tVar 8) tNil)) (List.map (fun x => x.2) [((Str.ofString "some" : Str), 7), ((Str.ofString "step" : Str), 8)]) [8]))) rfl sc_firstl.nd (pi_list (pv 2)) (blkOk_by (own := [("row", 9)]) (N := ["one", "other", "choices", "letters", "first", "second", "rests", "some", "step", "row", "found", "states", "place", "letter", "later", "here", "there", "sums"]) (sc := defScope s_firstl) (by decide +kernel)) (fun _ _ _ _ _ => (pg_name (i := 9) sc_firstl.nd rfl (Or.inl rfl))) (fun _ _ _ _ _ => pts_nil) (fun _ _ _ _ _ => (pe_sortSet rfl (by rfl) zsorted (by rfl) zset (pe_lc2 (own := [("some", 7), ("step", 8)]) (vs1 := [8]) (g := gName 7) (g1 := gName 8) (tt := tYes) (tt1 := tYes) (wi1 := (iList K (tVar 7))) (te := (tCB _ (tCons (tVar 8) tNil))) rfl sc_firstl.nd (pi_list (pv 9)) (blkOk_by (own := [("some", 7), ("step", 8)]) (by first | rfl | kernel_rfl)) (by decide) (fun _ _ _ _ _ => (pg_name (i := 7) sc_firstl.nd rfl (Or.inl rfl))) (fun _ _ _ _ _ => pts_nil) (fun _ _ _ _ _ => (pi_list (pv 7))) (fun _ _ _ _ _ => (pg_name (i := 8) sc_firstl.nd rfl (Or.inl rfl))) (fun _ _ _ _ _ => pts_nil) (fun _ _ _ _ _ => (pe_callTy cInt1 (by rfl) T.int (by decide +kernel) (pa_cons (pv 8) pa_nil))))))) pa_nil)))))
      (pss_cons (ps_set (i := 10) sc_firstl.nd rfl (Or.inl rfl) (pe_lst pa_nil))
      (pss_cons (ps_set (i := 11) sc_firstl.nd rfl (Or.inl rfl) (pe_disp1 hr.units (pe_tup (pa_cons pe_int (pa_cons pe_int pa_nil))) pe_bl))
      (pss_cons (ps_for PassesOwn.never rfl (pi_enum (by rfl) T.enumerate (pa_cons (pv 2) pa_nil)) (pg_tup rfl (pgs_cons (pg_name (i := 12) sc_firstl.nd rfl (Or.inl rfl)) (pgs_cons (pg_name (i := 9) sc_firstl.nd rfl (Or.inl rfl)) pgs_nil))) (pss_cons (ps_set (i := 13) sc_firstl.nd rfl (Or.inl rfl) (pe_un un_neg pe_int))
      (pss_cons (ps_set (i := 14) sc_firstl.nd rfl (Or.inl rfl) pe_dnewT)
      (pss_cons (ps_while PassesOwn.never (PW.pt (pw_and (pt_cmpR (op_eqDT hr.units0) (pv 14) pe_dnewT (nomark _)) (pw_and1 (pt_cmpR op_lt (pe_op op_add (pv 13) pe_int) (pv 3) (nomark _))))) (pss_cons (ps_aug (i := 13) sc_firstl.nd rfl (Or.inl rfl) pe_int ip_add)
      (pss_one (ps_lock (ps_for PassesOwn.never rfl (pi_keys (pv 11)) (pg_tup rfl (pgs_cons (pg_name (i := 15) sc_firstl.nd rfl (Or.inl rfl)) (pgs_cons (pg_name (i := 16) sc_firstl.nd rfl (Or.inl rfl)) pgs_nil))) (pss_one (ps_for PassesOwn.never rfl (pi_list (pe_ix ix_list (pv 9) (pv 13) (fun _ _ => rfl))) (pg_name (i := 8) sc_firstl.nd rfl (Or.inl rfl)) (pss_cons (ps_set (i := 17) sc_firstl.nd rfl (Or.inl rfl) (pe_tup (pa_cons (pe_op op_mod (pe_op op_add (pv 15) (pe_op oMul (pv 8) (pe_ix ix_list (pv 4) (pv 12) (fun _ _ => rfl)))) (pe_fld (pv 0) rfl)) (pa_cons (pe_op op_mod (pe_op op_add (pv 16) (pe_op oMul (pv 8) (pe_ix ix_list (pv 5) (pv 12) (fun _ _ => rfl)))) (pe_fld (pv 1) rfl)) pa_nil))))
      (pss_one (ps_if (pt_val (pe_mt c_rsopen hr (by decide) (pe_ix ix_list (pv 6) (pe_op op_add (pv 12) pe_int) (fun _ _ => rfl)) (pa_cons (pv 17) pa_nil))) (pss_one (ps_asg pe_bl (pg_sub (pv 14) (pv 17) (set_dict (u66q hr))))) pss_nil))))))))))
      (pss_cons (ps_expr (pe_bm PySem.F.plainAttrs_list PySem.F.slot_list_append PySem.F.type_list_append mt_append (pv 10) (pa_cons (pv 13) pa_nil)))
      (pss_one (ps_set (i := 11) sc_firstl.nd rfl (Or.inl rfl) (pv 14))))))))
      (pss_one (ps_ret (pv 10)))))))), ?_⟩
    walk_at "go"
    rw [List.length_map]
    refine ⟨x1, b1, ps1, y1, rs.length, rfl, hw.one, hw.n1, by omega, fun H1 f n1 s1 h1 => ?_⟩
    walk_at "go"
    rw [List.length_map]
    refine ⟨x2, b2, ps2, y2, rs.length, rfl, (hw.same s1).two, hw.n2, by omega, fun H2 g n2 s2 h2 => ?_⟩
    rw [← hrsl] at h1 h2
    have hw2 := hw.same (s1.trans s2)
    have h1' := s2 _ _ h1
    clear h1
    generalize hW1 : wsL (num ps1) y1.low rows.length = W1 at h1' q hgd
    generalize hW2 : wsL (num ps2) y2.low rows.length = W2 at h2 q hgd
    have hW1l : W1.length = rows.length := by rw [← hW1, wsL_len]
    have hW2l : W2.length = rows.length := by rw [← hW2, wsL_len]
    have hl2 := (s1.trans s2) _ _ hl
    have hrp2 : Paired (fun row r => RowL H2 r row) rows rs := paired_imp (fun _ _ z => z.same (s1.trans s2)) hrp
    walk_at "go"
    intro D0 nD0
    refine lc_rel (rs.map V.ref) (RR H2) (fun x y G G' s z => by
        obtain ⟨r, qq, ns, e1, e2, e3, e4⟩ := z
        exact ⟨r, qq, ns, e1, e2, s _ _ e3, e4⟩) walk_list nD0 (fun H' s => sq (s _ _ hl2)) (by rw [List.length_map]; omega) (fun _ => rfl) ?_ ?_
    · rintro i x H' hx s' ⟨acc, hacc⟩ Q' q'
      obtain ⟨r, hr, rfl⟩ := get_map hx
      obtain ⟨row, hrow, hrr⟩ := paired_get hrp2 hr
      obtain ⟨es, he1, he2⟩ := id hrr
      have h60 := hr60 row (List.mem_of_getElem? hrow)
      walk_at "go"
      refine w_sortSet ?_
      unfold tLc2
      walk_at "go"
      intro D3 nD3
      refine lc2_fl es row (s' _ _ he1) (paired_imp (fun _ _ z => s' _ _ z) he2) (by omega) nD3 (fun _ => rfl) (fun _ _ => rfl) ?_ ?_ ?_
      · intro r2 u2 H3 R s3 hu2 hR
        refine w_iList ?_
        walk_at "go"
        exact hR
      · intro r2 z H3 s3 Q2 q2
        walk_at "go"
        exact q2
      · intro H3 s3 h3
        refine ⟨D3, row.flatten, rfl, sq h3, h60, fun ns p hsrt hmem np => ?_⟩
        refine q' _ _ (s3.trans (Same.new np)) ⟨r, p, ns, rfl, rfl, ?_, fun row' hr' k => ?_⟩
        · exact rm_of (ne_of_none' (s3 _ _ hacc) np) upd_same
        · rw [hmem, hrr.uniq hr']
    · intro H3 ys s3 h3 hys
      obtain ⟨qs, U, rfl, hU, hUl, hUm⟩ := rows_ex hrp2 hys
      have s13 := s1.trans (s2.trans s3)
      walk_at "go"
      refine ⟨x1, x2, D0, b1, b2, ps1, ps2, y1, y2, U, rfl, hw.same s13, hNN, ⟨qs, h3, hU⟩, by omega, fun u hu s hs => ?_, fun H4 rl os n4 s4 h4 hol hos => ?_⟩
      · obtain ⟨i, hi⟩ := List.getElem?_of_mem hu
        obtain ⟨row, hrow⟩ : ∃ row, rows[i]? = some row := ⟨_, List.getElem?_eq_getElem (by have := (List.getElem?_eq_some_iff.mp hi).1; omega)⟩
        exact hrs row (List.mem_of_getElem? hrow) s ((hUm i u row hi hrow s).mp hs)
      · rw [hUl, hW1, hW2] at hos
        have hos : ∀ (i : Nat) (o : Addr), os[i]? = some o → RsFor c Cr H4 o b1 b2 ps1 ps2 y1 y2 (W1.drop i) (W2.drop i) ((rows.drop i).map List.flatten) := fun i o ho => (hos i o ho).flat hUl hUm
        rw [hUl] at hol
        walk_at "go"
        have hw4 := hw.same (s13.trans s4)
        have hf4 := s4 _ _ (s3 _ _ h1')
        have hg4 := s4 _ _ (s3 _ _ h2)
        have hl4 := s4 _ _ (s3 _ _ hl2)
        have hrp4 : Paired (fun row r => RowL H4 r row) rows rs := paired_imp (fun _ _ z => z.same (s3.trans s4)) hrp2
        have SH4 := s13.trans s4
        clear hrp2 hl2 h1' h2 hU h3 s13 hRL hrp hw2
        refine al fun F0 H5 n5 s5 h5 => ?_
        walk_at "go"
        intro d0 nd0
        have s6 : Same H5 (upd H5 d0 (.dT [])) := Same.new nd0
        have h6 : (upd H5 d0 (.dT [])) d0 = some (.dT []) := upd_same
        generalize upd H5 d0 (.dT []) = H6 at s6 h6
        walk_at "go"
        refine al fun t0 H7 n7 s7 h7 => ?_
        walk_at "go"
        refine ⟨t0, pk (0, 0), rfl, s7 _ _ h6, h7, ?_⟩
        have s8 : Same H5 (upd H7 d0 (.dT [(pk (0, 0), .bl true)])) := same_up nd0 (s6.trans s7)
        have h8 : DpP (upd H7 d0 (.dT [(pk (0, 0), .bl true)])) d0 [(0, 0)] := upd_same
        generalize upd H7 d0 (.dT [(pk (0, 0), .bl true)]) = HX at s8 h8
        have nd0F : d0 ≠ F0 := ne_of_none' h5 nd0
        have hdX : DpP (rm F0 HX) d0 [(0, 0)] := rm_of nd0F h8
        have hFX := s8 _ _ h5
        have S4X : Same H4 (rm F0 HX) := rm_in n5 (s5.trans s8)
        have nFH : H F0 = none := SH4.free n5
        walk_at "go"
        refine w_enumi (sq (rm_le _ _ (S4X _ _ hl4))) ?_
        refine for_it (walk_enum (xs := rs.map V.ref)) (fun i σ H' => ∃ (v8 v9 v12 v13 v14 v15 v16 v17 : Option V) (d : Addr) (t : List Int) (ks : List (Int × Int)), σ = [some (.ref x1), some (.ref x2), some (.ref l), some (.int A), some (.ref f), some (.ref g), some (.ref rl), none, v8, v9, some (.ref F0), some (.ref d), v12, v13, v14, v15, v16, v17] ∧ Same (rm F0 HX) (rm F0 H') ∧ H' F0 = some (.lst (t.map V.int)) ∧ DpP (rm F0 H') d ks ∧ Fs73 b1 (num ps1) b2 (num ps2) W1 W2 rows A i t ks)
          ⟨_, _, _, _, _, _, _, _, d0, [], [(0, 0)], rfl, Same.refl _, hFX, hdX, Fs73.zero hgd⟩ (fun i σ H' _ z => by
            obtain ⟨_, _, _, _, _, _, _, _, _, _, _, _, z, _⟩ := z
            exact sq (rm_le _ _ (z _ _ (S4X _ _ hl4)))) ?_ ?_
        · rintro i y σ H8 H9 hi ⟨v8, v9, v12, v13, v14, v15, v16, v17, d, t, ks, rfl, s9, hF8, hd8, hS⟩ ⟨tt, z1, z2, rfl, ntt, rfl, e1, e2⟩
          cases e1
          obtain ⟨ra, hra, rfl⟩ := get_map e2
          obtain ⟨row, hrow, hrr⟩ := paired_get hrp4 hra
          have hi' : i < rows.length := (List.getElem?_eq_some_iff.mp hrow).1
          refine w_gtup (sqt upd_same) rfl ?_
          have hS9 : Same H8 (upd H8 tt (.tup [.int (i : Nat), .ref ra])) := Same.new ntt
          have s9' : Same (rm F0 HX) (rm F0 (upd H8 tt (.tup [.int (i : Nat), .ref ra]))) := s9.trans hS9.rm
          have hF9 := hS9 _ _ hF8
          have hd9 : DpP (rm F0 (upd H8 tt (.tup [.int (i : Nat), .ref ra]))) d ks := hS9.rm _ _ hd8
          clear s9 hF8 hd8
          generalize upd H8 tt (.tup [.int (i : Nat), .ref ra]) = H9 at s9' hF9 hd9 hS9
          obtain ⟨ndF, hd9⟩ := rm_some' hd9
          have S49 : Same H4 H9 := S4X.trans (s9'.trans rm_le)
          obtain ⟨fw, hfw⟩ : ∃ t, W1[i]? = some t := ⟨_, List.getElem?_eq_getElem (by omega)⟩
          obtain ⟨gw, hgw⟩ : ∃ t, W2[i]? = some t := ⟨_, List.getElem?_eq_getElem (by omega)⟩
          obtain ⟨oo, hoo⟩ : ∃ o, os[i + 1]? = some o := ⟨_, List.getElem?_eq_getElem (by omega)⟩
          obtain ⟨kr, hkr, hkm⟩ := (hos (i + 1) oo hoo).same S49
          have hrowA := hrA row (List.mem_of_getElem? hrow)
          obtain ⟨es, he1, he2⟩ := hrr.same S49
          have hel := he2.length
          walk_at "go"
          refine w_dnewT fun D nD => ?_
          have hBD : (rm d H9) D = none := by
            unfold rm
            split
            · rfl
            · exact nD
          have hBd : (rm d H9) d = none := by
            unfold rm
            rw [if_pos rfl]
          have nDd : D ≠ d := ne_of_none' hd9 nD
          have sB : Same (rm d H9) (upd H9 D (.dT [])) := rm_le.trans (Same.new nD)
          have hDB : (upd H9 D (.dT [])) D = some (.dT []) := upd_same
          have hdB : (upd H9 D (.dT [])) d = some (.dT (ks.map fun p => (pk p, V.bl true))) := by rw [upd_ne nDd.symm]; exact hd9
          generalize upd H9 D (.dT []) = HB at sB hDB hdB
          have hwB := (hw4.same S49).rmT hd9
          have hkB := hkr.rmT hd9
          have toB : ∀ {b : Addr} {xs : List V}, H9 b = some (.lst xs) → rm d H9 b = some (.lst xs) := fun z => rm_lst hd9 (fun _ e => by cases e) z
          have hfB := toB (S49 _ _ hf4)
          have hgB := toB (S49 _ _ hg4)
          have hrB := toB (S49 _ _ h4)
          have heB := toB he1
          have heB2 := paired_imp (fun (c : List Int) (r : Addr) (z : H9 r = some (.lst (c.map V.int))) => toB z) he2
          walk_at "go"
          refine while_mR (fun mm σ H' => ∃ (m : Nat) (v8 v15 v16 v17 : Option V) (ks' : List (Int × Int)), σ = [some (.ref x1), some (.ref x2), some (.ref l), some (.int A), some (.ref f), some (.ref g), some (.ref rl), none, v8, some (.ref ra), some (.ref F0), some (.ref d), some (.int (i : Nat)), some (.int ((m : Int) - 1)), some (.ref D), v15, v16, v17] ∧ m ≤ A ∧ mm = A - m ∧ Same (rm d H9) H' ∧ H' d = some (.dT (ks.map fun p => (pk p, V.bl true))) ∧ DpP H' D ks' ∧ ks'.Nodup ∧ (∀ p, p ∈ ks' ↔ 1 ≤ m ∧ (∃ x ∈ ks, ∃ s ∈ row.getD (m - 1) [], p = mov2 b1 (num ps1) b2 (num ps2) fw gw x s) ∧ Opn b1 (num ps1) b2 (num ps2) (W1.drop (i + 1)) (W2.drop (i + 1)) ((rows.drop (i + 1)).map List.flatten) p) ∧ ∀ l : Nat, l + 1 < m → ¬ Gd1 b1 (num ps1) b2 (num ps2) W1 W2 rows i t (l : Int)) A
            (fun σ H' => ∃ (m : Nat) (v8 v15 v16 v17 : Option V) (ks' : List (Int × Int)), σ = [some (.ref x1), some (.ref x2), some (.ref l), some (.int A), some (.ref f), some (.ref g), some (.ref rl), none, v8, some (.ref ra), some (.ref F0), some (.ref d), some (.int (i : Nat)), some (.int (m : Int)), some (.ref D), v15, v16, v17] ∧ Same (rm d H9) H' ∧ H' d = some (.dT (ks.map fun p => (pk p, V.bl true))) ∧ DpP H' D ks' ∧ Fs73 b1 (num ps1) b2 (num ps2) W1 W2 rows A (i + 1) (t ++ [(m : Int)]) ks')
            ⟨0, _, _, _, _, [], rfl, Nat.zero_le _, rfl, sB, hdB, hDB, List.nodup_nil, fun p => ⟨fun h => (nomatch h), fun h => absurd h.1 (by omega)⟩, fun l h => absurd h (by omega)⟩ ?_ ?_
          · rintro mm σ HC ⟨m, v8, v15, v16, v17, ks', rfl, hmA, rfl, sC, hdC, hDC, hn', hm', hno⟩ N0 hN0
            walk_at "go"
            refine w_dnewT fun DE nDE => ?_
            have sE : Same HC (upd HC DE (.dT [])) := Same.new nDE
            have hDE : (upd HC DE (.dT [])) DE = some (.dT []) := upd_same
            generalize upd HC DE (.dT []) = HE at sE hDE
            refine w_atV ?_
            refine w_eqDT (sE _ _ hDC) hDE ?_
            refine ⟨_, rfl, ?_⟩
            have sC' := sC.trans sE
            have hdE := sE _ _ hdC
            have hDE' : DpP HE D ks' := sE _ _ hDC
            cases hks' : ks' with
            | cons p0 ks0 =>
              rw [← hks']
              have hne : ks' ≠ [] := fun z => by rw [hks'] at z; cases z
              have hm1 : 1 ≤ m := ((hm' p0).mp (by rw [hks']; simp)).1
              have he : ks'.isEmpty = false := by rw [hks']; rfl
              rw [List.isEmpty_map, he]
              refine iteF ?_
              refine iteF ?_
              refine hN0 _ _ ⟨m - 1, v8, v15, v16, v17, ks', ?_, sC', hdE, hDE', ?_⟩
              · rw [show ((m - 1 : Nat) : Int) = (m : Int) - 1 by omega]
              · refine hS.next hrow hrowA hW1l hW2l hfw hgw (by omega) hn' hne (fun p => ?_) fun l hl => hno l (by omega)
                rw [hm']
                exact ⟨fun z => z.2, fun z => ⟨hm1, z⟩⟩
            | nil =>
              rw [hks'] at hDE' hm'
              have hgo : ∀ l : Nat, l < m → l < A → ¬ Gd1 b1 (num ps1) b2 (num ps2) W1 W2 rows i t (l : Int) := fun l hl hlA => by
                by_cases c : l + 1 = m
                · subst c
                  refine hS.gd1 hrow hW1l hW2l hfw hgw (by omega) fun p z => ?_
                  have := (hm' p).mpr ⟨by omega, z⟩
                  cases this
                · exact hno l (by omega)
              refine iteT ?_
              walk_at "go"
              refine ite_d (fun hlt => ?_) (fun hge => ?_)
              · have hmA' : m < A := by omega
                refine while_nm ?_
                walk_at "go"
                refine ⟨d, _, hdE, trivial, fun od => ?_⟩
                have hdL : (upd HE d (.frz od (.dT (ks.map fun p => (pk p, V.bl true))))) d = some (.frz od (.dT (ks.map fun p => (pk p, V.bl true)))) := upd_same
                have sL : Same (rm d H9) (upd HE d (.frz od (.dT (ks.map fun p => (pk p, V.bl true))))) := same_up hBd sC'
                have hDL : DpP (upd HE d (.frz od (.dT (ks.map fun p => (pk p, V.bl true))))) D [] := by
                  show upd HE d _ D = _
                  rw [upd_ne nDd]
                  exact hDE'
                generalize upd HE d (.frz od (.dT (ks.map fun p => (pk p, V.bl true)))) = HL at hdL sL hDL
                obtain ⟨ca, hca⟩ : ∃ o, es[m]? = some o := ⟨_, List.getElem?_eq_getElem (by omega)⟩
                obtain ⟨cc, hcc, hcH⟩ := paired_get heB2 hca
                have hcD : row.getD m [] = cc := by rw [List.getD_eq_getElem?_getD, hcc]; rfl
                have hcs : ∀ s ∈ cc, s.natAbs ≤ 2000 := fun s hs => hrs row (List.mem_of_getElem? hrow) s (List.mem_flatten.mpr ⟨cc, List.mem_of_getElem? hcc, hs⟩)
                unfold iKeys
                walk_at "go"
                refine ⟨d, od, rfl, .inr ⟨_, hdL, ?_⟩⟩
                have em : (m : Int) - 1 + 1 = (m : Int) := by omega
                refine for_it walk_keysT (fun j σ H' => ∃ (v8 v15 v16 v17 : Option V) (ks2 : List (Int × Int)), σ = [some (.ref x1), some (.ref x2), some (.ref l), some (.int A), some (.ref f), some (.ref g), some (.ref rl), none, v8, some (.ref ra), some (.ref F0), some (.ref d), some (.int (i : Nat)), some (.int (m : Int)), some (.ref D), v15, v16, v17] ∧ Same (rm d H9) H' ∧ H' d = some (.frz od (.dT (ks.map fun p => (pk p, V.bl true)))) ∧ DpP H' D ks2 ∧ ks2.Nodup ∧ ∀ p, p ∈ ks2 ↔ (∃ x ∈ ks.take j, ∃ s ∈ cc, p = mov2 b1 (num ps1) b2 (num ps2) fw gw x s) ∧ Opn b1 (num ps1) b2 (num ps2) (W1.drop (i + 1)) (W2.drop (i + 1)) ((rows.drop (i + 1)).map List.flatten) p)
                  ⟨v8, v15, v16, v17, [], by rw [em]; rfl, sL, hdL, hDL, List.nodup_nil, fun p => by simp⟩ (fun j σ H' _ z => by
                    obtain ⟨_, _, _, _, _, _, _, z, _⟩ := z
                    exact z) ?_ ?_
                · rintro j x σ HG HI hj ⟨v8', v15', v16', v17', ks2, rfl, sG, hdG, hDG, hn2, hm2⟩ ⟨rfl, k, v, qa, hkv, rfl, hq⟩
                  rw [List.getElem?_map] at hkv
                  obtain ⟨e, he, hev⟩ := Option.map_eq_some_iff.mp hkv
                  cases hev
                  have hq : HI qa = some (.tup [.int e.1, .int e.2]) := hq
                  have her := Sta_rng hN1 hN2 ((hS.mem e).mp (List.mem_of_getElem? he)).1
                  have tk : ∀ {R : Int × Int → Prop}, (∃ x ∈ ks.take (j + 1), R x) ↔ (∃ x ∈ ks.take j, R x) ∨ R e := fun {R} => by
                    rw [List.take_add_one, he]
                    constructor
                    · rintro ⟨x, hx, h⟩
                      rcases List.mem_append.mp hx with z | z
                      · exact .inl ⟨x, z, h⟩
                      · rw [Option.toList_some, List.mem_singleton] at z
                        rw [← z]
                        exact .inr h
                    · rintro (⟨x, hx, h⟩ | h)
                      · exact ⟨x, List.mem_append_left _ hx, h⟩
                      · exact ⟨e, by simp, h⟩
                  walk_at "go"
                  refine w_ixL (sq (sG _ _ heB)) (at_idx (n := m) (by rw [List.getElem?_map, hca]; rfl) rfl) ?_
                  walk_at "go"
                  refine for_list (K := K) (a := ca) (xs := cc.map V.int) (fun jj σ H' => ∃ (v8 v17 : Option V) (ks3 : List (Int × Int)), σ = [some (.ref x1), some (.ref x2), some (.ref l), some (.int A), some (.ref f), some (.ref g), some (.ref rl), none, v8, some (.ref ra), some (.ref F0), some (.ref d), some (.int (i : Nat)), some (.int (m : Int)), some (.ref D), some (.int e.1), some (.int e.2), v17] ∧ Same (rm d H9) H' ∧ H' d = some (.frz od (.dT (ks.map fun p => (pk p, V.bl true)))) ∧ DpP H' D ks3 ∧ ks3.Nodup ∧ ∀ p, p ∈ ks3 ↔ ((∃ x ∈ ks.take j, ∃ s ∈ cc, p = mov2 b1 (num ps1) b2 (num ps2) fw gw x s) ∨ ∃ s ∈ cc.take jj, p = mov2 b1 (num ps1) b2 (num ps2) fw gw e s) ∧ Opn b1 (num ps1) b2 (num ps2) (W1.drop (i + 1)) (W2.drop (i + 1)) ((rows.drop (i + 1)).map List.flatten) p)
                    ⟨v8', v17', ks2, rfl, sG, hdG, hDG, hn2, fun p => by rw [hm2]; simp⟩ (fun jj σ H' _ z => by
                      obtain ⟨_, _, _, _, z, _⟩ := z
                      exact sq (z _ _ hcH)) ?_ ?_
                  · rintro jj x σ HJ hx ⟨v8'', v17'', ks3, rfl, sJ, hdJ, hDJ, hn3, hm3⟩
                    obtain ⟨s0', hs0, rfl⟩ := get_map hx
                    have hsb := hcs s0' (List.mem_of_getElem? hs0)
                    have tk2 : ∀ {R : Int → Prop}, (∃ s ∈ cc.take (jj + 1), R s) ↔ (∃ s ∈ cc.take jj, R s) ∨ R s0' := fun {R} => by
                      rw [List.take_add_one, hs0]
                      constructor
                      · rintro ⟨x, hx, h⟩
                        rcases List.mem_append.mp hx with z | z
                        · exact .inl ⟨x, z, h⟩
                        · rw [Option.toList_some, List.mem_singleton] at z
                          rw [← z]
                          exact .inr h
                      · rintro (⟨x, hx, h⟩ | h)
                        · exact ⟨x, List.mem_append_left _ hx, h⟩
                        · exact ⟨s0', by simp, h⟩
                    have bf := wsL_bd (b := b1) hN1 (by rw [hW1]; exact List.mem_of_getElem? hfw)
                    have bg := wsL_bd (b := b2) hN2 (by rw [hW2]; exact List.mem_of_getElem? hgw)
                    obtain ⟨hn1', hn2'⟩ : num ps1 ≤ 2000 ∧ num ps2 ≤ 2000 := ⟨hw.n1, hw.n2⟩
                    have hm1 : CMx s0' (fw b1) := cmx20 (by omega) (by omega)
                    have hm4 : CMx s0' (gw b2) := cmx20 (by omega) (by omega)
                    have hwJ := hwB.same sJ
                    obtain ⟨hwJ1, hwJ2, _, _⟩ := id hwJ
                    walk_at "go"
                    refine w_ixL (v := .int (fw b1)) (sq (sJ _ _ hfB)) (at_idx (n := i) (by rw [List.getElem?_map, List.getElem?_map, hfw]; rfl) rfl) ?_
                    walk_at "go"
                    refine w_ixL (v := .int (gw b2)) (sq (sJ _ _ hgB)) (at_idx (n := i) (by rw [List.getElem?_map, List.getElem?_map, hgw]; rfl) rfl) ?_
                    walk_at "go"
                    refine al fun tq HM nM sM hM => ?_
                    have hkJ := (hkB.same sJ).same sM
                    have hrM := sM _ _ (sJ _ _ hrB)
                    have hpM : pT HM tq (mov2 b1 (num ps1) b2 (num ps2) fw gw e s0') := hM
                    have hDM : DpP HM D ks3 := sM _ _ hDJ
                    have hdM := sM _ _ hdJ
                    have hSM := sJ.trans sM
                    obtain ⟨dxo, ox1, ox2, osm, olm, ogm, _, _, _, hoM, _⟩ := id hkJ
                    walk_at "go"
                    refine w_ixL (v := .ref oo) (sq hrM) (at_idx (n := i + 1) (by rw [List.getElem?_map, hoo]; rfl) (by omega)) ?_
                    walk_at "go"
                    refine w_methi hoM (rs_no (by decide +kernel) (by decide +kernel) (by decide +kernel) (by decide +kernel) (by decide +kernel)) ?_
                    walk_at "go"
                    refine ⟨oo, tq, b1, b2, ps1, ps2, y1, y2, kr, _, rfl, hkJ, hpM, fun z hz => (Sta_rng hN1 hN2 ((hkm z).mp hz)).2, fun kb hkb => ?_⟩
                    rw [opk_opn hN1 hkm] at hkb
                    cases kb with
                    | false =>
                      have hno' : ¬ Opn b1 (num ps1) b2 (num ps2) (W1.drop (i + 1)) (W2.drop (i + 1)) ((rows.drop (i + 1)).map List.flatten) (mov2 b1 (num ps1) b2 (num ps2) fw gw e s0') := fun z => by
                        have := hkb.mpr z
                        cases this
                      walk_at "go"
                      refine iteF ?_
                      walk_at "go"
                      refine ⟨_, _, ks3, rfl, hSM, hdM, hDM, hn3, fun p => ?_⟩
                      rw [hm3, tk2]
                      constructor
                      · rintro ⟨z | z, o⟩
                        · exact ⟨.inl z, o⟩
                        · exact ⟨.inr (.inl z), o⟩
                      · rintro ⟨z | z | z, o⟩
                        · exact ⟨.inl z, o⟩
                        · exact ⟨.inr z, o⟩
                        · rw [z] at o
                          exact absurd o hno'
                    | true =>
                      have hyes := hkb.mp rfl
                      obtain ⟨ks4, p1, p2, p3⟩ := dp_put (k := mov2 b1 (num ps1) b2 (num ps2) fw gw e s0') hn3
                      have hin : ∀ p ∈ ks3, (0 ≤ p.1 ∧ p.1 < num ps1) ∧ 0 ≤ p.2 ∧ p.2 < num ps2 := fun p hp => by
                        rcases ((hm3 p).mp hp).1 with ⟨x, _, s, _, rfl⟩ | ⟨s, _, rfl⟩ <;> exact mov2_rng hN1 hN2
                      have hk3 := few_dp hN1 hN2 hNN hn3 hin
                      walk_at "go"
                      refine iteT ?_
                      walk_at "go"
                      refine w_setDq ⟨D, _, rfl, DPut.t (k := pk (mov2 b1 (num ps1) b2 (num ps2) fw gw e s0')) hDM (by rw [pk_val]; exact hpM) (by rw [List.length_map]; omega), ?_⟩
                      rw [p1]
                      walk_at "go"
                      refine ⟨_, _, ks4, rfl, same_up hBD hSM, by rw [upd_ne nDd.symm]; exact hdM, upd_same, p2, fun p => ?_⟩
                      rw [p3, hm3, tk2]
                      constructor
                      · rintro (⟨z | z, o⟩ | z)
                        · exact ⟨.inl z, o⟩
                        · exact ⟨.inr (.inl z), o⟩
                        · exact ⟨.inr (.inr z), by rw [z]; exact hyes⟩
                      · rintro ⟨z | z | z, o⟩
                        · exact .inl ⟨.inl z, o⟩
                        · exact .inl ⟨.inr z, o⟩
                        · exact .inr z
                  · rintro σ HJ ⟨v8'', v17'', ks3, rfl, sJ, hdJ, hDJ, hn3, hm3⟩
                    rw [List.length_map, List.take_length] at hm3
                    walk_at "go"
                    exact ⟨_, _, _, _, ks3, rfl, sJ, hdJ, hDJ, hn3, fun p => by rw [hm3, tk]⟩
                · rintro σ HG ⟨v8', v15', v16', v17', ks2, rfl, sG, hdG, hDG, hn2, hm2⟩
                  rw [List.length_map, List.take_length] at hm2
                  refine ⟨hdG, ?_⟩
                  have hSU : Same (rm d H9) (upd HG d (.dT (ks.map fun p => (pk p, V.bl true)))) := same_up hBd sG
                  have hDU : DpP (upd HG d (.dT (ks.map fun p => (pk p, V.bl true)))) D ks2 := by
                    show upd HG d _ D = _
                    rw [upd_ne nDd]
                    exact hDG
                  walk_at "go"
                  refine ⟨A - (m + 1), by omega, m + 1, _, _, _, _, ks2, by rw [show ((m + 1 : Nat) : Int) - 1 = (m : Int) by omega], by omega, rfl, hSU, upd_same, hDU, hn2, fun p => ?_, fun l hl => hgo l (by omega) (by omega)⟩
                  rw [Nat.add_sub_cancel, hcD, hm2]
                  exact ⟨fun z => ⟨by omega, z⟩, fun z => z.2⟩
              · exfalso
                obtain ⟨m0, hm0, hg0⟩ := hS.some hrow hrowA hW1l hW2l
                exact hgo m0 (by omega) hm0 hg0
          · rintro σ' HC ⟨m, v8, v15, v16, v17, ks', rfl, sC, hdC, hDC, hS'⟩
            have hFC : HC F0 = some (.lst (t.map V.int)) := sC _ _ (rm_of ndF.symm hF9)
            have htl := hS.len
            walk_at "go"
            refine w_append hFC (by rw [List.length_map]; omega) ?_
            walk_at "go"
            have hFr : rm F0 (upd HC F0 (.lst (t.map V.int ++ [.int (m : Int)]))) = rm F0 HC := rm_updS
            have s9C : Same H9 HC := fun b ob z => by
              by_cases c : b = d
              · rw [c] at z ⊢
                rw [hdC, ← hd9, z]
              · exact sC _ _ (rm_of c z)
            refine ⟨_, _, _, _, _, _, _, _, D, t ++ [(m : Int)], ks', rfl, ?_, ?_, ?_, hS'⟩
            · rw [hFr]
              exact s9'.trans s9C.rm
            · rw [upd_same, List.map_append]
              rfl
            · rw [hFr]
              exact rm_of (ne_of_none' hF9 nD) hDC
        · rintro σ H8 ⟨v8, v9, v12, v13, v14, v15, v16, v17, d, t, ks, rfl, s9, hF8, hd8, hS⟩
          rw [List.length_map, ← hrsl] at hS
          walk_at "go"
          exact q H8 F0 t nFH (SH4.trans (S4X.trans (s9.trans rm_le))) hF8 (hS.done hW1l hW2l)
noncomputable abbrev s_invst : Stmt := (inClass (top 8) 0)
theorem sc_invst : FnScope ["self", "stock"] ["self", "stock"] (defScope s_invst) :=
  ⟨rfl, rfl, rfl, by decide +kernel, rfl, by decide +kernel, by decide +kernel⟩
theorem ok_invst {C f : Addr} {fd : FuncData} (F : FunD K "__init__" "InvalidStock.__init__" (defArgs s_invst) (defBody s_invst) (defScope s_invst) [] [] f fd) (T : Bt mg) (hC : OexC K C) (hf : PySem.W.findIn K (.ref C) "stock" = some none) : FnOk P w K mg base L2.CX0 1 f fd ["self", "stock"] (spErr C "stock") := by
  refine fnD_ok F sc_invst (fun vs H Q E h => ?_) (fun cdv A outer s H vs Q E hr h => ?_)
  · obtain ⟨a, v, rfl, _⟩ := h
    rfl
  · obtain ⟨a, v, rfl, ha, q⟩ := h
    refine ⟨_, (pss_one (ps_ost (pv 0) (pv 1))), ?_⟩
    walk_at "go"
    exact ⟨v, rfl, .ref a, rfl, a, C, rfl, hC, hf, .inl ⟨ha, q⟩⟩
noncomputable abbrev s_reqstockx : Stmt := (top 22)
theorem sc_reqstockx : FnScope ["stock"] ["stock"] (defScope s_reqstockx) :=
  ⟨rfl, rfl, rfl, by decide +kernel, rfl, by decide +kernel, by decide +kernel⟩
theorem ok_reqstockx {Cs : Addr} (F : Dn K mg "require_stock" s_reqstockx ["stock"]) (T : Bt mg) (c_isint : Cal P w K mg base 1 "is_integer" (spIsInt K) []) (c_invst : Err P w K mg base 1 "InvalidStock" Cs "stock") : CalX P w K mg base 3 "require_stock" (spReqStockX K Cs) [] := by
  refine F.calX sc_reqstockx (fun vs H Q E h => ?_) (fun f cdv A outer s H vs Q E hr h => ?_)
  · obtain ⟨v, rfl, _⟩ := h
    rfl
  · obtain ⟨v, rfl, h⟩ := h
    refine ⟨_, (pss_one (ps_if (PW.pt (pw_or (pt_not (pt_val (pe_c c_isint hr (by decide) (by rfl) (pa_cons (pv 0) pa_nil)))) (pw_or1 (pt_cmpR op_lt (pv 0) pe_int (nomark _))))) (pss_one (ps_rse c_invst rfl hr (by decide) (takes_of rfl rfl rfl rfl) (by rfl) (pa_cons (pv 0) pa_nil))) pss_nil)), ?_⟩
    walk_at "go"
    rcases h with ⟨n, rfl, hn, k⟩ | ⟨pb, er⟩
    · refine ⟨.int n, _, true, false, rfl, ty_int n, kit_ty (by decide +kernel), kit_ty (by decide +kernel), ?_⟩
      walk_at "go"
      refine iteF ?_
      walk_at "go"
      rw [decide_eq_false (show ¬ n < 1 by omega)]
      refine iteF ?_
      walk_at "go"
      exact k
    · cases pb with
      | oth h =>
        obtain ⟨t, b1, b2, ty, k1, k2, e⟩ := h
        refine ⟨v, t, b1, b2, rfl, ty, k1, k2, ?_⟩
        rw [e]
        walk_at "go"
        refine iteT (iteT ?_)
        walk_at "go"
        exact w_fly er
      | int n h =>
        refine ⟨.int n, _, true, false, rfl, ty_int n, kit_ty (by decide +kernel), kit_ty (by decide +kernel), ?_⟩
        walk_at "go"
        refine iteF ?_
        walk_at "go"
        rw [decide_eq_true h]
        refine iteT ?_
        walk_at "go"
        exact w_fly er
noncomputable abbrev s_mpair : Stmt := (top 37)
theorem sc_mpair : FnScope ["one", "other", "stock", "pairs", "length", "some", "steps", "beside", "letter", "text", "place", "second"] ["one", "other", "stock"] (defScope s_mpair) :=
  ⟨rfl, rfl, rfl, by decide +kernel, rfl, by decide +kernel, by decide +kernel⟩
theorem ok_mpair {c : CA} {Ci Cs Cu Cp Cr : Addr} {f : Addr} {fd : FuncData} (F : FunD K "missed_pair" "missed_pair" (defArgs s_mpair) (defBody s_mpair) (defScope s_mpair) [] [] f fd) (T : Bt mg) (X : Kx K mg c) (c_reqonex : CalX P w K mg base 3 "require_one_way" (spReqOneX K c Ci) []) (c_reqstockx : CalX P w K mg base 3 "require_stock" (spReqStockX K Cs) []) (c_reqlikex : CalX P w K mg base 1 "require_like" (spLikeX c Cu) []) (c_pr : C8.Mak P w K mg base 1 "Pairs" Cp (spPrInit c Cp) []) (c_reach : C8.Met P w K mg base 2 Cp "reach" (spReach c Cp) []) (c_mislen : Cal P w K mg base 2 "missed_length" (spMisLen c Cp) []) (c_firstl : Cal P w K mg base 4 "first_letters" (spFirstL c) []) :
    FnOk P w K mg base (L2.CX P w) 5 f fd ["one", "other", "stock"] (spMissedX K c Ci Cs Cu) := by
  refine fnX_ok F sc_mpair (fun vs H Q E h => ?_) (fun cdv A outer s H vs Q E hr h => ?_)
  · obtain ⟨v, u, z, rfl, _⟩ := h
    rfl
  · obtain ⟨v, u, z, rfl, h⟩ := h
    refine ⟨_, (pss_cons (ps_expr (pe_cX c_reqonex hr (by decide) (by rfl) (takes_of rfl rfl rfl rfl) (pa_cons (pv 0) pa_nil)))
      (pss_cons (ps_expr (pe_cX c_reqonex hr (by decide) (by rfl) (takes_of rfl rfl rfl rfl) (pa_cons (pv 1) pa_nil)))
      (pss_cons (ps_expr (pe_cX c_reqstockx hr (by decide) (by rfl) (takes_of rfl rfl rfl rfl) (pa_cons (pv 2) pa_nil)))
      (pss_cons (ps_expr (pe_cX c_reqlikex hr (by decide) (by rfl) (takes_of rfl rfl rfl rfl) (pa_cons (pv 0) (pa_cons (pv 1) pa_nil))))
      (pss_cons (ps_set (i := 3) sc_mpair.nd rfl (Or.inl rfl) (pe_mk c_pr hr (by decide) (by rfl) (pa_cons (pv 0) (pa_cons (pv 1) (pa_cons (pv 2) pa_nil)))))
      (pss_cons (ps_set (i := 4) sc_mpair.nd rfl (Or.inl rfl) (pe_c c_mislen hr (by decide) (by rfl) (pa_cons (pv 3) (pa_cons (pe_mt0 c_reach hr (by decide) (pv 3)) pa_nil))))
      (pss_cons (ps_if (pt_cmpR op_isN1 (pv 4) pe_non (nomark _)) (pss_one (ps_ret pe_non)) pss_nil)
      (pss_cons (ps_set (i := 5) sc_mpair.nd rfl (Or.inr rfl) (pe_listRg rfl (by rfl) T.list (prg_1 (by rfl) T.range (pv 2))))
      (pss_cons (ps_set (i := 6) sc_mpair.nd rfl (Or.inr rfl) (pe_lc (own := [("letter", 8)]) (g := gName 8) (tt := tYes) (te := (tLc (iList K (tVar 5)) (gName 7) tYes (tOp _ (tVar 8) (tVar 7)) (List.map (fun x => x.2) [((Str.ofString "beside" : Str), 7)]))) rfl sc_mpair.nd (pi_list (pv 5)) (blkOk_by (own := [("letter", 8)]) (N := ["one", "other", "stock", "pairs", "length", "some", "steps", "beside", "letter", "text", "place", "second"]) (sc := defScope s_mpair) (by decide +kernel)) (fun _ _ _ _ _ => (pg_name (i := 8) sc_mpair.nd rfl (Or.inr rfl))) (fun _ _ _ _ _ => pts_nil) (fun _ _ _ _ _ => (pe_lc (own := [("beside", 7)]) (g := gName 7) (tt := tYes) (te := (tOp _ (tVar 8) (tVar 7))) rfl sc_mpair.nd (pi_list (pv 5)) (blkOk_by (own := [("beside", 7)]) (by first | rfl | kernel_rfl)) (fun _ _ _ _ _ => (pg_name (i := 7) sc_mpair.nd rfl (Or.inl rfl))) (fun _ _ _ _ _ => pts_nil) (fun _ _ _ _ _ => (pe_op op_sub (pv 8) (pv 7)))))))
      (pss_cons (ps_set (i := 9) sc_mpair.nd rfl (Or.inl rfl) (pe_c c_firstl hr (by decide) (by rfl) (pa_cons (pv 0) (pa_cons (pv 1) (pa_cons (pe_lc (own := [("place", 10)]) (g := gName 10) (tt := tYes) (te := (tVar 6)) rfl sc_mpair.nd (pi_range1 (by rfl) T.range (pa_cons (pv 4) pa_nil)) (blkOk_by (own := [("place", 10)]) (N := ["one", "other", "stock", "pairs", "length", "some", "steps", "beside", "letter", "text", "place", "second"]) (sc := defScope s_mpair) (by decide +kernel)) (fun _ _ _ _ _ => (pg_name (i := 10) sc_mpair.nd rfl (Or.inl rfl))) (fun _ _ _ _ _ => pts_nil) (fun _ _ _ _ _ => (pv 6))) (pa_cons (pv 2) pa_nil))))))
      (pss_cons (ps_set (i := 11) sc_mpair.nd rfl (Or.inl rfl) (pe_c c_firstl hr (by decide) (by rfl) (pa_cons (pv 0) (pa_cons (pv 1) (pa_cons (pe_lc (own := [("letter", 8)]) (g := gName 8) (tt := tYes) (te := (tLc (iList K (tVar 5)) (gName 7) tYes (tLst (tCons (tOp _ (tVar 8) (tVar 7)) tNil)) (List.map (fun x => x.2) [((Str.ofString "beside" : Str), 7)]))) rfl sc_mpair.nd (pi_list (pv 9)) (blkOk_by (own := [("letter", 8)]) (N := ["one", "other", "stock", "pairs", "length", "some", "steps", "beside", "letter", "text", "place", "second"]) (sc := defScope s_mpair) (by decide +kernel)) (fun _ _ _ _ _ => (pg_name (i := 8) sc_mpair.nd rfl (Or.inr rfl))) (fun _ _ _ _ _ => pts_nil) (fun _ _ _ _ _ => (pe_lc (own := [("beside", 7)]) (g := gName 7) (tt := tYes) (te := (tLst (tCons (tOp _ (tVar 8) (tVar 7)) tNil))) rfl sc_mpair.nd (pi_list (pv 5)) (blkOk_by (own := [("beside", 7)]) (by first | rfl | kernel_rfl)) (fun _ _ _ _ _ => (pg_name (i := 7) sc_mpair.nd rfl (Or.inl rfl))) (fun _ _ _ _ _ => pts_nil) (fun _ _ _ _ _ => (pe_lst (pa_cons (pe_op op_sub (pv 8) (pv 7)) pa_nil)))))) (pa_cons (pv 2) pa_nil))))))
      (pss_one (ps_ret (pe_tup (pa_cons (pe_callTy cTupOf (by rfl) T.tuple (by decide +kernel) (pa_cons (pv 9) pa_nil)) (pa_cons (pe_callTy cTupOf (by rfl) T.tuple (by decide +kernel) (pa_cons (pv 11) pa_nil)) pa_nil)))))))))))))))), ?_⟩
    walk_at "go"
    rcases h with ⟨⟨t, ht, hk⟩, q⟩ | ⟨x, b, ps, y, rfl, hw, ⟨t, ht, hk⟩, q⟩ | ⟨x, x', b, b', ps, ps', y, y', rfl, rfl, hw, hw', h⟩
    · exact ⟨v, t, false, rfl, ht, hk, (fun z => by cases z), fun _ => q⟩
    · obtain ⟨dx, m, k, hx, r⟩ := id hw
      refine ⟨.ref x, _, true, rfl, X.wy.ty hx, kit_own, fun _ => ?_, (fun z => by cases z)⟩
      walk_at "go"
      exact ⟨u, t, false, rfl, ht, hk, (fun z => by cases z), fun _ => q⟩
    · have hn := hw.pos
      have hn' := hw'.pos
      obtain ⟨dx, m, k, hx, r⟩ := id hw
      obtain ⟨dx', m', k', hx', r'⟩ := id hw'
      refine ⟨.ref x, _, true, rfl, X.wy.ty hx, kit_own, fun _ => ?_, (fun z => by cases z)⟩
      walk_at "go"
      refine ⟨.ref x', _, true, rfl, X.wy.ty hx', kit_own, fun _ => ?_, (fun z => by cases z)⟩
      walk_at "go"
      rcases h with ⟨hz, hs⟩ | ⟨A, rfl, A1, qu, q⟩
      · exact ⟨z, rfl, .inr ⟨hz, hs⟩⟩
      · refine ⟨_, rfl, .inl ⟨A, rfl, by omega, ?_⟩⟩
        walk_at "go"
        refine ⟨x, x', b, b', ps, ps', y, y', rfl, hw, hw', fun hl => ?_, qu⟩
        obtain ⟨A7, n1, n2, qn, qm⟩ := q hl
        walk_at "go"
        have hW : Ways2 c H x x' b b' ps ps' y y' := ⟨hw, hw', by omega, by omega⟩
        have hNN : num ps * num ps' ≤ 10000 := by
          have := Int.mul_le_mul n1 n2 (by omega) (by omega)
          omega
        refine use_pr hW A1 (by omega) fun o H1 n3 s1 h1 => ?_
        obtain ⟨_, _, _, _, ho1, _⟩ := id h1
        walk_at "go"
        refine w_methi ho1 (pr_no (by decide +kernel) (by decide +kernel) (by decide +kernel)) ?_
        walk_at "go"
        refine ⟨o, b, b', ps, ps', y, y', A, rfl, h1, A1, by omega, hNN, fun H2 d ks s2 hd hR => ?_⟩
        walk_at "go"
        refine ⟨o, d, b, b', ps, ps', y, y', A, ks, rfl, h1.same s2, hd, hR, fun hno H3 s3 => ?_, fun m hm H3 s3 => ?_⟩
        · walk_at "go"
          refine iteT ?_
          walk_at "go"
          exact qn hno H3 ((s1.trans s2).trans s3)
        · have hmN := missed_le hn A1 hm
          have S3 := (s1.trans s2).trans s3
          clear ho1 h1 hd hR s1 s2 s3
          walk_at "go"
          refine iteF ?_
          walk_at "go"
          refine al fun so H4 n4 s4 h4 => ?_
          walk_at "go"
          generalize hrA : ((List.range A).map fun k : Nat => (k : Int)) = rA
          have hso : H4 so = some (.lst (rA.map V.int)) := by
            rw [h4, ← hrA]
            unfold rgV
            simp [List.map_map, Function.comp_def]
          have hrAl : rA.length = A := by rw [← hrA, List.length_map, List.length_range]
          clear h4
          have fL : ∀ z : Int, (rA.map fun k => z - k) = (List.range A).map fun k : Nat => z - (k : Int) := fun z => by rw [← hrA, List.map_map]; rfl
          have hszl : (100000 : Nat) < sizeLine := by decide
          intro D nD
          refine lc_rel (rA.map V.int) (RI fun z => rA.map fun k => z - k) (fun x y G G' s z => by
              obtain ⟨z0, qq, e1, e2, e3⟩ := z
              exact ⟨z0, qq, e1, e2, s _ _ e3⟩) walk_list nD (fun H' s => sq (s _ _ hso)) (by rw [List.length_map]; omega) (fun _ => rfl) ?_ ?_
          · rintro i x1 H' hx s' ⟨acc, hacc⟩ Q' q'
            obtain ⟨z, hz, rfl⟩ := get_map hx
            walk_at "go"
            intro D2 nD2
            refine lc_pure (rA.map V.int) ((rA.map fun k => z - k).map V.int) walk_list nD2 (fun H'' s => sq (s _ _ (s' _ _ hso))) (by simp) (by simp; omega) (fun _ => rfl) ?_ ?_
            · intro i2 x2 y2 H'' hx2 hy2 sm Q2 q2
              obtain ⟨z2, hz2, rfl⟩ := get_map hx2
              rw [List.getElem?_map, List.getElem?_map, hz2] at hy2
              cases hy2
              walk_at "go"
              exact q2 _ (Same.refl _)
            · intro H5 s5 h5
              exact q' _ _ s5 ⟨z, D2, rfl, rfl, rm_of (ne_of_none' hacc nD2) h5⟩
          · intro H5 ys s5 h5 hys
            obtain ⟨qs, rfl, hqs⟩ := RI.refs hys
            have S5 := S3.trans (s4.trans s5)
            have hso5 := s5 _ _ hso
            walk_at "go"
            intro D3 nD3
            refine lc_pure ((List.range m).map fun i : Nat => V.int (0 + i)) (List.replicate m (V.ref D)) (by have := walk_rangeY (lo := 0) (n := m); exact this) nD3 (fun _ _ => trivial) (by simp) (by simp; omega) (fun _ => rfl) ?_ ?_
            · intro i2 x2 y2 H'' hx2 hy2 sm Q2 q2
              have : y2 = V.ref D := by
                have := List.mem_of_getElem? hy2
                exact (List.mem_replicate.mp this).2
              subst this
              walk_at "go"
              exact q2 _ (Same.refl _)
            · intro H6 s6 h6
              have hf : ∀ z : Int, z ∈ rA → 0 ≤ z ∧ z < A := fun z hz => by
                rw [← hrA] at hz
                obtain ⟨k, hk, rfl⟩ := List.mem_map.mp hz
                have := List.mem_range.mp hk
                omega
              have hRL : RowL H6 D (rA.map fun z => rA.map fun k => z - k) := ⟨qs, s6 _ _ h5, paired_imp (fun _ _ z => s6 _ _ z) hqs⟩
              have eT : rowsT A m = List.replicate m (rA.map fun z => rA.map fun k => z - k) := by
                unfold rowsT
                rw [← hrA, List.map_map]
                congr 1
                refine List.map_congr_left fun l _ => ?_
                simp [List.map_map, Function.comp_def]
              have hLL : RowLL H6 D3 (rowsT A m) := by
                refine ⟨List.replicate m D, by rw [h6, List.map_replicate], ?_⟩
                rw [eT]
                clear hmN hm h6 eT
                induction m with
                | zero => exact .nil
                | succ m ih => exact .cons hRL ih
              have S6 := S5.trans s6
              have hso6 := s6 _ _ hso5
              walk_at "go"
              refine ⟨x, x', D3, A, b, b', ps, ps', y, y', rowsT A m, rfl, hW.same S6, hNN, hLL, by rw [rowsT_len]; omega, by omega, rowsT_row, ?_, ?_, ?_, ?_⟩
              · exact fun row hr => (rowsT_bd A7 row hr).1
              · exact fun row hr => (rowsT_bd A7 row hr).2
              · rw [rowsT_len, ← hl]
                exact gd_start A1 hm
              · intro H7 tx t n7 s7 h7 hF
                rw [rowsT_len, ← hl] at hF
                have htl : t.length = m := by rw [hF.len, rowsT_len]
                have S7 := S6.trans s7
                have hso7 := s7 _ _ hso6
                clear hLL hRL hqs h5
                walk_at "go"
                intro D4 nD4
                refine lc_rel (t.map V.int) (RII fun z => rA.map fun k => [z - k]) (fun x y G G' s z => by
                    obtain ⟨z0, qq, e1, e2, e3⟩ := z
                    exact ⟨z0, qq, e1, e2, e3.same s⟩) walk_list nD4 (fun H' s => sq (s _ _ h7)) (by rw [List.length_map]; omega) (fun _ => rfl) ?_ ?_
                · rintro i x1 H' hx s' ⟨acc, hacc⟩ Q' q'
                  obtain ⟨z, hz, rfl⟩ := get_map hx
                  walk_at "go"
                  intro D5 nD5
                  refine lc_rel (rA.map V.int) (fun x y G => RI (fun k => [z - k]) x y (rm D4 G)) (fun x y G G' s z => by
                      obtain ⟨z0, qq, e1, e2, e3⟩ := z
                      exact ⟨z0, qq, e1, e2, s.rm _ _ e3⟩) walk_list nD5 (fun H'' s => sq (s _ _ (s' _ _ hso7))) (by rw [List.length_map]; omega) (fun _ => rfl) ?_ ?_
                  · rintro i2 x2 H'' hx2 sm ⟨acc2, hacc2⟩ Q2 q2
                    obtain ⟨z2, hz2, rfl⟩ := get_map hx2
                    walk_at "go"
                    refine al fun l8 H8 n8 s8 h8 => ?_
                    exact q2 _ _ s8 ⟨z2, l8, rfl, rfl, rm_of (ne_of_none' (sm _ _ hacc) n8) (rm_of (ne_of_none' hacc2 n8) h8)⟩
                  · intro H8 ys8 s8 h8 hys8
                    obtain ⟨qs8, rfl, hq8⟩ := RI.refs hys8
                    exact q' _ _ s8 ⟨z, D5, rfl, rfl, qs8, rm_of (ne_of_none' hacc nD5) h8, hq8⟩
                · intro H8 ys8 s8 h8 hys8
                  obtain ⟨qs8, rfl, hq8⟩ := RII.refs hys8
                  have eO : rowsO A t = t.map fun z => rA.map fun k => [z - k] := by
                    unfold rowsO
                    rw [← hrA]
                    refine List.map_congr_left fun l _ => ?_
                    simp [List.map_map, Function.comp_def]
                  have hLO : RowLL H8 D4 (rowsO A t) := ⟨qs8, h8, by rw [eO]; exact hq8⟩
                  have S8 := S7.trans s8
                  have h7' := s8 _ _ h7
                  walk_at "go"
                  refine ⟨x, x', D4, A, b, b', ps, ps', y, y', rowsO A t, rfl, hW.same S8, hNN, hLO, by rw [rowsO_len]; omega, by omega, rowsO_row, fun row hr => (rowsO_bd A7 hF.rng row hr).1, fun row hr => (rowsO_bd A7 hF.rng row hr).2, ?_, ?_⟩
                  · rw [rowsO_len, htl, ← hl]
                    exact gd_other hF
                  · intro H9 ux u n9 s9 h9 hU
                    rw [rowsO_len, htl, ← hl] at hU
                    have h7'' := s9 _ _ h7'
                    walk_at "go"
                    refine w_tupL (sq h7'') (al fun p1 HA nA sA hA => ?_)
                    walk_at "go"
                    refine w_tupL (sq (sA _ _ h9)) (al fun p2 HB nB sB hB => ?_)
                    walk_at "go"
                    refine al fun p3 HC nC sC hC => ?_
                    exact qm m t u hm (pr73 hF hU) HC p3 (S8.trans (s9.trans (sA.trans (sB.trans sC)))) ⟨p1, p2, hC, sC _ _ (sB _ _ hA), sC _ _ hB⟩
noncomputable abbrev s_someway : Stmt := (top 45)
theorem sc_someway : FnScope ["_law_purse_here", "_law_is_low", "_law_some", "_law_ring", "_law_given"] ["_law_purse_here", "_law_is_low"] (defScope s_someway) :=
  ⟨rfl, rfl, rfl, by decide +kernel, rfl, by decide +kernel, by decide +kernel⟩
theorem ok_someway {c : CA} (F : Dn K mg "_law_some_way" s_someway ["_law_purse_here", "_law_is_low"]) (T : Bt mg) (X : Kx K mg c) (c_draw : Cal P w K mg base 2 "_law_draw" spDraw []) (c_style : Cal P w K mg base 4 "_law_style" spStyle [])
    (c_modinit : Mak P w K mg base 3 "Modulus" c.md (spModInit c) []) (c_way3 : Mak P w K mg base 5 "Way" c.wy (spWayInit c) []) (c_mk3 : MakK P w K mg base 2 "Marking" c.kg ["low", "shift", "lead"] (spMkInit c) (fun vs zs => vs ++ zs)) : Cal P w K mg base 7 "_law_some_way" (spSomeWay c) [] := by
  refine F.cal sc_someway (fun vs H Q E h => ?_) (fun f cdv A outer s H vs Q E hr h => ?_)
  · obtain ⟨a, c, lw, rfl, _⟩ := h
    rfl
  · obtain ⟨a, cc, lw, rfl, hc, u0, q⟩ := h
    refine ⟨_, (pss_cons (ps_set (i := 2) sc_someway.nd rfl (Or.inl rfl) (pe_lst (pa_cons (pe_lst (pa_cons (pe_tup (pa_cons pe_int (pa_cons pe_int pa_nil))) pa_nil)) (pa_cons (pe_lst (pa_cons (pe_tup (pa_cons pe_int (pa_cons pe_int pa_nil))) pa_nil)) (pa_cons (pe_lst (pa_cons (pe_tup (pa_cons pe_int (pa_cons pe_int pa_nil))) (pa_cons (pe_tup (pa_cons pe_int (pa_cons pe_int pa_nil))) pa_nil))) (pa_cons (pe_lst (pa_cons (pe_tup (pa_cons pe_int (pa_cons pe_int pa_nil))) pa_nil)) (pa_cons (pe_lst (pa_cons (pe_tup (pa_cons pe_int (pa_cons pe_int pa_nil))) (pa_cons (pe_tup (pa_cons pe_int (pa_cons pe_int pa_nil))) pa_nil))) (pa_cons (pe_lst pa_nil) (pa_cons (pe_lst (pa_cons (pe_tup (pa_cons pe_int (pa_cons pe_int pa_nil))) pa_nil)) (pa_cons (pe_lst (pa_cons (pe_tup (pa_cons pe_int (pa_cons pe_int pa_nil))) pa_nil)) (pa_cons (pe_lst (pa_cons (pe_tup (pa_cons pe_int (pa_cons pe_int pa_nil))) pa_nil)) pa_nil)))))))))))
      (pss_cons (ps_set (i := 3) sc_someway.nd rfl (Or.inl rfl) (pe_mk c_modinit hr (by decide) (by rfl) (pa_cons (pe_ix ix_list (pe_op op_cat (pv 2) (pe_lst (pa_cons (pe_lst (pa_cons (pe_tup (pa_cons pe_int (pa_cons pe_int pa_nil))) pa_nil)) (pa_cons (pe_lst (pa_cons (pe_tup (pa_cons pe_int (pa_cons pe_int pa_nil))) pa_nil)) pa_nil)))) (pe_c c_draw hr (by decide) (by rfl) (pa_cons (pv 0) (pa_cons pe_int pa_nil))) (fun _ _ => rfl)) pa_nil)))
      (pss_cons (ps_set (i := 4) sc_someway.nd rfl (Or.inl rfl) (pe_c c_style hr (by decide) (by rfl) (pa_cons (pv 0) pa_nil)))
      (pss_one (ps_ret (pe_mk c_way3 hr (by decide) (by rfl) (pa_cons (pe_c c_draw hr (by decide) (by rfl) (pa_cons (pv 0) (pa_cons pe_int pa_nil))) (pa_cons (pv 3) (pa_cons (pe_mkK0 c_mk3 hr (by decide) (by rfl) (pk_cons (pv 1) (pk_cons (pe_ix ix_list (pv 4) pe_int (fun _ _ => rfl)) (pk_cons (pe_ix ix_list (pv 4) pe_int (fun _ _ => rfl)) pk_nil)))) pa_nil))))))))), ?_⟩
    walk_at "go"
    refine alR u0 fun t1 H1 s1 u1 ht1 _ => ?_
    walk_at "go"
    refine alR u1 fun l2 H2 s2 u2 hl2 _ => ?_
    have q2 : PrL (rm a H2) l2 [(2, 3)] := ⟨[t1], hl2, .cons (hpL ht1 (by walk_at "same")) (.nil)⟩
    clear hl2 ht1
    walk_at "go"
    refine alR u2 fun t3 H3 s3 u3 ht3 _ => ?_
    walk_at "go"
    refine alR u3 fun l4 H4 s4 u4 hl4 _ => ?_
    have q4 : PrL (rm a H4) l4 [(3, 2)] := ⟨[t3], hl4, .cons (hpL ht3 (by walk_at "same")) (.nil)⟩
    clear hl4 ht3
    walk_at "go"
    refine alR u4 fun t5 H5 s5 u5 ht5 _ => ?_
    walk_at "go"
    refine alR u5 fun t6 H6 s6 u6 ht6 _ => ?_
    walk_at "go"
    refine alR u6 fun l7 H7 s7 u7 hl7 _ => ?_
    have q7 : PrL (rm a H7) l7 [(2, 1), (3, 1)] := ⟨[t5, t6], hl7, .cons (hpL ht5 (by walk_at "same")) (.cons (hpL ht6 (by walk_at "same")) (.nil))⟩
    clear hl7 ht5 ht6
    walk_at "go"
    refine alR u7 fun t8 H8 s8 u8 ht8 _ => ?_
    walk_at "go"
    refine alR u8 fun l9 H9 s9 u9 hl9 _ => ?_
    have q9 : PrL (rm a H9) l9 [(5, 1)] := ⟨[t8], hl9, .cons (hpL ht8 (by walk_at "same")) (.nil)⟩
    clear hl9 ht8
    walk_at "go"
    refine alR u9 fun t10 H10 s10 u10 ht10 _ => ?_
    walk_at "go"
    refine alR u10 fun t11 H11 s11 u11 ht11 _ => ?_
    walk_at "go"
    refine alR u11 fun l12 H12 s12 u12 hl12 _ => ?_
    have q12 : PrL (rm a H12) l12 [(2, 2), (3, 1)] := ⟨[t10, t11], hl12, .cons (hpL ht10 (by walk_at "same")) (.cons (hpL ht11 (by walk_at "same")) (.nil))⟩
    clear hl12 ht10 ht11
    walk_at "go"
    refine alR u12 fun l13 H13 s13 u13 hl13 _ => ?_
    have q13 : PrL (rm a H13) l13 [] := ⟨[], hl13, .nil⟩
    clear hl13
    walk_at "go"
    refine alR u13 fun t14 H14 s14 u14 ht14 _ => ?_
    walk_at "go"
    refine alR u14 fun l15 H15 s15 u15 hl15 _ => ?_
    have q15 : PrL (rm a H15) l15 [(2, 2)] := ⟨[t14], hl15, .cons (hpL ht14 (by walk_at "same")) (.nil)⟩
    clear hl15 ht14
    walk_at "go"
    refine alR u15 fun t16 H16 s16 u16 ht16 _ => ?_
    walk_at "go"
    refine alR u16 fun l17 H17 s17 u17 hl17 _ => ?_
    have q17 : PrL (rm a H17) l17 [(7, 1)] := ⟨[t16], hl17, .cons (hpL ht16 (by walk_at "same")) (.nil)⟩
    clear hl17 ht16
    walk_at "go"
    refine alR u17 fun t18 H18 s18 u18 ht18 _ => ?_
    walk_at "go"
    refine alR u18 fun l19 H19 s19 u19 hl19 _ => ?_
    have q19 : PrL (rm a H19) l19 [(2, 1)] := ⟨[t18], hl19, .cons (hpL ht18 (by walk_at "same")) (.nil)⟩
    clear hl19 ht18
    walk_at "go"
    refine alR u19 fun L20 H20 s20 u20 hL20 _ => ?_
    walk_at "go"
    refine alR u20 fun t21 H21 s21 u21 ht21 _ => ?_
    walk_at "go"
    refine alR u21 fun l22 H22 s22 u22 hl22 _ => ?_
    have q22 : PrL (rm a H22) l22 [(11, 1)] := ⟨[t21], hl22, .cons (hpL ht21 (by walk_at "same")) (.nil)⟩
    clear hl22 ht21
    walk_at "go"
    refine alR u22 fun t23 H23 s23 u23 ht23 _ => ?_
    walk_at "go"
    refine alR u23 fun l24 H24 s24 u24 hl24 _ => ?_
    have q24 : PrL (rm a H24) l24 [(3, 1)] := ⟨[t23], hl24, .cons (hpL ht23 (by walk_at "same")) (.nil)⟩
    clear hl24 ht23
    walk_at "go"
    refine alR u24 fun L25 H25 s25 u25 hL25 _ => ?_
    walk_at "go"
    refine w_cat (xs := [.ref l2, .ref l4, .ref l7, .ref l9, .ref l12, .ref l13, .ref l15, .ref l17, .ref l19]) (ys := [.ref l22, .ref l24]) (by walk_at "hp") (by walk_at "hp") (by show 11 ≤ sizeLine; decide) (alR u25 fun L26 H26 s26 u26 hL26 _ => ?_)
    walk_at "go"
    refine use_drawR u26 (by decide) (by decide) (by omega) fun j HA j0 j1 sA uA => ?_
    obtain ⟨lp, ps, hat, hps, ha, hs, hn⟩ : ∃ (lp : Addr) (ps : List (Int × Int)), atI [V.ref l2, V.ref l4, V.ref l7, V.ref l9, V.ref l12, V.ref l13, V.ref l15, V.ref l17, V.ref l19, V.ref l22, V.ref l24] j = some (V.ref lp) ∧ PrL (rm a HA) lp ps ∧ Asc 0 ps ∧ Small ps ∧ num ps ≤ 12 := by
      have cj : j = 0 ∨ j = 1 ∨ j = 2 ∨ j = 3 ∨ j = 4 ∨ j = 5 ∨ j = 6 ∨ j = 7 ∨ j = 8 ∨ j = 9 ∨ j = 10 := by omega
      rcases cj with rfl | rfl | rfl | rfl | rfl | rfl | rfl | rfl | rfl | rfl | rfl
      · exact ⟨l2, [(2, 3)], atI_nat (j := 0) rfl, by walk_at "hp", by simp [Asc] <;> decide, ⟨by simp, by simp⟩, by decide⟩
      · exact ⟨l4, [(3, 2)], atI_nat (j := 1) rfl, by walk_at "hp", by simp [Asc] <;> decide, ⟨by simp, by simp⟩, by decide⟩
      · exact ⟨l7, [(2, 1), (3, 1)], atI_nat (j := 2) rfl, by walk_at "hp", by simp [Asc] <;> decide, ⟨by simp, by simp⟩, by decide⟩
      · exact ⟨l9, [(5, 1)], atI_nat (j := 3) rfl, by walk_at "hp", by simp [Asc] <;> decide, ⟨by simp, by simp⟩, by decide⟩
      · exact ⟨l12, [(2, 2), (3, 1)], atI_nat (j := 4) rfl, by walk_at "hp", by simp [Asc] <;> decide, ⟨by simp, by simp⟩, by decide⟩
      · exact ⟨l13, [], atI_nat (j := 5) rfl, by walk_at "hp", by simp [Asc] <;> decide, ⟨by simp, by simp⟩, by decide⟩
      · exact ⟨l15, [(2, 2)], atI_nat (j := 6) rfl, by walk_at "hp", by simp [Asc] <;> decide, ⟨by simp, by simp⟩, by decide⟩
      · exact ⟨l17, [(7, 1)], atI_nat (j := 7) rfl, by walk_at "hp", by simp [Asc] <;> decide, ⟨by simp, by simp⟩, by decide⟩
      · exact ⟨l19, [(2, 1)], atI_nat (j := 8) rfl, by walk_at "hp", by simp [Asc] <;> decide, ⟨by simp, by simp⟩, by decide⟩
      · exact ⟨l22, [(11, 1)], atI_nat (j := 9) rfl, by walk_at "hp", by simp [Asc] <;> decide, ⟨by simp, by simp⟩, by decide⟩
      · exact ⟨l24, [(3, 1)], atI_nat (j := 10) rfl, by walk_at "hp", by simp [Asc] <;> decide, ⟨by simp, by simp⟩, by decide⟩
    refine w_ixL (by walk_at "hp") hat ?_
    have SA : Same (rm a H) (rm a HA) := by walk_at "same"
    clear hat q2 q4 q7 q9 q12 q13 q15 q17 q19 q22 q24 s1 s2 s3 s4 s5 s6 s7 s8 s9 s10 s11 s12 s13 s14 s15 s16 s17 s18 s19 s20 s21 s22 s23 s24 s25 s26 hL20 hL25 hL26 sA u0 u1 u2 u3 u4 u5 u6 u7 u8 u9 u10 u11 u12 u13 u14 u15 u16 u17 u18 u19 u20 u21 u22 u23 u24 u25 u26
    walk_at "go"
    refine use_modR uA (by walk_at "hp") ha hs fun m1 HB sB uB hmd => ?_
    walk_at "go"
    refine use_styleR uB (by omega) fun g HC y sC uC hg hy => ?_
    walk_at "go"
    refine use_drawR uC (by decide) (by decide) (by omega) fun b HD b0 b1 sD uD => ?_
    walk_at "go"
    refine ⟨rfl, rfl, use_mk fun kg HE _ sE hk => ?_⟩
    have uE := uD.same sE
    have hk := hk.rm uE
    have sE := sE.rm (a := a)
    walk_at "go"
    refine use_wayR uE (y := ⟨lw, y.shift, y.lead⟩) (by walk_at "hp") (by walk_at "hp") fun xw HF sF uF hwF => ?_
    walk_at "go"
    exact q xw _ _ _ HF (by walk_at "same") (uF.le (by omega)) hwF rfl hn
noncomputable abbrev s_caught : Stmt := (top 46)
theorem sc_caught : FnScope ["_law_first_here", "_law_second", "_law_many", "_law_caught_here", "error"] ["_law_first_here", "_law_second", "_law_many"] (defScope s_caught) :=
  ⟨rfl, rfl, rfl, by decide +kernel, rfl, by decide +kernel, by decide +kernel⟩
theorem ok_caught {c : CA} {Ci Cs Cu : Addr} (F : Dn K mg "_law_caught" s_caught ["_law_first_here", "_law_second", "_law_many"]) (T : Bt mg) (e_invway : ErrC K mg "InvalidWay" Ci "thing") (e_invst : ErrC K mg "InvalidStock" Cs "stock") (e_unlike : Err0 K mg "UnlikeMarkings" Cu) (ns : PySem.W.exmOne K (.ref Cs) (.ref Ci) = some false) (nu : PySem.W.exmOne K (.ref Cu) (.ref Ci) = some false) (nus : PySem.W.exmOne K (.ref Cu) (.ref Cs) = some false) (c_mpair : CalX P w K mg base 5 "missed_pair" (spMissedX K c Ci Cs Cu) []) :
    Cal P w K mg base 6 "_law_caught" (spCaught73 K c) [] := by
  refine F.cal sc_caught (fun vs H Q E h => ?_) (fun f cdv A outer s H vs Q E hr h => ?_)
  · obtain ⟨v, u, z, rfl, _⟩ := h
    rfl
  · obtain ⟨v, u, z, rfl, h⟩ := h
    refine ⟨_, (pss_cons (ps_set (i := 3) sc_caught.nd rfl (Or.inl rfl) pe_non)
      (pss_cons (ps_try_cls rfl rfl takes0 (fun W pn xe tk po => (pss_one (ps_expr (pe_cX c_mpair hr (by decide) (by rfl) tk (pa_cons (pv 0) (pa_cons (pv 1) (pa_cons (pv 2) pa_nil)))))))
      (ClsOk.as (i := 4) sc_caught.nd rfl rfl ⟨rfl, by decide, .inl e_invway.gC⟩ (fun a oe cls d pn hz hf => (pss_one (ps_set (i := 3) sc_caught.nd rfl (Or.inl rfl) (pe_lst (pa_cons pe_str (pa_cons (pe_xf e_invway.xf e_invway.no hz hf (pv 4)) pa_nil))))))
      (ClsOk.as (i := 4) sc_caught.nd rfl rfl ⟨rfl, by decide, .inl e_invst.gC⟩ (fun a oe cls d pn hz hf => (pss_one (ps_set (i := 3) sc_caught.nd rfl (Or.inl rfl) (pe_lst (pa_cons pe_str (pa_cons (pe_xf e_invst.xf e_invst.no hz hf (pv 4)) pa_nil))))))
      (ClsOk.no ⟨rfl, by decide, .inl e_unlike.gC⟩ (fun a oe cls d pn hz hf => (pss_one (ps_set (i := 3) sc_caught.nd rfl (Or.inl rfl) (pe_lst (pa_cons pe_str pa_nil)))))
      ClsOk.nil))))
      (pss_one (ps_ret (pv 3))))), ?_⟩
    walk_at "go"
    rcases h with ⟨hv, q⟩ | ⟨x, b, ps, y, rfl, hw, hu, q⟩ | ⟨x, x', b, b', ps, ps', y, y', rfl, rfl, hw, hw', hz, q⟩ | ⟨x, x', b, b', ps, ps', y, y', A0, rfl, rfl, rfl, hw, hw', A1, hl, q⟩
    · refine ⟨v, u, z, rfl, .inl ⟨hv, fun d H1 n1 s1 h1 => ?_⟩⟩
      refine w_clsA e_invway.te fun a na => ?_
      walk_at "go"
      refine w_xfi h1 ?_
      walk_at "go"
      refine al fun p H2 n2 s2 h2 => ?_
      walk_at "go"
      exact q p H2 (s1.free n2) (s1.trans s2) h2
    · refine ⟨.ref x, u, z, rfl, .inr (.inl ⟨x, b, ps, y, rfl, hw, hu, fun d H1 n1 s1 h1 => ?_⟩)⟩
      refine w_clsA e_invway.te fun a na => ?_
      walk_at "go"
      refine w_xfi h1 ?_
      walk_at "go"
      refine al fun p H2 n2 s2 h2 => ?_
      walk_at "go"
      exact q p H2 (s1.free n2) (s1.trans s2) h2
    · refine ⟨.ref x, .ref x', z, rfl, .inr (.inr ⟨x, x', b, b', ps, ps', y, y', rfl, rfl, hw, hw', .inl ⟨hz, fun d H1 n1 s1 h1 => ?_⟩⟩)⟩
      refine w_cls0 ns (w_clsA e_invst.te fun a na => ?_)
      walk_at "go"
      refine w_xfi h1 ?_
      walk_at "go"
      refine al fun p H2 n2 s2 h2 => ?_
      walk_at "go"
      exact q p H2 (s1.free n2) (s1.trans s2) h2
    · refine ⟨.ref x, .ref x', .int A0, rfl, .inr (.inr ⟨x, x', b, b', ps, ps', y, y', rfl, rfl, hw, hw', .inr ⟨A0, rfl, A1, fun _ => ?_, fun e => absurd e hl⟩⟩)⟩
      refine w_cls0 nu (w_cls0 nus (w_clsN e_unlike.te fun a na => ?_))
      walk_at "go"
      refine al fun p H2 n2 s2 h2 => ?_
      walk_at "go"
      exact q p H2 n2 s2 h2
noncomputable abbrev s_doors : Stmt := (top 47)
theorem sc_doors : FnScope ["_law_purse_here", "_law_first_here", "_law_second", "_law_far", "_law_odd", "_law_less", "_law_told", "_law_due"] ["_law_purse_here", "_law_first_here", "_law_second"] (defScope s_doors) :=
  ⟨rfl, rfl, rfl, by decide +kernel, rfl, by decide +kernel, by decide +kernel⟩
theorem ok_doors {c : CA} (F : Dn K mg "_law_doors_right" s_doors ["_law_purse_here", "_law_first_here", "_law_second"]) (T : Bt mg) (X : Kx K mg c) (nw : NoW K c) (c_draw : Cal P w K mg base 2 "_law_draw" spDraw []) (c_way3 : Mak P w K mg base 5 "Way" c.wy (spWayInit c) []) (c_mk1 : MakK P w K mg base 2 "Marking" c.kg ["low"] (spMkInit c) (fun vs zs => vs ++ zs ++ [.int 0, .bl false])) (c_caught : Cal P w K mg base 6 "_law_caught" (spCaught73 K c) []) : Cal P w K mg base 7 "_law_doors_right" (spDoors73 c) [] := by
  refine F.cal sc_doors (fun vs H Q E h => ?_) (fun f cdv A outer s H vs Q E hr h => ?_)
  · obtain ⟨a, x, x', b, b', c, ps, ps', y, y', rfl, _⟩ := h
    rfl
  · obtain ⟨a, x, x', b, b', cc, ps, ps', y, y', rfl, hc, u0, hw, hw', q⟩ := h
    refine ⟨_, (pss_cons (ps_set (i := 3) sc_doors.nd rfl (Or.inl rfl) (pe_mk c_way3 hr (by decide) (by rfl) (pa_cons (pe_fld (pv 1) rfl) (pa_cons (pe_fld (pv 1) rfl) (pa_cons (pe_mkK0 c_mk1 hr (by decide) (by rfl) (pk_cons (pe_not (pe_fld (pe_fld (pv 1) rfl) rfl)) pk_nil)) pa_nil)))))
      (pss_cons (ps_set (i := 4) sc_doors.nd rfl (Or.inl rfl) (pe_ix ix_list (pe_lst (pa_cons pe_non (pa_cons pe_int (pa_cons pe_str (pa_cons (pe_fld (pv 1) rfl) (pa_cons (pe_lst (pa_cons (pv 1) pa_nil)) (pa_cons pe_dnewK (pa_cons pe_bl pa_nil)))))))) (pe_c c_draw hr (by decide) (by rfl) (pa_cons (pv 0) (pa_cons pe_int pa_nil))) (fun _ _ => rfl)))
      (pss_cons (ps_set (i := 5) sc_doors.nd rfl (Or.inl rfl) (pe_ix ix_list (pe_lst (pa_cons pe_int (pa_cons (pe_un un_neg pe_int) (pa_cons pe_non (pa_cons pe_bl (pa_cons pe_str (pa_cons (pe_tup (pa_cons pe_int pa_nil)) pa_nil))))))) (pe_c c_draw hr (by decide) (by rfl) (pa_cons (pv 0) (pa_cons pe_int pa_nil))) (fun _ _ => rfl)))
      (pss_cons (ps_set (i := 6) sc_doors.nd rfl (Or.inl rfl) (pe_lst (pa_cons (pe_c c_caught hr (by decide) (by rfl) (pa_cons (pv 4) (pa_cons pe_non (pa_cons (pv 5) pa_nil)))) (pa_cons (pe_c c_caught hr (by decide) (by rfl) (pa_cons (pv 1) (pa_cons (pv 4) (pa_cons (pv 5) pa_nil)))) (pa_cons (pe_c c_caught hr (by decide) (by rfl) (pa_cons (pv 1) (pa_cons (pv 3) (pa_cons (pv 5) pa_nil)))) pa_nil)))))
      (pss_cons (ps_set (i := 6) sc_doors.nd rfl (Or.inl rfl) (pe_op op_cat (pv 6) (pe_lst (pa_cons (pe_c c_caught hr (by decide) (by rfl) (pa_cons (pv 1) (pa_cons (pv 3) (pa_cons pe_int pa_nil)))) (pa_cons (pe_c c_caught hr (by decide) (by rfl) (pa_cons (pv 3) (pa_cons (pv 1) (pa_cons pe_int pa_nil)))) pa_nil)))))
      (pss_cons (ps_set (i := 6) sc_doors.nd rfl (Or.inl rfl) (pe_op op_cat (pv 6) (pe_lst (pa_cons (pe_c c_caught hr (by decide) (by rfl) (pa_cons (pv 1) (pa_cons (pv 1) (pa_cons (pv 5) pa_nil)))) (pa_cons (pe_c c_caught hr (by decide) (by rfl) (pa_cons (pv 1) (pa_cons (pv 2) (pa_cons (pv 5) pa_nil)))) pa_nil)))))
      (pss_cons (ps_set (i := 7) sc_doors.nd rfl (Or.inl rfl) (pe_lst (pa_cons (pe_lst (pa_cons pe_str (pa_cons (pv 4) pa_nil))) (pa_cons (pe_lst (pa_cons pe_str (pa_cons (pv 4) pa_nil))) (pa_cons (pe_lst (pa_cons pe_str (pa_cons (pv 5) pa_nil))) (pa_cons (pe_lst (pa_cons pe_str pa_nil)) (pa_cons (pe_lst (pa_cons pe_str pa_nil)) pa_nil)))))))
      (pss_one (ps_ret (pe_cmpR (op_eqA hr.units) (pv 6) (pe_op op_cat (pv 7) (pe_op op_rep (pe_lst (pa_cons (pe_lst (pa_cons pe_str (pa_cons (pv 5) pa_nil))) pa_nil)) pe_int)) (nomark _))))))))))), ?_⟩
    walk_at "go"
    rename_i m0 hm0
    refine ⟨rfl, rfl, use_mk fun kg H1 _ s1 hk => ?_⟩
    have u1 := u0.same s1
    have hk := hk.rm u1
    have s1 := s1.rm (a := a)
    have hm0 := (hm0.rm u0).same s1
    walk_at "go"
    refine use_wayR u1 (y := ⟨!y.low, 0, false⟩) (by walk_at "hp") (by walk_at "hp") fun xf H2 s2 u2 hwf => ?_
    walk_at "go"
    rename_i m4 hm4
    have hm4 := hm4.rm u2
    refine alR u2 fun lw H5 s5 u5 hlw _ => ?_
    walk_at "go"
    refine alR u5 fun dd H6 s6 u6 hdd _ => ?_
    walk_at "go"
    refine alR u6 fun lo H7 s7 u7 hlo _ => ?_
    walk_at "go"
    refine use_drawR u7 (by decide) (by decide) (by omega) fun j H8 j0 j1 s8 u8 => ?_
    obtain ⟨v, hat, hpv, hodd⟩ : ∃ v : V, atI [V.non, .int 3, .str "way", .ref m4, .ref lw, .ref dd, .bl true] j = some v ∧ plainV v = true ∧ ∀ G : Hp, Same (rm a H8) G → NoWy K c G v := by
      have cj : j = 0 ∨ j = 1 ∨ j = 2 ∨ j = 3 ∨ j = 4 ∨ j = 5 ∨ j = 6 := by omega
      rcases cj with rfl | rfl | rfl | rfl | rfl | rfl | rfl
      · exact ⟨_, atI_nat (j := 0) rfl, rfl, fun G _ => ⟨_, .base .non, nw.non⟩⟩
      · exact ⟨_, atI_nat (j := 1) rfl, rfl, fun G _ => ⟨_, .base (.int _), nw.int⟩⟩
      · exact ⟨_, atI_nat (j := 2) rfl, rfl, fun G _ => ⟨_, .base (.str _), nw.str⟩⟩
      · obtain ⟨dx, t2, ts, h1, _⟩ := id hm4
        have h1 := hpL h1 (show Same _ (rm a H8) by walk_at "same")
        exact ⟨_, atI_nat (j := 3) rfl, rfl, fun G sG => ⟨_, X.md.ty (sG _ _ h1), nw.md⟩⟩
      · have h1 := hpL hlw (show Same _ (rm a H8) by walk_at "same")
        exact ⟨_, atI_nat (j := 4) rfl, rfl, fun G sG => ⟨_, .base (.lst (sG _ _ h1)), nw.lst⟩⟩
      · have h1 := hpL hdd (show Same _ (rm a H8) by walk_at "same")
        exact ⟨_, atI_nat (j := 5) rfl, rfl, fun G sG => ⟨_, .base (.dK (sG _ _ h1)), nw.dct⟩⟩
      · exact ⟨_, atI_nat (j := 6) rfl, rfl, fun G _ => ⟨_, .base (.bl _), nw.bl⟩⟩
    refine w_ixL (by walk_at "hp") hat ?_
    walk_at "go"
    refine alR u8 fun t9 H9 s9 u9 ht9 _ => ?_
    walk_at "go"
    refine alR u9 fun l10 H10 s10 u10 hl10 _ => ?_
    walk_at "go"
    refine use_drawR u10 (by decide) (by decide) (by omega) fun j2 H11 j20 j21 s11 u11 => ?_
    obtain ⟨z, hat2, hpz, hst⟩ : ∃ z : V, atI [V.int 0, .int (-1), .non, .bl true, .str "2", .ref t9] j2 = some z ∧ plainV z = true ∧ ∀ G : Hp, Same (rm a H11) G → StB K G z := by
      have cj : j2 = 0 ∨ j2 = 1 ∨ j2 = 2 ∨ j2 = 3 ∨ j2 = 4 ∨ j2 = 5 := by omega
      rcases cj with rfl | rfl | rfl | rfl | rfl | rfl
      · exact ⟨_, atI_nat (j := 0) rfl, rfl, fun G _ => .int 0 (by decide)⟩
      · exact ⟨_, atI_nat (j := 1) rfl, rfl, fun G _ => .int (-1) (by decide)⟩
      · exact ⟨_, atI_nat (j := 2) rfl, rfl, fun G _ => .oth ⟨_, false, false, .base .non, kit_ty (by decide +kernel), kit_ty (by decide +kernel), rfl⟩⟩
      · exact ⟨_, atI_nat (j := 3) rfl, rfl, fun G _ => .oth ⟨_, true, true, .base (.bl _), kit_ty (by decide +kernel), kit_ty (by decide +kernel), rfl⟩⟩
      · exact ⟨_, atI_nat (j := 4) rfl, rfl, fun G _ => .oth ⟨_, false, false, .base (.str _), kit_ty (by decide +kernel), kit_ty (by decide +kernel), rfl⟩⟩
      · have h1 := hpL ht9 (show Same _ (rm a H11) by walk_at "same")
        exact ⟨_, atI_nat (j := 5) rfl, rfl, fun G sG => .oth ⟨_, false, false, .base (.tup (sG _ _ h1)), kit_ty (by decide +kernel), kit_ty (by decide +kernel), rfl⟩⟩
    refine w_ixL (by walk_at "hp") hat2 ?_
    have S11 : Same (rm a H) (rm a H11) := by walk_at "same"
    have S8 : Same (rm a H8) (rm a H11) := by
      clear S11
      walk_at "same"
    have hwf := hwf.same (show Same (rm a H2) (rm a H11) by
      clear S11 S8
      walk_at "same")
    have hw := hw.same S11
    have hw' := hw'.same S11
    have hodd := fun G (sG : Same (rm a H11) G) => hodd G (S8.trans sG)
    have hlf : y.low ≠ (⟨!y.low, 0, false⟩ : Sty).low := fun e => by cases hy : y.low <;> rw [hy] at e <;> cases e
    have hlf' : (⟨!y.low, 0, false⟩ : Sty).low ≠ y.low := fun e => hlf e.symm
    clear s1 s2 s5 s6 s7 s8 s9 s10 s11 u0 u1 u2 u5 u6 u7 u8 u9 u10 hm4 hm0 hk hlw hdd hlo ht9 hl10 hat hat2 S8
    walk_at "go"
    refine ⟨_, _, _, rfl, .inl ⟨(hodd _ (show Same (rm a H11) H11 by walk_at "same")), fun p12 H12 n12 s12 hp12 => ?_⟩⟩
    have u12 := u11.same s12
    have hp12 := rm_of (u11.fresh n12) hp12
    have s12 := s12.rm (a := a)
    walk_at "go"
    refine ⟨_, _, _, rfl, .inr (.inl ⟨x, b, ps, y, rfl, (show WayAt c H12 _ _ _ _ from hw.same (show Same (rm a H11) H12 by walk_at "same")), (hodd _ (show Same (rm a H11) H12 by walk_at "same")), fun p13 H13 n13 s13 hp13 => ?_⟩)⟩
    have u13 := u12.same s13
    have hp13 := rm_of (u12.fresh n13) hp13
    have s13 := s13.rm (a := a)
    walk_at "go"
    refine ⟨_, _, _, rfl, .inr (.inr (.inl ⟨x, xf, b, _, ps, ps, y, _, rfl, rfl, (show WayAt c H13 _ _ _ _ from hw.same (show Same (rm a H11) H13 by walk_at "same")), (show WayAt c H13 _ _ _ _ from hwf.same (show Same (rm a H11) H13 by walk_at "same")), (hst _ (show Same (rm a H11) H13 by walk_at "same")), fun p14 H14 n14 s14 hp14 => ?_⟩))⟩
    have u14 := u13.same s14
    have hp14 := rm_of (u13.fresh n14) hp14
    have s14 := s14.rm (a := a)
    walk_at "go"
    refine alR u14 fun q1 H15 s15 u15 hq1 _ => ?_
    walk_at "go"
    refine ⟨_, _, _, rfl, .inr (.inr (.inr ⟨x, xf, b, _, ps, ps, y, _, 2, rfl, rfl, rfl, (show WayAt c H15 _ _ _ _ from hw.same (show Same (rm a H11) H15 by walk_at "same")), (show WayAt c H15 _ _ _ _ from hwf.same (show Same (rm a H11) H15 by walk_at "same")), by decide, hlf, fun p16 H16 n16 s16 hp16 => ?_⟩))⟩
    have u16 := u15.same s16
    have hp16 := rm_of (u15.fresh n16) hp16
    have s16 := s16.rm (a := a)
    walk_at "go"
    refine ⟨_, _, _, rfl, .inr (.inr (.inr ⟨xf, x, _, b, ps, ps, _, y, 1, rfl, rfl, rfl, (show WayAt c H16 _ _ _ _ from hwf.same (show Same (rm a H11) H16 by walk_at "same")), (show WayAt c H16 _ _ _ _ from hw.same (show Same (rm a H11) H16 by walk_at "same")), by decide, hlf', fun p17 H17 n17 s17 hp17 => ?_⟩))⟩
    have u17 := u16.same s17
    have hp17 := rm_of (u16.fresh n17) hp17
    have s17 := s17.rm (a := a)
    walk_at "go"
    refine alR u17 fun q2 H18 s18 u18 hq2 _ => ?_
    walk_at "go"
    refine w_cat (xs := [.ref p12, .ref p13, .ref p14]) (ys := [.ref p16, .ref p17]) (by walk_at "hp") (by walk_at "hp") (by show 5 ≤ sizeLine; decide) (alR u18 fun q3 H19 s19 u19 hq3 _ => ?_)
    simp only [List.cons_append, List.nil_append] at hq3
    walk_at "go"
    refine ⟨_, _, _, rfl, .inr (.inr (.inl ⟨x, x, b, b, ps, ps, y, y, rfl, rfl, (show WayAt c H19 _ _ _ _ from hw.same (show Same (rm a H11) H19 by walk_at "same")), (show WayAt c H19 _ _ _ _ from hw.same (show Same (rm a H11) H19 by walk_at "same")), (hst _ (show Same (rm a H11) H19 by walk_at "same")), fun p20 H20 n20 s20 hp20 => ?_⟩))⟩
    have u20 := u19.same s20
    have hp20 := rm_of (u19.fresh n20) hp20
    have s20 := s20.rm (a := a)
    walk_at "go"
    refine ⟨_, _, _, rfl, .inr (.inr (.inl ⟨x, x', b, b', ps, ps', y, y', rfl, rfl, (show WayAt c H20 _ _ _ _ from hw.same (show Same (rm a H11) H20 by walk_at "same")), (show WayAt c H20 _ _ _ _ from hw'.same (show Same (rm a H11) H20 by walk_at "same")), (hst _ (show Same (rm a H11) H20 by walk_at "same")), fun p21 H21 n21 s21 hp21 => ?_⟩))⟩
    have u21 := u20.same s21
    have hp21 := rm_of (u20.fresh n21) hp21
    have s21 := s21.rm (a := a)
    walk_at "go"
    refine alR u21 fun q4 H22 s22 u22 hq4 _ => ?_
    walk_at "go"
    refine w_cat (xs := [.ref p12, .ref p13, .ref p14, .ref p16, .ref p17]) (ys := [.ref p20, .ref p21]) (by walk_at "hp") (by walk_at "hp") (by show 7 ≤ sizeLine; decide) (alR u22 fun q5 H23 s23 u23 hq5 _ => ?_)
    simp only [List.cons_append, List.nil_append] at hq5
    walk_at "go"
    refine alR u23 fun d1 H24 s24 u24 hd1 _ => ?_
    walk_at "go"
    refine alR u24 fun d2 H25 s25 u25 hd2 _ => ?_
    walk_at "go"
    refine alR u25 fun d3 H26 s26 u26 hd3 _ => ?_
    walk_at "go"
    refine alR u26 fun d4 H27 s27 u27 hd4 _ => ?_
    walk_at "go"
    refine alR u27 fun d5 H28 s28 u28 hd5 _ => ?_
    walk_at "go"
    refine alR u28 fun d6 H29 s29 u29 hd6 _ => ?_
    walk_at "go"
    refine alR u29 fun e1 H30 s30 u30 he1 _ => ?_
    walk_at "go"
    refine alR u30 fun e2 H31 s31 u31 he2 _ => ?_
    walk_at "go"
    refine w_rep (xs := [.ref e1]) (rm_le _ _ he2) ⟨by decide, by decide, (show 2 ≤ sizeLine by decide)⟩ (alR u31 fun e3 H32 s32 u32 he3 _ => ?_)
    have he3 : rm a H32 e3 = some (.lst [.ref e1, .ref e1]) := he3
    walk_at "go"
    refine w_cat (xs := [.ref d1, .ref d2, .ref d3, .ref d4, .ref d5]) (ys := [.ref e1, .ref e1]) (by walk_at "hp") (by walk_at "hp") (by show 7 ≤ sizeLine; decide) (alR u32 fun d7 H33 s33 u33 hd7 _ => ?_)
    simp only [List.cons_append, List.nil_append] at hd7
    walk_at "go"
    have U := u33
    have fin : ∀ {r q2 : Addr} {xs : List V}, rm a H33 r = some (.lst xs) → rm a H33 q2 = some (.lst xs) → (∀ v ∈ xs, plainV v = true) → Alk K H33 1 (.ref r) (.ref q2) := fun {r q2 xs} h g hx => .inr ⟨_, q2, xs, xs, rfl, rfl, sq (rm_le _ _ h), sq (rm_le _ _ g), by
      clear h g
      induction xs with
      | nil => exact .nil
      | cons z zs ih => exact .cons ⟨rfl, hx z (by simp)⟩ (ih fun v hv => hx v (by simp [hv]))⟩
    have px : ∀ {s0 : Str} {v : V}, plainV v = true → ∀ u ∈ ([.str s0, v] : List V), plainV u = true := fun h u hu => by
      rcases List.mem_cons.mp hu with e | e
      · rw [e]
        rfl
      · rw [List.mem_singleton.mp e]
        exact h
    have pu : ∀ u ∈ ([.str "unlike"] : List V), plainV u = true := fun u hu => by
      rw [List.mem_singleton.mp hu]
      rfl
    refine w_eqA (rm_le _ _ (by walk_at "hp")) (rm_le _ _ (by walk_at "hp")) (.cons (fin (by walk_at "hp") (by walk_at "hp") (px hpv)) (.cons (fin (by walk_at "hp") (by walk_at "hp") (px hpv)) (.cons (fin (by walk_at "hp") (by walk_at "hp") (px hpz)) (.cons (fin (by walk_at "hp") (by walk_at "hp") (pu)) (.cons (fin (by walk_at "hp") (by walk_at "hp") (pu)) (.cons (fin (by walk_at "hp") (by walk_at "hp") (px hpz)) (.cons (fin (by walk_at "hp") (by walk_at "hp") (px hpz)) (.nil)))))))) ?_
    exact q _ (by walk_at "same") (U.le (by omega))
noncomputable abbrev s_fewest : Stmt := (top 48)
theorem sc_fewest : FnScope ["_law_first_here", "_law_second", "_law_many", "_law_found", "_law_longer_by", "_law_later", "_law_here", "_law_there", "_law_step", "_law_near"] ["_law_first_here", "_law_second", "_law_many"] (defScope s_fewest) :=
  ⟨rfl, rfl, rfl, by decide +kernel, rfl, by decide +kernel, by decide +kernel⟩
theorem ok_fewest {c : CA} (F : Dn K mg "_law_fewest" s_fewest ["_law_first_here", "_law_second", "_law_many"]) (T : Bt mg) (X : Kx K mg c) : Cal P w K mg base 1 "_law_fewest" (spFewest c) [] := by
  refine F.cal sc_fewest (fun vs H Q E h => ?_) (fun f cdv A' outer s H vs Q E hr h => ?_)
  · obtain ⟨x, x', b, b', ps, ps', y, y', A, rfl, _⟩ := h
    rfl
  · obtain ⟨x, x', b, b', ps, ps', y, y', A, rfl, hw, hNN, A1, A2, qn, qm⟩ := h
    have hN1 := hw.one.pos
    have hN2 := hw.two.pos
    obtain ⟨hw1, hw2, hn1, hn2⟩ := id hw
    obtain ⟨_, _, _, _, _, _, hb1, hb1'⟩ := id hw1
    obtain ⟨_, _, _, _, _, _, hb2, hb2'⟩ := id hw2
    have hszl : (100000 : Nat) < sizeLine := by decide
    refine ⟨_, (pss_cons (ps_set (i := 3) sc_fewest.nd rfl (Or.inl rfl) (pe_disp1 hr.units (pe_tup (pa_cons pe_int (pa_cons pe_int pa_nil))) pe_bl))
      (pss_cons (ps_for PassesOwn.never rfl (pi_range2 (by rfl) T.range (pa_cons pe_int (pa_cons (pe_op op_add (pe_fld (pv 0) rfl) pe_int) pa_nil))) (pg_name (i := 4) sc_fewest.nd rfl (Or.inl rfl)) (pss_cons (ps_set (i := 5) sc_fewest.nd rfl (Or.inl rfl) pe_dnewT)
      (pss_cons (ps_lock (ps_for PassesOwn.never rfl (pi_keys (pv 3)) (pg_tup rfl (pgs_cons (pg_name (i := 6) sc_fewest.nd rfl (Or.inl rfl)) (pgs_cons (pg_name (i := 7) sc_fewest.nd rfl (Or.inl rfl)) pgs_nil))) (pss_one (ps_for PassesOwn.never rfl (pi_range2 (by rfl) T.range (pa_cons (pe_op op_sub pe_int (pv 2)) (pa_cons (pv 2) pa_nil))) (pg_name (i := 8) sc_fewest.nd rfl (Or.inl rfl)) (pss_cons (ps_set (i := 9) sc_fewest.nd rfl (Or.inl rfl) (pe_op op_mod (pe_op op_add (pe_op oMul (pv 6) (pe_fld (pv 0) rfl)) (pv 8)) (pe_fld (pv 0) rfl)))
      (pss_one (ps_asg pe_bl (pg_sub (pv 5) (pe_tup (pa_cons (pv 9) (pa_cons (pe_op op_mod (pe_op op_add (pe_op oMul (pv 7) (pe_fld (pv 1) rfl)) (pv 8)) (pe_fld (pv 1) rfl)) pa_nil))) (set_dict (u66 hr))))))))))
      (pss_cons (ps_if (pt_cmpR (op_neE hr.units) (pe_lock (pe_lc (own := [("_law_here", 6), ("_law_there", 7)]) (g := gTup _ 2 (gCons (gName 6) (gCons (gName 7) gNil))) (tt := (tAnd (tTest (tOp _ (tVar 6) _)) (tTest (tOp _ (tVar 7) _)))) (te := _) rfl sc_fewest.nd (pi_keys (pv 5)) (blkOk_by (own := [("_law_here", 6), ("_law_there", 7)]) (N := ["_law_first_here", "_law_second", "_law_many", "_law_found", "_law_longer_by", "_law_later", "_law_here", "_law_there", "_law_step", "_law_near"]) (sc := defScope s_fewest) (by decide +kernel)) (fun _ _ _ _ _ => (pg_tup rfl (pgs_cons (pg_name (i := 6) sc_fewest.nd rfl (Or.inl rfl)) (pgs_cons (pg_name (i := 7) sc_fewest.nd rfl (Or.inl rfl)) pgs_nil)))) (fun _ _ _ _ _ => (pts_one (PW.pt (pw_and (pt_cmpR op_eq (pv 6) pe_int (nomark _)) (pw_and1 (pt_cmpR op_ne (pv 7) pe_int (nomark _))))))) (fun _ _ _ _ _ => pe_int))) (pe_lst pa_nil) (nomark _)) (pss_one (ps_ret (pv 4))) pss_nil)
      (pss_one (ps_set (i := 3) sc_fewest.nd rfl (Or.inl rfl) (pv 5)))))))
      (pss_one (ps_ret pe_non)))), ?_⟩
    walk_at "go"
    intro d0 nd0
    have s0 : Same H (upd H d0 (.dT [])) := Same.new nd0
    have h0 : (upd H d0 (.dT [])) d0 = some (.dT []) := upd_same
    generalize upd H d0 (.dT []) = H0 at s0 h0
    walk_at "go"
    refine al fun t0 H1 n1 s1 h1 => ?_
    walk_at "go"
    refine ⟨t0, pk (0, 0), rfl, s1 _ _ h0, h1, ?_⟩
    have s2 : Same H (upd H1 d0 (.dT [(pk (0, 0), .bl true)])) := same_up nd0 (s0.trans s1)
    have h2 : DpP (upd H1 d0 (.dT [(pk (0, 0), .bl true)])) d0 [(0, 0)] := upd_same
    generalize upd H1 d0 (.dT [(pk (0, 0), .bl true)]) = H2 at s2 h2
    have hw1' := hw1.same s2
    walk_at "go"
    rw [show (num ps + 1 - 1).toNat = (num ps).toNat by omega]
    refine for_range (lo := 1) (n := (num ps).toNat) (fun i σ H' => ∃ (v4 v5 v6 v7 v8 v9 : Option V) (d : Addr) (ks : List (Int × Int)), σ = [some (.ref x), some (.ref x'), some (.int (A : Int)), some (.ref d), v4, v5, v6, v7, v8, v9] ∧ Same H H' ∧ H d = none ∧ DpP H' d ks ∧ ks.Nodup ∧ (∀ p, p ∈ ks ↔ RL b (num ps) b' (num ps') A i p) ∧ ∀ j, j ≤ i → ∀ p, RL b (num ps) b' (num ps') A j p → ¬ Msd p)
      ⟨_, _, _, _, _, _, d0, [(0, 0)], rfl, s2, nd0, h2, by simp, fun p => by rw [List.mem_singleton, RL_zero], fun j hj p hp hm => by
        rw [show j = 0 by omega, RL_zero] at hp
        rw [hp] at hm
        exact hm.2 rfl⟩ ?_ ?_
    · rintro i σ H3 hi ⟨v4, v5, v6, v7, v8, v9, d, ks, rfl, s3, nd, hd3, hkn, hks, hno⟩
      walk_at "go"
      refine w_dnewT fun D nD => ?_
      have nHD : H D = none := s3.free nD
      have nDd : D ≠ d := ne_of_none' hd3 nD
      have s4 : Same H (upd H3 D (.dT [])) := s3.trans (Same.new nD)
      have hD4 : DpP (upd H3 D (.dT [])) D [] := upd_same
      have hd4 : DpP (upd H3 D (.dT [])) d ks := by
        show upd H3 D _ d = _
        rw [upd_ne nDd.symm]
        exact hd3
      generalize upd H3 D (.dT []) = H4 at s4 hD4 hd4
      unfold DpP at hd4
      walk_at "go"
      refine ⟨d, _, hd4, trivial, fun od => ?_⟩
      have s5 : Same H (upd H4 d (.frz od (.dT (ks.map fun p => (pk p, V.bl true))))) := same_up nd s4
      have hd5 : (upd H4 d (.frz od (.dT (ks.map fun p => (pk p, V.bl true))))) d = some (.frz od (.dT (ks.map fun p => (pk p, V.bl true)))) := upd_same
      have hD5 : DpP (upd H4 d (.frz od (.dT (ks.map fun p => (pk p, V.bl true))))) D [] := by
        show upd H4 d _ D = _
        rw [upd_ne nDd]
        exact hD4
      generalize upd H4 d (.frz od (.dT (ks.map fun p => (pk p, V.bl true)))) = H5 at s5 hd5 hD5
      unfold iKeys
      walk_at "go"
      refine ⟨d, od, rfl, .inr ⟨_, hd5, ?_⟩⟩
      refine for_it walk_keysT (fun j σ H' => ∃ (v6 v7 v8 v9 : Option V) (ks' : List (Int × Int)), σ = [some (.ref x), some (.ref x'), some (.int (A : Int)), some (.ref d), some (.int (1 + (i : Int))), some (.ref D), v6, v7, v8, v9] ∧ Same H H' ∧ H' d = some (.frz od (.dT (ks.map fun p => (pk p, V.bl true)))) ∧ DpP H' D ks' ∧ ks'.Nodup ∧ ∀ p, p ∈ ks' ↔ ∃ q ∈ ks.take j, ∃ s ∈ stps A, p = led2 b (num ps) b' (num ps') q s)
        ⟨_, _, _, _, [], rfl, s5, hd5, hD5, List.nodup_nil, fun p => by simp⟩ (fun j σ H' _ z => by
          obtain ⟨_, _, _, _, _, _, _, z, _⟩ := z
          exact z) ?_ ?_
      · rintro j x0 σ H6 H7 hj ⟨v6', v7', v8', v9', ks', rfl, s6, hd6, hD6, hn', hm'⟩ ⟨rfl, k, v, qa, hkv, rfl, hq⟩
        rw [List.getElem?_map] at hkv
        obtain ⟨e, he, hev⟩ := Option.map_eq_some_iff.mp hkv
        cases hev
        have hq : H7 qa = some (.tup [.int e.1, .int e.2]) := hq
        have her := RL_rng hN1 hN2 ((hks e).mp (List.mem_of_getElem? he))
        have tk : ∀ {R : Int × Int → Prop}, (∃ x ∈ ks.take (j + 1), R x) ↔ (∃ x ∈ ks.take j, R x) ∨ R e := fun {R} => by
          rw [List.take_add_one, he]
          constructor
          · rintro ⟨x, hx, h⟩
            rcases List.mem_append.mp hx with z | z
            · exact .inl ⟨x, z, h⟩
            · rw [Option.toList_some, List.mem_singleton] at z
              rw [← z]
              exact .inr h
          · rintro (⟨x, hx, h⟩ | h)
            · exact ⟨x, List.mem_append_left _ hx, h⟩
            · exact ⟨e, by simp, h⟩
        walk_at "go"
        rw [show ((A : Int) - (1 - (A : Int))).toNat = 2 * A - 1 by omega]
        refine for_range (lo := 1 - (A : Int)) (n := 2 * A - 1) (fun jj σ H' => ∃ (v8 v9 : Option V) (ks2 : List (Int × Int)), σ = [some (.ref x), some (.ref x'), some (.int (A : Int)), some (.ref d), some (.int (1 + (i : Int))), some (.ref D), some (.int e.1), some (.int e.2), v8, v9] ∧ Same H H' ∧ H' d = some (.frz od (.dT (ks.map fun p => (pk p, V.bl true)))) ∧ DpP H' D ks2 ∧ ks2.Nodup ∧ ∀ p, p ∈ ks2 ↔ (∃ q ∈ ks.take j, ∃ s ∈ stps A, p = led2 b (num ps) b' (num ps') q s) ∨ ∃ s ∈ (stps A).take jj, p = led2 b (num ps) b' (num ps') e s)
          ⟨_, _, ks', rfl, s6, hd6, hD6, hn', fun p => by rw [hm']; simp⟩ ?_ ?_
        · rintro jj σ H8 hjj ⟨v8'', v9'', ks2, rfl, s8, hd8, hD8, hn2', hm2⟩
          have hs0 : (stps A)[jj]? = some (1 - (A : Int) + (jj : Int)) := by
            unfold stps
            rw [List.getElem?_map, List.getElem?_range (by omega)]
            rfl
          have tk2 : ∀ {R : Int → Prop}, (∃ s ∈ (stps A).take (jj + 1), R s) ↔ (∃ s ∈ (stps A).take jj, R s) ∨ R (1 - (A : Int) + (jj : Int)) := fun {R} => by
            rw [List.take_add_one, hs0]
            constructor
            · rintro ⟨x, hx, h⟩
              rcases List.mem_append.mp hx with z | z
              · exact .inl ⟨x, z, h⟩
              · rw [Option.toList_some, List.mem_singleton] at z
                rw [← z]
                exact .inr h
            · rintro (⟨x, hx, h⟩ | h)
              · exact ⟨x, List.mem_append_left _ hx, h⟩
              · exact ⟨_, by simp, h⟩
          have hm1 : CMx e.1 b := cmx20 (by omega) (by omega)
          have hm4 : CMx e.2 b' := cmx20 (by omega) (by omega)
          have hw8 := hw1.same s8
          have hw8' := hw2.same s8
          walk_at "go"
          refine al fun tq H9 n9 s9 h9 => ?_
          have hD9 : H9 D = some (.dT (ks2.map fun p => (pk p, V.bl true))) := s9 _ _ hD8
          have hd9 := s9 _ _ hd8
          have hSM := s8.trans s9
          walk_at "go"
          obtain ⟨ks4, p1, p2, p3⟩ := dp_put (k := led2 b (num ps) b' (num ps') e (1 - (A : Int) + (jj : Int))) hn2'
          have hin : ∀ p ∈ ks2, (0 ≤ p.1 ∧ p.1 < num ps) ∧ 0 ≤ p.2 ∧ p.2 < num ps' := fun p hp => by
            rcases (hm2 p).mp hp with ⟨x, _, s, _, rfl⟩ | ⟨s, _, rfl⟩ <;> exact led2_rng hN1 hN2
          have hk3 := few_dp hN1 hN2 hNN hn2' hin
          refine w_setDq ⟨D, _, rfl, DPut.t (k := pk (led2 b (num ps) b' (num ps') e (1 - (A : Int) + (jj : Int)))) hD9 (by rw [pk_val]; exact h9) (by rw [List.length_map]; omega), ?_⟩
          rw [p1]
          walk_at "go"
          refine ⟨_, _, ks4, rfl, same_up nHD hSM, by rw [upd_ne nDd.symm]; exact hd9, upd_same, p2, fun p => ?_⟩
          rw [p3, hm2, tk2, or_assoc]
        · rintro σ H8 ⟨v8'', v9'', ks2, rfl, s8, hd8, hD8, hn2', hm2⟩
          rw [show (stps A).take (2 * A - 1) = stps A from List.take_of_length_le (by rw [stps_len]; omega)] at hm2
          walk_at "go"
          exact ⟨_, _, _, _, ks2, rfl, s8, hd8, hD8, hn2', fun p => by rw [hm2, tk]⟩
      · rintro σ H6 ⟨v6', v7', v8', v9', ks', rfl, s6, hd6, hD6, hn', hm'⟩
        rw [List.length_map, List.take_length] at hm'
        refine ⟨hd6, ?_⟩
        have s7 : Same H (upd H6 d (.dT (ks.map fun p => (pk p, V.bl true)))) := same_up nd s6
        have hD7 : DpP (upd H6 d (.dT (ks.map fun p => (pk p, V.bl true)))) D ks' := by
          show upd H6 d _ D = _
          rw [upd_ne nDd]
          exact hD6
        generalize upd H6 d (.dT (ks.map fun p => (pk p, V.bl true))) = H7 at s7 hD7
        have hRL : ∀ p, p ∈ ks' ↔ RL b (num ps) b' (num ps') A (i + 1) p := fun p => by
          rw [hm', RL_succ]
          constructor
          · rintro ⟨q, hq, s, hs, rfl⟩
            exact ⟨q, (hks q).mp hq, s, stps_mem.mp hs, rfl⟩
          · rintro ⟨q, hq, s, hs, rfl⟩
            exact ⟨q, (hks q).mpr hq, s, stps_mem.mpr hs, rfl⟩
        have hin : ∀ p ∈ ks', (0 ≤ p.1 ∧ p.1 < num ps) ∧ 0 ≤ p.2 ∧ p.2 < num ps' := fun p hp => RL_rng hN1 hN2 ((hRL p).mp hp)
        have hk' := few_dp hN1 hN2 hNN hn' hin
        walk_at "go"
        refine ⟨D, _, hD7, trivial, fun od2 => ?_⟩
        have s9 : Same H (upd H7 D (.frz od2 (.dT (ks'.map fun p => (pk p, V.bl true))))) := same_up nHD s7
        have hD9 : (upd H7 D (.frz od2 (.dT (ks'.map fun p => (pk p, V.bl true))))) D = some (.frz od2 (.dT (ks'.map fun p => (pk p, V.bl true)))) := upd_same
        generalize upd H7 D (.frz od2 (.dT (ks'.map fun p => (pk p, V.bl true)))) = H9 at s9 hD9
        walk_at "go"
        refine ⟨D, od2, rfl, .inr ⟨_, hD9, ?_⟩⟩
        intro DC nDC
        refine lc_it walk_keysT (fun j H' => ∃ xs : List V, Same H9 (rm DC H') ∧ H' DC = some (.lst xs) ∧ xs.length ≤ j ∧ (xs = [] ↔ ∀ e ∈ ks'.take j, ¬ Msd e))
          ⟨[], by rw [rm_updS]; exact rm_in nDC (Same.refl _), upd_same, Nat.le_refl _, by simp⟩ (fun j H' _ z => by
            obtain ⟨_, z, _⟩ := z
            exact rm_le _ _ (z _ _ hD9)) ?_ ?_
        · rintro j x0 HA HB hj ⟨xs, sA, hA, hl, hx⟩ ⟨rfl, k, v, qa, hkv, rfl, hq⟩
          rw [List.getElem?_map] at hkv
          obtain ⟨e, he, hev⟩ := Option.map_eq_some_iff.mp hkv
          cases hev
          have hq : HB qa = some (.tup [.int e.1, .int e.2]) := hq
          have hjl : j < ks'.length := (List.getElem?_eq_some_iff.mp he).1
          have tk : (∀ z ∈ ks'.take (j + 1), ¬ Msd z) ↔ (∀ z ∈ ks'.take j, ¬ Msd z) ∧ ¬ Msd e := by
            rw [List.take_add_one, he]
            constructor
            · exact fun h => ⟨fun z hz => h z (List.mem_append_left _ hz), h e (by simp)⟩
            · rintro ⟨h1, h2⟩ z hz
              rcases List.mem_append.mp hz with g | g
              · exact h1 z g
              · rw [Option.toList_some, List.mem_singleton] at g
                rw [g]
                exact h2
          refine w_gtup (sqt hq) rfl (w_gcons (w_name (w_gcons (w_name (w_gnil ⟨rfl, ?_⟩)))))
          walk_at "go"
          by_cases c1 : e.1 = 0
          · rw [decide_eq_true (show V.int e.1 = V.int 0 by rw [c1])]
            refine iteT ?_
            walk_at "go"
            by_cases c2 : e.2 = 0
            · rw [decide_eq_true (show V.int e.2 = V.int 0 by rw [c2])]
              refine iteF ?_
              exact ⟨xs, sA, hA, by omega, hx.trans ⟨fun h => tk.mpr ⟨h, fun z => z.2 c2⟩, fun h => (tk.mp h).1⟩⟩
            · rw [decide_eq_false (fun h => c2 (V.int.inj h))]
              refine iteT ?_
              walk_at "go"
              refine ⟨xs, hA, by omega, xs ++ [.int 1], ?_, upd_same, by rw [List.length_append]; exact Nat.succ_le_succ hl, ?_⟩
              · rw [rm_updS]
                exact sA
              · exact ⟨fun h => by simp at h, fun h => absurd ⟨c1, c2⟩ (tk.mp h).2⟩
          · rw [decide_eq_false (fun h => c1 (V.int.inj h))]
            refine iteF ?_
            refine iteF ?_
            exact ⟨xs, sA, hA, by omega, hx.trans ⟨fun h => tk.mpr ⟨h, fun z => c1 z.1⟩, fun h => (tk.mp h).1⟩⟩
        · rintro HA ⟨xs, sA, hA, hl, hx⟩
          rw [List.length_map, List.take_length] at hx
          have hDA := rm_le _ _ (sA _ _ hD9)
          refine ⟨hDA, ?_⟩
          have s10 : Same H (upd HA D (.dT (ks'.map fun p => (pk p, V.bl true)))) := same_up nHD (s9.trans (sA.trans rm_le))
          have hD10 : DpP (upd HA D (.dT (ks'.map fun p => (pk p, V.bl true)))) D ks' := upd_same
          have nCD : DC ≠ D := ne_of_none' hD9 nDC
          have hC10 : (upd HA D (.dT (ks'.map fun p => (pk p, V.bl true)))) DC = some (.lst xs) := by rw [upd_ne nCD]; exact hA
          generalize upd HA D (.dT (ks'.map fun p => (pk p, V.bl true))) = HB at s10 hD10 hC10
          walk_at "go"
          refine al fun le HC nC sC hC => ?_
          refine w_atV ?_
          refine w_neE (sq (sC _ _ hC10)) (sq hC) ?_
          refine ⟨_, rfl, ?_⟩
          have s11 := s10.trans sC
          have hD11 : DpP HC D ks' := sC _ _ hD10
          cases hxs : xs with
          | nil =>
            have hno' := hx.mp hxs
            refine iteF ?_
            walk_at "go"
            refine ⟨_, _, _, _, _, _, D, ks', rfl, s11, nHD, hD11, hn', hRL, fun j hj p hp => ?_⟩
            by_cases c : j = i + 1
            · subst c
              exact hno' p ((hRL p).mpr hp)
            · exact hno j (by omega) p hp
          | cons x0 xs0 =>
            refine iteT ?_
            walk_at "go"
            have hex : ∃ p, RL b (num ps) b' (num ps') A (i + 1) p ∧ Msd p := by
              refine Classical.byContradiction fun hc => ?_
              have := hx.mpr fun e he hm => hc ⟨e, (hRL e).mp he, hm⟩
              rw [hxs] at this
              cases this
            rw [show (1 : Int) + (i : Int) = ((i + 1 : Nat) : Int) by omega]
            exact qm (i + 1) ⟨hex, fun j hj p hp => hno j (by omega) p hp⟩ _ s11
    · rintro σ H3 ⟨v4, v5, v6, v7, v8, v9, d, ks, rfl, s3, nd, hd3, hkn, hks, hno⟩
      walk_at "go"
      exact qn (noM_of hN1 A1 hno) _ s3
noncomputable abbrev s_rows : Stmt := (top 49)
theorem sc_rows : FnScope ["_law_many", "_law_upto", "_law_found", "_law_place", "_law_longer", "_law_row", "_law_letter"] ["_law_many", "_law_upto"] (defScope s_rows) :=
  ⟨rfl, rfl, rfl, by decide +kernel, rfl, by decide +kernel, by decide +kernel⟩
theorem ok_rows (F : Dn K mg "_law_rows" s_rows ["_law_many", "_law_upto"]) (T : Bt mg) : Cal P w K mg base 1 "_law_rows" spTexts52 [] := by
  refine F.cal sc_rows (fun vs H Q E h => ?_) (fun f cdv A' outer s H vs Q E hr h => ?_)
  · obtain ⟨A, n, rfl, _⟩ := h
    rfl
  · obtain ⟨A, n, rfl, A1, hp, hn, q⟩ := h
    refine ⟨_, (pss_cons (ps_set (i := 2) sc_rows.nd rfl (Or.inl rfl) (pe_lst (pa_cons (pe_tup pa_nil) pa_nil)))
      (pss_cons (ps_for PassesOwn.never rfl (pi_range1 (by rfl) T.range (pa_cons (pv 1) pa_nil)) (pg_name (i := 3) sc_rows.nd rfl (Or.inl rfl)) (pss_cons (ps_set (i := 4) sc_rows.nd rfl (Or.inl rfl) (pe_lst pa_nil))
      (pss_cons (ps_for PassesOwn.never rfl (pi_list (pv 2)) (pg_name (i := 5) sc_rows.nd rfl (Or.inr rfl)) (pss_one (ps_set (i := 4) sc_rows.nd rfl (Or.inl rfl) (pe_op op_cat (pv 4) (pe_lc (own := [("_law_letter", 6)]) (g := gName 6) (tt := tYes) (te := (tOp (rCatA K) (tVar 5) (tTup (tCons (tVar 6) tNil)))) rfl sc_rows.nd (pi_range1 (by rfl) T.range (pa_cons (pv 0) pa_nil)) (blkOk_by (own := [("_law_letter", 6)]) (N := ["_law_many", "_law_upto", "_law_found", "_law_place", "_law_longer", "_law_row", "_law_letter"]) (sc := defScope s_rows) (by decide +kernel)) (fun _ _ _ _ _ => (pg_name (i := 6) sc_rows.nd rfl (Or.inl rfl))) (fun _ _ _ _ _ => pts_nil) (fun _ _ _ _ _ => (pe_op op_catA (pv 5) (pe_tup (pa_cons (pv 6) pa_nil)))))))))
      (pss_one (ps_set (i := 2) sc_rows.nd rfl (Or.inl rfl) (pv 4))))))
      (pss_one (ps_ret (pv 2))))), ?_⟩
    walk_at "go"
    refine al fun t0 H1 n1 s1 h1 => ?_
    walk_at "go"
    refine al fun l0 H2 n2 s2 h2 => ?_
    walk_at "go"
    have hsz : (100000 : Nat) < sizeLine := by decide
    refine for_range (lo := 0) (n := n) (fun i σ H' => ∃ (D : Addr) (v3 v4 v5 v6 : Option V), σ = [some (.int A), some (.int (n : Nat)), some (.ref D), v3, v4, v5, v6] ∧ Same H H' ∧ TLq H' D (txsL A.toNat i))
      ⟨l0, none, none, none, none, rfl, s1.trans s2, ⟨[t0], h2, .cons (s2 _ _ h1) .nil⟩⟩ ?_ ?_
    · rintro i σ H3 hi ⟨D, v3, v4, v5, v6, rfl, s3, ts, hD, hts⟩
      have hlen := txsL_len A.toNat i
      have hll := hts.length
      have hpi := pow_le1 (show 1 ≤ A.toNat by omega) (show i + 1 ≤ n by omega)
      rw [Nat.pow_succ] at hpi
      walk_at "go"
      refine al fun B H4 n4 s4 h4 => ?_
      walk_at "go"
      refine for_list (K := K) (a := D) (xs := ts.map V.ref) (fun j σ H' => ∃ (B : Addr) (us : List Addr) (v5 v6 : Option V), σ = [some (.int A), some (.int (n : Nat)), some (.ref D), some (.int (0 + (i : Int))), some (.ref B), v5, v6] ∧ Same H3 H' ∧ H' B = some (.lst (us.map V.ref)) ∧ Paired (fun us t => H' t = some (.tup (us.map V.int))) (((txsL A.toNat i).take j).flatMap (extT A.toNat)) us)
        ⟨B, [], _, _, rfl, s4, h4, .nil⟩ (fun j σ H' _ z => by obtain ⟨_, _, _, _, _, z, _⟩ := z; exact sq (z _ _ hD)) ?_ ?_
      · rintro j x σ H5 hj ⟨B, us, v5, v6, rfl, s5, h5, hus⟩
        obtain ⟨t, ht, rfl⟩ := get_map hj
        obtain ⟨u, hu, htu⟩ := paired_get hts ht
        have hjl : j < (txsL A.toNat i).length := (List.getElem?_eq_some_iff.mp hu).1
        have hul : u.length = i := (txsL_mem.mp (List.mem_of_getElem? hu)).1
        have hl5 := hus.length
        rw [flat_len _ (extT_len _), List.length_take, Nat.min_eq_left (by omega)] at hl5
        have hjA : (j + 1) * A.toNat ≤ A.toNat ^ i * A.toNat := Nat.mul_le_mul_right _ (by omega)
        rw [Nat.succ_mul] at hjA
        walk_at "go"
        intro C nC
        refine lc_rel ((List.range A.toNat).map fun i : Nat => V.int (0 + (i : Int))) (RT fun z => u ++ [z]) (fun x y G G' s z => by
            obtain ⟨z0, qq, e1, e2, e3⟩ := z
            exact ⟨z0, qq, e1, e2, s _ _ e3⟩) walk_rangeY nC (fun _ _ => trivial) (by rw [List.length_map, List.length_range]; omega) (fun _ => rfl) ?_ ?_
        · rintro l x1 H' hx s' ⟨acc, hacc⟩ Q' q'
          obtain ⟨z, rfl⟩ : ∃ z : Int, x1 = .int z := by
            rw [List.getElem?_map] at hx
            obtain ⟨k, _, e⟩ := Option.map_eq_some_iff.mp hx
            exact ⟨_, e.symm⟩
          walk_at "go"
          refine al fun p7 H7 n7 s7 h7 => ?_
          walk_at "go"
          refine w_catA (xs := u.map V.int) (ys := [.int z]) (s7 _ _ (s' _ _ (s5 _ _ htu))) h7 (by rw [List.length_map, List.length_cons, List.length_nil]; omega) fun p8 H8 s8 h8 => ?_
          refine w_atV ?_
          have hC8 := s8 _ _ (s7 _ _ hacc)
          exact q' _ _ (s7.trans s8) ⟨z, p8, rfl, rfl, rm_of (fun e => by rw [e, hC8] at h8; cases h8) (by rw [h8, List.map_append]; rfl)⟩
        · intro H6 ys s6 h6 hys
          rw [show ((List.range A.toNat).map fun i : Nat => V.int (0 + (i : Int))) = ((List.range A.toNat).map fun i : Nat => (0 + (i : Int))).map V.int by rw [List.map_map]; rfl] at hys
          obtain ⟨qs, rfl, hq⟩ := RT.refs hys
          have hql := hq.length
          rw [List.length_map, List.length_map, List.length_range] at hql
          have eE : ((List.range A.toNat).map fun i : Nat => (0 + (i : Int))).map (fun z => u ++ [z]) = extT A.toNat u := by
            unfold extT
            rw [List.map_map]
            refine List.map_congr_left fun k _ => ?_
            show u ++ [0 + (k : Int)] = u ++ [(k : Int)]
            rw [Int.zero_add]
          rw [eE] at hq
          refine w_cat (xs := us.map V.ref) (ys := qs.map V.ref) (s6 _ _ h5) h6 (by rw [List.length_map, List.length_map]; omega) (al fun B2 H7 n7 s7 h7 => ?_)
          walk_at "go"
          refine ⟨B2, us ++ qs, _, _, rfl, s5.trans (s6.trans s7), by rw [h7, List.map_append], ?_⟩
          rw [List.take_add_one, hu, List.flatMap_append]
          refine paired_appQ (paired_imp (fun us t z => s7 _ _ (s6 _ _ z)) hus) ?_
          rw [Option.toList_some, List.flatMap_cons, List.flatMap_nil, List.append_nil]
          exact paired_imp (fun us t z => s7 _ _ z) hq
      · rintro σ H5 ⟨B, us, v5, v6, rfl, s5, h5, hus⟩
        rw [List.length_map, ← hll, List.take_length] at hus
        walk_at "go"
        exact ⟨B, _, _, _, _, rfl, s3.trans s5, us, h5, hus⟩
    · rintro σ H3 ⟨D, v3, v4, v5, v6, rfl, s3, hT⟩
      walk_at "go"
      exact q H3 D s3 hT
noncomputable abbrev s_first73 : Stmt := (top 50)
theorem sc_first73 : FnScope ["_law_first_here", "_law_second", "_law_many", "_law_fewest_here", "_law_rows_here", "_law_row", "_law_here", "_law_there", "_law_near", "_law_here_near", "_law_there_near"] ["_law_first_here", "_law_second", "_law_many", "_law_fewest_here"] (defScope s_first73) :=
  ⟨rfl, rfl, rfl, by decide +kernel, rfl, by decide +kernel, by decide +kernel⟩
theorem ok_first73 {c : CA} (F : Dn K mg "_law_first" s_first73 ["_law_first_here", "_law_second", "_law_many", "_law_fewest_here"]) (T : Bt mg) (X : Kx K mg c) (c_callO : CalO P w K mg base 4 c.wy (spMarkOf c)) (c_rows : Cal P w K mg base 1 "_law_rows" spTexts52 []) : Cal P w K mg base 5 "_law_first" (spFirst73 c) [] := by
  refine F.cal sc_first73 (fun vs H Q E h => ?_) (fun f cdv A' outer s H vs Q E hr h => ?_)
  · obtain ⟨x, x', b, b', ps, ps', y, y', A, m, t, u, rfl, _⟩ := h
    rfl
  · obtain ⟨x, x', b, b', ps, ps', y, y', A, m, t, u, rfl, hw, hw', hl, A1, hp, hm, hP, q⟩ := h
    refine ⟨_, (pss_cons (ps_setLc (i := 4) (own := [("_law_row", 5)]) (g := gName 5) (tt := tYes) (te := (tTup (tCons (tVar 5) (tCons (tCO _ _ _ (tVar 0) (tCons (tVar 5) tNil)) (tCons (tCO _ _ _ (tVar 1) (tCons (tVar 5) tNil)) tNil))))) rfl sc_first73.nd rfl rfl (sw_true rfl rfl rfl (by decide +kernel)) (pi_list (pe_c c_rows hr (by decide) (by rfl) (pa_cons (pv 2) (pa_cons (pv 3) pa_nil)))) (blkOk_by (own := [("_law_row", 5)]) (N := ["_law_first_here", "_law_second", "_law_many", "_law_fewest_here", "_law_rows_here", "_law_row", "_law_here", "_law_there", "_law_near", "_law_here_near", "_law_there_near"]) (sc := defScope s_first73) (by decide +kernel)) (fun _ _ _ _ _ => (pg_name (i := 5) sc_first73.nd rfl (Or.inl rfl))) (fun _ _ _ _ _ => pts_nil) (fun _ _ _ _ _ => (pe_tup (pa_cons (pv 5) (pa_cons (pe_cO (pv 0) c_callO hr (by decide) (pa_cons (pv 5) pa_nil)) (pa_cons (pe_cO (pv 1) c_callO hr (by decide) (pa_cons (pv 5) pa_nil)) pa_nil))))))
      (pss_cons (ps_for PassesOwn.never rfl (pi_list (pv 4)) (pg_tup rfl (pgs_cons (pg_name (i := 5) sc_first73.nd rfl (Or.inl rfl)) (pgs_cons (pg_name (i := 6) sc_first73.nd rfl (Or.inl rfl)) (pgs_cons (pg_name (i := 7) sc_first73.nd rfl (Or.inl rfl)) pgs_nil)))) (pss_one (ps_for PassesOwn.never rfl (pi_list (pv 4)) (pg_tup rfl (pgs_cons (pg_name (i := 8) sc_first73.nd rfl (Or.inl rfl)) (pgs_cons (pg_name (i := 9) sc_first73.nd rfl (Or.inl rfl)) (pgs_cons (pg_name (i := 10) sc_first73.nd rfl (Or.inl rfl)) pgs_nil)))) (pss_one (ps_if (PW.pt (pw_and (pt_cmpR op_eq (pv 6) (pv 9) (nomark _)) (pw_and1 (pt_cmpR op_ne (pv 7) (pv 10) (nomark _))))) (pss_one (ps_ret (pe_tup (pa_cons (pv 5) (pa_cons (pv 8) pa_nil))))) pss_nil)))))
      (pss_one (ps_ret pe_non)))), ?_⟩
    walk_at "go"
    refine ⟨(A : Int), m, rfl, by omega, by rw [Int.toNat_natCast]; omega, by omega, fun H1 D s1 hT => ?_⟩
    rw [Int.toNat_natCast] at hT
    obtain ⟨ts, hD, hts⟩ := hT
    walk_at "go"
    intro C nC
    have htl := hts.length
    have hTl := txsL_len A m
    refine lc_rel (ts.map V.ref) (RW3 (mark y b (num ps)) (mark y' b' (num ps')) H1) (fun x y G G' s z => by
        obtain ⟨r, qq, e1, e2, e3⟩ := z
        exact ⟨r, qq, e1, e2, fun u hu => s _ _ (e3 u hu)⟩) walk_list nC (fun H' s => sq (s _ _ hD)) (by rw [List.length_map]; omega) (fun _ => rfl) ?_ ?_
    · rintro i x1 H' hx s' ⟨acc, hacc⟩ Q' q'
      obtain ⟨r, hr, rfl⟩ := get_map hx
      obtain ⟨v, hv, hvr⟩ := paired_get hts hr
      have hvl := (txsL_mem.mp (List.mem_of_getElem? hv)).1
      have hr' := s' _ _ hvr
      have hwA := (hw.same s1).same s'
      have hwB := (hw'.same s1).same s'
      obtain ⟨dxa, ma, ka, hxa, _⟩ := id hwA
      walk_at "go"
      refine ⟨.inr ⟨_, _, hxa⟩, x, .ref r, b, ps, y, v, rfl, hwA, .tup r v hr' (by omega), fun H2 s2 => ?_⟩
      have hwB2 := hwB.same s2
      obtain ⟨dxb, mb, kb, hxb, _⟩ := id hwB2
      have hr2 := s2 _ _ hr'
      walk_at "go"
      refine ⟨.inr ⟨_, _, hxb⟩, x', .ref r, b', ps', y', v, rfl, hwB2, .tup r v hr2 (by omega), fun H3 s3 => ?_⟩
      walk_at "go"
      refine al fun tq H4 n4 s4 h4 => ?_
      refine w_atV ?_
      refine q' _ _ (s2.trans (s3.trans s4)) ⟨r, tq, rfl, rfl, fun u' hu' => ?_⟩
      have eu : u' = v := by
        rw [hvr] at hu'
        injection hu' with hu'
        injection hu' with hu'
        exact (map_int_inj hu').symm
      rw [eu]
      exact rm_of (ne_of_none' (s3 _ _ (s2 _ _ hacc)) n4) h4
    · intro H2 ys s2 h2 hys
      obtain ⟨qs, rfl, hq⟩ := RW3.refs s2 hts hys
      have hql := hq.length
      have S2 := s1.trans s2
      clear hys hts hD
      walk_at "go"
      refine for_list (K := K) (a := C) (xs := qs.map V.ref) (fun i σ H' => ∃ (v5 v6 v7 v8 v9 v10 : Option V), σ = [some (.ref x), some (.ref x'), some (.int (A : Int)), some (.int (m : Int)), some (.ref C), v5, v6, v7, v8, v9, v10] ∧ Same H2 H' ∧ ∀ (k l : Nat) (v' q' : List Int), k < i → (txsL A m)[k]? = some v' → (txsL A m)[l]? = some q' → ¬ Ms b (num ps) b' (num ps') y.low v' q')
        ⟨_, _, _, _, _, _, rfl, Same.refl _, fun k l v' q' h => absurd h (by omega)⟩ (fun i σ H' _ z => by
          obtain ⟨_, _, _, _, _, _, _, z, _⟩ := z
          exact sq (z _ _ h2)) ?_ ?_
      · rintro i x1 σ H3 hx ⟨v5, v6, v7, v8, v9, v10, rfl, s3, hno⟩
        obtain ⟨qi, hqi, rfl⟩ := get_map hx
        obtain ⟨v, hv, hTr⟩ := paired_get hq hqi
        obtain ⟨ri, hri, hqq⟩ := hTr.same s3
        have hvl := (txsL_mem.mp (List.mem_of_getElem? hv)).1
        walk_at "go"
        refine for_list (K := K) (a := C) (xs := qs.map V.ref) (fun j σ H' => ∃ (v8 v9 v10 : Option V), σ = [some (.ref x), some (.ref x'), some (.int (A : Int)), some (.int (m : Int)), some (.ref C), some (.ref ri), some (.int (mark y b (num ps) v)), some (.int (mark y' b' (num ps') v)), v8, v9, v10] ∧ Same H2 H' ∧ ∀ (l : Nat) (q' : List Int), l < j → (txsL A m)[l]? = some q' → ¬ Ms b (num ps) b' (num ps') y.low v q')
          ⟨_, _, _, rfl, s3, fun l q' h => absurd h (by omega)⟩ (fun i σ H' _ z => by
            obtain ⟨_, _, _, _, z, _⟩ := z
            exact sq (z _ _ h2)) ?_ ?_
        · rintro j x1 σ H4 hx ⟨v8', v9', v10', rfl, s4, hno2⟩
          obtain ⟨qj, hqj, rfl⟩ := get_map hx
          obtain ⟨w0, hw0, hTr2⟩ := paired_get hq hqj
          obtain ⟨rj, hrj, hqqj⟩ := hTr2.same s4
          have hwl := (txsL_mem.mp (List.mem_of_getElem? hw0)).1
          have hri4 : H4 ri = some (.tup (v.map V.int)) := by
            obtain ⟨r', h1', h2'⟩ := hTr.same s4
            obtain ⟨r'', h1'', h2''⟩ := hTr
            rw [s3 _ _ h2''] at hqq
            rw [s4 _ _ h2''] at h2'
            cases hqq
            cases h2'
            exact h1'
          have hMs := Ms_mark (b := b) (N := num ps) (b' := b') (N' := num ps') hl (show v.length = w0.length by omega)
          walk_at "go"
          by_cases c1 : mark y b (num ps) v = mark y b (num ps) w0
          · rw [decide_eq_true (show V.int (mark y b (num ps) v) = V.int (mark y b (num ps) w0) by rw [c1])]
            refine iteT ?_
            walk_at "go"
            by_cases c2 : mark y' b' (num ps') v = mark y' b' (num ps') w0
            · rw [decide_eq_true (show V.int (mark y' b' (num ps') v) = V.int (mark y' b' (num ps') w0) by rw [c2])]
              refine iteF ?_
              walk_at "go"
              refine ⟨_, _, _, rfl, s4, fun l q' hlj hq' => ?_⟩
              by_cases c : l = j
              · subst c
                rw [hw0] at hq'
                cases hq'
                exact fun z => (hMs.mp z).2 c2
              · exact hno2 l q' (by omega) hq'
            · rw [decide_eq_false (fun h => c2 (V.int.inj h))]
              refine iteT ?_
              walk_at "go"
              refine al fun tr H5 n5 s5 h5 => ?_
              obtain ⟨e1, e2⟩ := fst73 hP ⟨hv, hw0, hMs.mpr ⟨c1, c2⟩, hno, hno2⟩
              rw [e1] at hri4
              rw [e2] at hrj
              exact q H5 tr (S2.trans (s4.trans s5)) ⟨ri, rj, h5, s5 _ _ hri4, s5 _ _ hrj⟩
          · rw [decide_eq_false (fun h => c1 (V.int.inj h))]
            refine iteF ?_
            walk_at "go"
            refine iteF ?_
            walk_at "go"
            refine ⟨_, _, _, rfl, s4, fun l q' hlj hq' => ?_⟩
            by_cases c : l = j
            · subst c
              rw [hw0] at hq'
              cases hq'
              exact fun z => c1 (hMs.mp z).1
            · exact hno2 l q' (by omega) hq'
        · rintro σ H4 ⟨v8', v9', v10', rfl, s4, hno2⟩
          walk_at "go"
          refine ⟨_, _, _, _, _, _, rfl, s4, fun k l v' q' hk hv' hq' => ?_⟩
          by_cases c : k = i
          · subst c
            rw [hv] at hv'
            cases hv'
            refine hno2 l q' ?_ hq'
            rw [List.length_map, ← hql]
            exact (List.getElem?_eq_some_iff.mp hq').1
          · exact hno k l v' q' (by omega) hv' hq'
      · rintro σ H3 ⟨v5, v6, v7, v8, v9, v10, rfl, s3, hno⟩
        exfalso
        obtain ⟨k, hk, ek⟩ := List.getElem_of_mem (txsL_mem.mpr ⟨hP.lt, hP.at'⟩)
        obtain ⟨l, hlt, el⟩ := List.getElem_of_mem (txsL_mem.mpr ⟨hP.lu, hP.au⟩)
        exact hno k l t u (by rw [List.length_map, ← hql]; exact hk) (by rw [List.getElem?_eq_getElem hk, ek]) (by rw [List.getElem?_eq_getElem hlt, el]) hP.hit
noncomputable abbrev s_right : Stmt := (top 51)
theorem sc_right : FnScope ["_law_purse_here", "_law_is_low", "_law_first_here", "_law_second", "_law_many", "_law_told", "_law_fewest_here", "_law_row"] ["_law_purse_here"] (defScope s_right) :=
  ⟨rfl, rfl, rfl, by decide +kernel, rfl, by decide +kernel, by decide +kernel⟩
theorem ok_right {c : CA} {Ci Cs Cu : Addr} (F : Dn K mg "_law_right" s_right ["_law_purse_here"]) (T : Bt mg) (X : Kx K mg c) (c_draw : Cal P w K mg base 2 "_law_draw" spDraw []) (c_someway : Cal P w K mg base 7 "_law_some_way" (spSomeWay c) []) (c_mpair : CalX P w K mg base 5 "missed_pair" (spMissedX K c Ci Cs Cu) []) (c_mpairK : CalXK P w K mg base 5 "missed_pair" ["stock", "other", "one"] (spMissedX K c Ci Cs Cu) (fun vs zs => vs ++ zs.reverse)) (c_fewest : Cal P w K mg base 1 "_law_fewest" (spFewest c) []) (c_doors : Cal P w K mg base 7 "_law_doors_right" (spDoors73 c) []) (c_callO : CalO P w K mg base 4 c.wy (spMarkOf c)) (c_first73 : Cal P w K mg base 5 "_law_first" (spFirst73 c) []) : Cal P w K mg base 8 "_law_right" spRight [] := by
  refine F.cal sc_right (fun vs H Q E h => ?_) (fun f cdv A outer s H vs Q E hr h => ?_)
  · obtain ⟨a, c, rfl, _⟩ := h
    rfl
  · obtain ⟨a, cc, rfl, hc, p, k⟩ := h
    refine ⟨_, (pss_cons (ps_set (i := 1) sc_right.nd rfl (Or.inl rfl) (pe_cmpR op_eq (pe_c c_draw hr (by decide) (by rfl) (pa_cons (pv 0) (pa_cons pe_int pa_nil))) pe_int (nomark _)))
      (pss_cons (ps_par (i := 2) (j := 3) (by rfl) sc_right.nd rfl rfl (by decide) rfl rfl (pa_cons (pe_c c_someway hr (by decide) (by rfl) (pa_cons (pv 0) (pa_cons (pv 1) pa_nil))) (pa_cons (pe_c c_someway hr (by decide) (by rfl) (pa_cons (pv 0) (pa_cons (pv 1) pa_nil))) pa_nil)) (by rfl))
      (pss_cons (ps_set (i := 4) sc_right.nd rfl (Or.inl rfl) (pe_op op_add pe_int (pe_c c_draw hr (by decide) (by rfl) (pa_cons (pv 0) (pa_cons (pe_ix ix_list (pe_lst (pa_cons pe_int (pa_cons pe_int pa_nil))) (pe_c c_draw hr (by decide) (by rfl) (pa_cons (pv 0) (pa_cons pe_int pa_nil))) (fun _ _ => rfl)) pa_nil)))))
      (pss_cons (ps_set (i := 5) sc_right.nd rfl (Or.inl rfl) (pe_cL c_mpair hr (by decide) (by rfl) (pa_cons (pv 2) (pa_cons (pv 3) (pa_cons (pv 4) pa_nil)))))
      (pss_cons (ps_set (i := 6) sc_right.nd rfl (Or.inl rfl) (pe_c c_fewest hr (by decide) (by rfl) (pa_cons (pv 2) (pa_cons (pv 3) (pa_cons (pv 4) pa_nil)))))
      (pss_cons (ps_if (pt_cmpR op_isN1 (pv 6) pe_non (nomark _)) (pss_one (ps_ret (pe_and (pe_cmpR op_isN1 (pv 5) pe_non (nomark _)) (pe_one (pe_c c_doors hr (by decide) (by rfl) (pa_cons (pv 0) (pa_cons (pv 2) (pa_cons (pv 3) pa_nil)))))))) pss_nil)
      (pss_cons (ps_if (PW.pt (pw_or (pt_cmpR op_isN1 (pv 5) pe_non (nomark _)) (pw_or (pt_cmpR (op_neD hr.units) (pe_lc (own := [("_law_row", 7)]) (g := gName 7) (tt := tYes) (te := (tCB (Bc.rLen K) (tCons (tVar 7) tNil))) rfl sc_right.nd (pi_tup (pv 5)) (blkOk_by (own := [("_law_row", 7)]) (N := ["_law_purse_here", "_law_is_low", "_law_first_here", "_law_second", "_law_many", "_law_told", "_law_fewest_here", "_law_row"]) (sc := defScope s_right) (by decide +kernel)) (fun _ _ _ _ _ => (pg_name (i := 7) sc_right.nd rfl (Or.inl rfl))) (fun _ _ _ _ _ => pts_nil) (fun _ _ _ _ _ => (pe_callB cLen (by rfl) T.len (by decide +kernel) (pa_cons (pv 7) pa_nil)))) (pe_lst (pa_cons (pv 6) (pa_cons (pv 6) pa_nil))) (nomark _)) (pw_or1 (pt_cmpR op_ne (pe_cO (pv 2) c_callO hr (by decide) (pa_cons (pe_ix ix_tup (pv 5) pe_int (fun _ _ => rfl)) pa_nil)) (pe_cO (pv 2) c_callO hr (by decide) (pa_cons (pe_ix ix_tup (pv 5) pe_int (fun _ _ => rfl)) pa_nil)) (nomark _)))))) (pss_one (ps_ret pe_bl)) pss_nil)
      (pss_cons (ps_if (PW.pt (pw_or (pt_cmpR op_eq (pe_cO (pv 3) c_callO hr (by decide) (pa_cons (pe_ix ix_tup (pv 5) pe_int (fun _ _ => rfl)) pa_nil)) (pe_cO (pv 3) c_callO hr (by decide) (pa_cons (pe_ix ix_tup (pv 5) pe_int (fun _ _ => rfl)) pa_nil)) (nomark _)) (pw_or1 (pt_cmpR (op_neD hr.units) (pe_cLK c_mpairK hr (by decide) (by rfl) (pk_cons (pv 4) (pk_cons (pv 3) (pk_cons (pv 2) pk_nil)))) (pv 5) (nomark _))))) (pss_one (ps_ret pe_bl)) pss_nil)
      (pss_cons (ps_if (PW.pt (pw_and (pt_cmpR op_le (pv 6) (pe_ix ix_list (pe_lst (pa_cons pe_int (pa_cons pe_int (pa_cons pe_int (pa_cons pe_int (pa_cons pe_int (pa_cons pe_int (pa_cons pe_int pa_nil)))))))) (pv 4) (fun _ _ => rfl)) (nomark _)) (pw_and1 (pt_cmpR (op_neD hr.units) (pv 5) (pe_c c_first73 hr (by decide) (by rfl) (pa_cons (pv 2) (pa_cons (pv 3) (pa_cons (pv 4) (pa_cons (pv 6) pa_nil))))) (nomark _))))) (pss_one (ps_ret pe_bl)) pss_nil)
      (pss_one (ps_ret (pe_and (pe_callB call_isi (by rfl) T.isinstance (by decide +kernel) (pa_cons (pv 5) (pa_cons (pe_bltn (v := .ty "tuple") (by rfl) T.tuple (by decide +kernel) rfl) pa_nil))) (pe_one (pe_c c_doors hr (by decide) (by rfl) (pa_cons (pv 0) (pa_cons (pv 2) (pa_cons (pv 3) pa_nil))))))))))))))))), ?_⟩
    walk_at "go"
    refine use_drawR p (by decide) (by decide) (by omega) fun k1 H1 k10 k11 s1 u1 => ?_
    walk_at "go"
    obtain ⟨lw, hlw⟩ : ∃ lw : Bool, lw = decide (V.int k1 = V.int 1) := ⟨_, rfl⟩
    rw [← hlw]
    walk_at "go"
    refine ⟨a, _, lw, rfl, by omega, u1, fun x b ps y H2 s2 u2 hw hy hn => ?_⟩
    walk_at "go"
    refine ⟨a, _, lw, rfl, by omega, u2, fun x' b' ps' y' H3 s3 u3 hw' hy' hn' => ?_⟩
    walk_at "go"
    refine alR u3 fun l4 H4 s4 u4 h4 _ => ?_
    walk_at "go"
    refine use_drawR u4 (by decide) (by decide) (by omega) fun k2 H5 k20 k21 s5 u5 => ?_
    refine w_ixL (xs := ([3, 6] : List Int).map V.int) (by walk_at "hp") (atI_ints k20 (by simpa using k21)) ?_
    obtain ⟨z2, hz2, z20, z21⟩ : ∃ z2, ([3, 6] : List Int).getD k2.toNat 0 = z2 ∧ 1 ≤ z2 ∧ z2 ≤ 6 := by
      have : k2 = 0 ∨ k2 = 1 := by omega
      rcases this with e | e <;> subst e
      · exact ⟨3, rfl, by decide, by decide⟩
      · exact ⟨6, rfl, by decide, by decide⟩
    rw [hz2]
    walk_at "go"
    refine use_drawR u5 (by omega) (by omega) (by omega) fun k3 H6 k30 k31 s6 u6 => ?_
    walk_at "go"
    obtain ⟨A, hA⟩ : ∃ A : Nat, (A : Int) = 1 + k3 := ⟨(1 + k3).toNat, by omega⟩
    rw [← hA]
    have A1 : 1 ≤ A := by omega
    have A6 : A ≤ 6 := by omega
    have hw6 := hw.same (show Same (rm a H2) (rm a H6) by walk_at "same")
    have hw6' := hw'.same (show Same (rm a H3) (rm a H6) by walk_at "same")
    have S6 : Same (rm a H) (rm a H6) := by walk_at "same"
    have u6 := u6.le (d := cc + 200) (by omega)
    have hpn := hw6.pos
    have hpn' := hw6'.pos
    have hlo : y.low = y'.low := by rw [hy, hy']
    have hNN : num ps * num ps' ≤ 10000 := by
      have := Int.mul_le_mul hn hn' (by omega) (by omega)
      omega
    have hwF : WayAt c H6 x b ps y := hw6.same rm_le
    have hwF' : WayAt c H6 x' b' ps' y' := hw6'.same rm_le
    clear s1 s2 s3 s4 s5 s6 u1 u2 u3 u4 u5 hw hw' h4 p
    refine ⟨_, _, _, rfl, .inr (.inr ⟨x, x', b, b', ps, ps', y, y', rfl, rfl, hwF, hwF', .inr ⟨A, rfl, A1, fun e => absurd hlo e, fun _ => ⟨by omega, by omega, by omega, fun hno H7 s7 => ?_, fun m t u hm hP H7 r s7 hT => ?_⟩⟩⟩)⟩
    · have u7 := u6.same s7
      have hw7 := hwF.same s7
      have hw7' := hwF'.same s7
      walk_at "go"
      refine ⟨x, x', b, b', ps, ps', y, y', A, rfl, ⟨hw7, hw7', by omega, by omega⟩, hNN, A1, by omega, fun _ H8 s8 => ?_, fun m hm => absurd hno hm.notNo⟩
      have u8 := u7.same s8
      have S8 : Same (rm a H6) (rm a H8) := (s7.trans s8).rm
      walk_at "go"
      refine iteT ?_
      walk_at "go"
      refine iteT ?_
      walk_at "go"
      refine ⟨a, x, x', b, b', _, ps, ps', y, y', rfl, by omega, u8, hw6.same S8, hw6'.same S8, fun H9 s9 u9 => ?_⟩
      walk_at "go"
      exact k _ (Keep.ofR (S6.trans (S8.trans s9))) (u9.le (by omega))
    · have u7 := u6.same s7
      have hw7 := hwF.same s7
      have hw7' := hwF'.same s7
      walk_at "go"
      refine ⟨x, x', b, b', ps, ps', y, y', A, rfl, ⟨hw7, hw7', by omega, by omega⟩, hNN, A1, by omega, fun hno => absurd hno hm.notNo, fun m' hm' H8 s8 => ?_⟩
      have em := hm'.uniq hm
      subst em
      have hmN := missed_le hpn A1 hm
      have u8 := u7.same s8
      have S8 : Same (rm a H6) (rm a H8) := (s7.trans s8).rm
      obtain ⟨tp, tq, hr8, htp, htq⟩ := hT.same s8
      have hw8 := hw7.same s8
      have hw8' := hw7'.same s8
      clear hT hw7 hw7' u7
      walk_at "go"
      refine iteF ?_
      walk_at "go"
      refine iteF ?_
      walk_at "go"
      intro D nD
      have htl : t.length = m' := hP.lt
      have hul : u.length = m' := hP.lu
      refine lc_pure [.ref tp, .ref tq] (([(m' : Int), (m' : Int)] : List Int).map V.int) walk_tup nD (fun H' s => sqt (s _ _ hr8)) rfl (by show 2 ≤ 100000; decide) (fun _ => rfl) ?_ ?_
      · intro i x1 y1 H' hx hy1 s' Q' q'
        have cases2 : (x1 = .ref tp ∧ y1 = .int (m' : Int)) ∨ (x1 = .ref tq ∧ y1 = .int (m' : Int)) := by
          match i, hx, hy1 with
          | 0, hx, hy1 => cases hx; cases hy1; exact .inl ⟨rfl, rfl⟩
          | 1, hx, hy1 => cases hx; cases hy1; exact .inr ⟨rfl, rfl⟩
        rcases cases2 with ⟨rfl, rfl⟩ | ⟨rfl, rfl⟩
        · have := s' _ _ htp
          walk_at "go"
          rw [List.length_map, htl]
          exact q' _ (Same.refl _)
        · have := s' _ _ htq
          walk_at "go"
          rw [List.length_map, hul]
          exact q' _ (Same.refl _)
      · intro H9 s9 h9
        have u9 := u8.same s9
        have hw9 := hw8.same s9
        have hw9' := hw8'.same s9
        have hr9 := s9 _ _ hr8
        have htp9 := s9 _ _ htp
        have htq9 := s9 _ _ htq
        walk_at "go"
        refine al fun l2 HA nA sA hA2 => ?_
        refine w_atV ?_
        refine w_neLL (ls := [(m' : Int), (m' : Int)]) (ms := [(m' : Int), (m' : Int)]) (sq (sA _ _ h9)) (sq hA2) ?_
        rw [decide_eq_true rfl]
        have uA := u9.same sA
        have hwA := hw9.same sA
        have hwA' := hw9'.same sA
        have hrA := sA _ _ hr9
        have htpA := sA _ _ htp9
        have htqA := sA _ _ htq9
        have SA : Same (rm a H6) (rm a HA) := S8.trans (s9.trans sA).rm
        clear s9 sA u9 hw9 hw9' hr9 htp9 htq9 hr8 htp htq hw8 hw8' u8 h9 hA2 S8 s8 s7
        walk_at "go"
        refine iteF ?_
        walk_at "go"
        have hMs := (Ms_mark (b := b) (N := num ps) (b' := b') (N' := num ps') hlo (show t.length = u.length by omega)).mp hP.hit
        obtain ⟨_, _, _, hxB, _⟩ := id hwA
        refine ⟨.inr ⟨_, _, hxB⟩, x, .ref tp, b, ps, y, t, rfl, hwA, .tup tp t htpA (by omega), fun HB sB => ?_⟩
        have uB := uA.same sB
        have hwB := hwA.same sB
        have hvB := hwA'.same sB
        have hrB := sB _ _ hrA
        have htpB := sB _ _ htpA
        have htqB := sB _ _ htqA
        have SB : Same (rm a H6) (rm a HB) := SA.trans sB.rm
        clear hxB sB uA hwA hwA' hrA htpA htqA SA
        walk_at "go"
        obtain ⟨_, _, _, hxC, _⟩ := id hwB
        refine ⟨.inr ⟨_, _, hxC⟩, x, .ref tq, b, ps, y, u, rfl, hwB, .tup tq u htqB (by omega), fun HC sC => ?_⟩
        have uC := uB.same sC
        have hwC := hwB.same sC
        have hvC := hvB.same sC
        have hrC := sC _ _ hrB
        have htpC := sC _ _ htpB
        have htqC := sC _ _ htqB
        have SC : Same (rm a H6) (rm a HC) := SB.trans sC.rm
        clear hxC sC uB hwB hvB hrB htpB htqB SB
        walk_at "go"
        rw [hMs.1, decide_eq_true rfl]
        refine iteF ?_
        walk_at "go"
        obtain ⟨_, _, _, hxD, _⟩ := id hvC
        refine ⟨.inr ⟨_, _, hxD⟩, x', .ref tp, b', ps', y', t, rfl, hvC, .tup tp t htpC (by omega), fun HD sD => ?_⟩
        have uD := uC.same sD
        have hwD := hwC.same sD
        have hvD := hvC.same sD
        have hrD := sD _ _ hrC
        have htpD := sD _ _ htpC
        have htqD := sD _ _ htqC
        have SD : Same (rm a H6) (rm a HD) := SC.trans sD.rm
        clear hxD sD uC hwC hvC hrC htpC htqC SC
        walk_at "go"
        obtain ⟨_, _, _, hxE, _⟩ := id hvD
        refine ⟨.inr ⟨_, _, hxE⟩, x', .ref tq, b', ps', y', u, rfl, hvD, .tup tq u htqD (by omega), fun HE sE => ?_⟩
        have uE := uD.same sE
        have hwE := hwD.same sE
        have hvE := hvD.same sE
        have hrE := sE _ _ hrD
        have htpE := sE _ _ htpD
        have htqE := sE _ _ htqD
        have SE : Same (rm a H6) (rm a HE) := SD.trans sE.rm
        clear hxE sE uD hwD hvD hrD htpD htqD SD
        walk_at "go"
        rw [decide_eq_false (fun e => hMs.2 (V.int.inj e))]
        refine iteF ?_
        walk_at "go"
        refine ⟨rfl, rfl, _, _, _, rfl, .inr (.inr ⟨x, x', b, b', ps, ps', y, y', rfl, rfl, hwE, hvE, .inr ⟨A, rfl, A1, fun e => absurd hlo e, fun _ => ⟨by omega, by omega, by omega, fun hno => absurd hno hm.notNo, fun m2 t2 q2 hm2 hP2 HF r2 sF hT2 => ?_⟩⟩⟩)⟩
        have em2 := hm2.uniq hm
        subst em2
        obtain ⟨e1, e2⟩ := hP.uniq hP2
        subst e1 e2
        have uF := uE.same sF
        have hwF := hwE.same sF
        have hvF := hvE.same sF
        have hrF := sF _ _ hrE
        have htpF := sF _ _ htpE
        have htqF := sF _ _ htqE
        have SF : Same (rm a H6) (rm a HF) := SE.trans sF.rm
        clear sF uE hwE hvE hrE htpE htqE SE
        obtain ⟨tp2, tq2, g1, g2, g3⟩ := hT2
        walk_at "go"
        refine w_nePP g1 hrF g2 g3 htpF htqF ?_
        refine ⟨false, rfl, iteF ?_⟩
        walk_at "go"
        refine al fun l7 HG nG sG hG => ?_
        walk_at "go"
        refine w_ixL (xs := tab73.map V.int) (sq hG) (atI_ints (by omega) (by show (A : Int) < ((7 : Nat) : Int); omega)) ?_
        obtain ⟨z, hz⟩ : ∃ z, tab73.getD ((A : Int)).toNat 0 = z := ⟨_, rfl⟩
        rw [hz]
        rw [Int.toNat_natCast] at hz
        have uG := uF.same sG
        have hwG := hwF.same sG
        have hvG := hvF.same sG
        have hrG := sG _ _ hrF
        have htpG := sG _ _ htpF
        have htqG := sG _ _ htqF
        have SG : Same (rm a H6) (rm a HG) := SF.trans sG.rm
        clear sG uF hwF hvF hrF htpF htqF SF hG
        walk_at "go"
        refine ite_d (fun hle => ?_) (fun hgt => ?_)
        · obtain ⟨p1, p2⟩ := pow73 A1 A6 hz hle
          walk_at "go"
          refine ⟨x, x', b, b', ps, ps', y, y', A, m2, _, _, rfl, hwG, hvG, hlo, A1, p1, p2, hP, fun HH r3 sH hT3 => ?_⟩
          obtain ⟨tp3, tq3, f1, f2, f3⟩ := hT3
          have uH := uG.same sH
          have hrH := sH _ _ hrG
          have htpH := sH _ _ htpG
          have htqH := sH _ _ htqG
          have SH : Same (rm a H6) (rm a HH) := SG.trans sH.rm
          clear sH uG hrG htpG htqG SG
          walk_at "go"
          refine w_nePP hrH f1 htpH htqH f2 f3 ?_
          refine ⟨false, rfl, iteF ?_⟩
          walk_at "go"
          refine w_isi (b := true) (.base (.tup hrH)) (kit_ty (by decide +kernel)) ?_
          walk_at "go"
          refine iteT ?_
          walk_at "go"
          refine ⟨a, x, x', b, b', _, ps, ps', y, y', rfl, by omega, uH, hw6.same SH, hw6'.same SH, fun HZ sZ uZ => ?_⟩
          walk_at "go"
          exact k _ (Keep.ofR (S6.trans (SH.trans sZ))) (uZ.le (by omega))
        · walk_at "go"
          refine iteF ?_
          walk_at "go"
          refine w_isi (b := true) (.base (.tup hrG)) (kit_ty (by decide +kernel)) ?_
          walk_at "go"
          refine iteT ?_
          walk_at "go"
          refine ⟨a, x, x', b, b', _, ps, ps', y, y', rfl, by omega, uG, hw6.same SG, hw6'.same SG, fun HZ sZ uZ => ?_⟩
          walk_at "go"
          exact k _ (Keep.ofR (S6.trans (SG.trans sZ))) (uZ.le (by omega))
noncomputable abbrev s_law : Stmt := (top 52)
theorem sc_law : FnScope ["_law_script", "_law_at", "_law_purse_here", "_law_turn", "_law_first_here", "_law_second", "_law_more"] ["_law_script"] (defScope s_law) :=
  ⟨rfl, rfl, rfl, by decide +kernel, rfl, by decide +kernel, by decide +kernel⟩
theorem ok_law {c : CA} {Ci Cs Cu : Addr} {f : Addr} {fd : FuncData} (F : L2.Fun K "law" "law" s_law f fd) (T : Bt mg) (X : Kx K mg c) (c_purse : Cal P w K mg base 1 "_law_purse" (spPurse K) []) (c_right : Cal P w K mg base 8 "_law_right" spRight [])
    (c_modinit : Mak P w K mg base 3 "Modulus" c.md (spModInit c) []) (c_way2 : Mak P w K mg base 5 "Way" c.wy (spWayInit c) [.non]) (c_way3 : Mak P w K mg base 5 "Way" c.wy (spWayInit c) []) (c_mk1 : MakK P w K mg base 2 "Marking" c.kg ["low"] (spMkInit c) (fun vs zs => vs ++ zs ++ [.int 0, .bl false])) (c_mpair : CalX P w K mg base 5 "missed_pair" (spMissedX K c Ci Cs Cu) []) :
    FnOk P w K mg base L2.CX0 9 f fd ["_law_script"] (spLaw K) := by
  refine F.ok sc_law (fun vs H Q E h => ?_) (fun cdv A outer s H vs Q E hr h => ?_)
  · obtain ⟨a, ns, rfl, _⟩ := h
    rfl
  · obtain ⟨a, ns, rfl, hS, hl, k⟩ := h
    refine ⟨_, (pss_cons (ps_for PassesOwn.never rfl (pi_range1 (by rfl) T.range (pa_cons (pe_op op_add pe_int (pe_callB (cMin2 rfl) (by rfl) T.min (by decide +kernel) (pa_cons pe_int (pa_cons (pe_callB cLen (by rfl) T.len (by decide +kernel) (pa_cons (pv 0) pa_nil)) pa_nil)))) pa_nil)) (pg_name (i := 1) sc_law.nd rfl (Or.inl rfl)) (pss_cons (ps_set (i := 2) sc_law.nd rfl (Or.inl rfl) (pe_c c_purse hr (by decide) (by rfl) (pa_cons (pv 0) (pa_cons (pv 1) pa_nil))))
      (pss_one (ps_for PassesOwn.never rfl (pi_range1 (by rfl) T.range (pa_cons pe_int pa_nil)) (pg_name (i := 3) sc_law.nd rfl (Or.inl rfl)) (pss_one (ps_if (pt_not (pt_val (pe_c c_right hr (by decide) (by rfl) (pa_cons (pv 2) pa_nil)))) (pss_one (ps_ret pe_bl)) pss_nil))))))
      (pss_cons (ps_asg (pe_lc (own := [("_law_more", 6)]) (g := gName 6) (tt := tYes) (te := (tMake _ _ _ _ (tCons _ (tCons (tMake _ _ _ _ (tCons (tLst (tCons (tTup (tCons _ (tCons (tOp _ _ (tVar 6)) tNil))) tNil)) tNil)) (tCons _ tNil))))) rfl sc_law.nd (pi_range1 (by rfl) T.range (pa_cons pe_int pa_nil)) (blkOk_by (own := [("_law_more", 6)]) (N := ["_law_script", "_law_at", "_law_purse_here", "_law_turn", "_law_first_here", "_law_second", "_law_more"]) (sc := defScope s_law) (by decide +kernel)) (fun _ _ _ _ _ => (pg_name (i := 6) sc_law.nd rfl (Or.inl rfl))) (fun _ _ _ _ _ => pts_nil) (fun _ _ _ _ _ => (pe_mk c_way3 hr (by decide) (by rfl) (pa_cons pe_int (pa_cons (pe_mk c_modinit hr (by decide) (by rfl) (pa_cons (pe_lst (pa_cons (pe_tup (pa_cons pe_int (pa_cons (pe_op op_add pe_int (pv 6)) pa_nil))) pa_nil)) pa_nil)) (pa_cons (pe_mkK0 c_mk1 hr (by decide) (by rfl) (pk_cons pe_bl pk_nil)) pa_nil)))))) (pg_unl rfl (pgs_cons (pg_name (i := 4) sc_law.nd rfl (Or.inl rfl)) (pgs_cons (pg_name (i := 5) sc_law.nd rfl (Or.inl rfl)) pgs_nil))))
      (pss_cons (ps_if (pt_cmpR (op_neD hr.units) (pe_cL c_mpair hr (by decide) (by rfl) (pa_cons (pv 4) (pa_cons (pv 5) (pa_cons pe_int pa_nil)))) (pe_tup (pa_cons (pe_tup (pa_cons pe_int (pa_cons pe_int (pa_cons pe_int pa_nil)))) (pa_cons (pe_tup (pa_cons pe_int (pa_cons pe_int (pa_cons pe_int pa_nil)))) pa_nil))) (nomark _)) (pss_one (ps_ret pe_bl)) pss_nil)
      (pss_cons (ps_if (pt_cmpR (op_neD hr.units) (pe_cL c_mpair hr (by decide) (by rfl) (pa_cons (pe_mk c_way2 hr (by decide) (by rfl) (pa_cons pe_int (pa_cons (pe_mk c_modinit hr (by decide) (by rfl) (pa_cons (pe_lst (pa_cons (pe_tup (pa_cons pe_int (pa_cons pe_int pa_nil))) pa_nil)) pa_nil)) pa_nil))) (pa_cons (pe_mk c_way2 hr (by decide) (by rfl) (pa_cons pe_int (pa_cons (pe_mk c_modinit hr (by decide) (by rfl) (pa_cons (pe_lst (pa_cons (pe_tup (pa_cons pe_int (pa_cons pe_int pa_nil))) pa_nil)) pa_nil)) pa_nil))) (pa_cons pe_int pa_nil)))) (pe_tup (pa_cons (pe_tup (pa_cons pe_int pa_nil)) (pa_cons (pe_tup (pa_cons pe_int pa_nil)) pa_nil))) (nomark _)) (pss_one (ps_ret pe_bl)) pss_nil)
      (pss_cons (ps_par (i := 4) (j := 5) (by rfl) sc_law.nd rfl rfl (by decide) rfl rfl (pa_cons (pe_mk c_way2 hr (by decide) (by rfl) (pa_cons pe_int (pa_cons (pe_mk c_modinit hr (by decide) (by rfl) (pa_cons (pe_lst (pa_cons (pe_tup (pa_cons pe_int (pa_cons pe_int pa_nil))) pa_nil)) pa_nil)) pa_nil))) (pa_cons (pe_mk c_way2 hr (by decide) (by rfl) (pa_cons pe_int (pa_cons (pe_mk c_modinit hr (by decide) (by rfl) (pa_cons (pe_lst (pa_cons (pe_tup (pa_cons pe_int (pa_cons pe_int pa_nil))) pa_nil)) pa_nil)) pa_nil))) pa_nil)) (by rfl))
      (pss_one (ps_ret (pe_and (pe_cmpR (op_eqD hr.units) (pe_cL c_mpair hr (by decide) (by rfl) (pa_cons (pv 4) (pa_cons (pv 5) (pa_cons pe_int pa_nil)))) (pe_tup (pa_cons (pe_op op_repT (pe_tup (pa_cons pe_int pa_nil)) pe_int) (pa_cons (pe_op op_repT (pe_tup (pa_cons pe_int pa_nil)) pe_int) pa_nil))) (nomark _)) (pe_one (pe_cmpR op_isN1 (pe_cL c_mpair hr (by decide) (by rfl) (pa_cons (pv 4) (pa_cons (pv 4) (pa_cons pe_int pa_nil)))) pe_non (nomark _))))))))))), ?_⟩
    walk_at "go"
    refine for_range (lo := 0) (fun i σ H' => ∃ (u1 u2 u3 : Option V), σ = [some (.ref a), u1, u2, u3, none, none, none] ∧ Same H H') ⟨none, none, none, rfl, Same.refl _⟩ ?_ ?_
    · rintro i σ H1 hi ⟨u1, u2, u3, rfl, s1⟩
      have hi8 : i ≤ 8 := by split at hi <;> omega
      walk_at "go"
      refine ⟨a, ns, _, rfl, s1.seq hS, by omega, by omega, fun p H2 np s2 pu => ?_⟩
      obtain ⟨c0, hc0, pu⟩ : ∃ c0 : Int, c0 < 2 ^ 45 ∧ Purse H2 p c0 := ⟨_, by omega, pu⟩
      walk_at "go"
      refine for_range (lo := 0) (n := 3) (fun j σ H' => ∃ (u4 : Option V), σ = [some (.ref a), some (.int (0 + (i : Int))), some (.ref p), u4, none, none, none] ∧ (∀ b o, b ≠ p → H2 b = some o → H' b = some o) ∧ Purse H' p (c0 + 10000 * j)) ⟨_, rfl, fun b o _ h => h, pu.le (by omega)⟩ ?_ ?_
      · rintro j σ H3 hj ⟨u4, rfl, k3, p3⟩
        walk_at "go"
        refine ⟨p, _, rfl, by omega, p3, fun H4 k4 p4 => ?_⟩
        walk_at "go"
        refine iteF ?_
        walk_at "go"
        exact ⟨_, rfl, fun b o hb h => k4 b o hb (k3 b o hb h), p4.le (by omega)⟩
      · rintro σ H3 ⟨u4, rfl, k3, p3⟩
        walk_at "go"
        exact ⟨_, _, _, rfl, s1.trans fun b o hb => k3 b o (fun e => by rw [e, np] at hb; cases hb) (s2 _ _ hb)⟩
    rintro σ H1 ⟨u1, u2, u3, rfl, s1⟩
    clear s1 hS hl hr
    walk_at "go"
    intro D nD
    refine lc_rel ((List.range 2).map fun i : Nat => V.int (0 + (i : Int))) (fun x y G => ∃ (z : Int) (wy : Addr), x = .int z ∧ y = .ref wy ∧ WayAt c G wy (2 % num [(2, 2 + z)]) [(2, 2 + z)] ⟨true, 0, false⟩) (fun x y G G' s z => by
        obtain ⟨z0, wy, e1, e2, e3⟩ := z
        exact ⟨z0, wy, e1, e2, e3.same s⟩) walk_rangeY nD (fun _ _ => trivial) (by show 2 ≤ 100000; decide) (fun _ => rfl) ?_ ?_
    · rintro i x1 H' hx s' ⟨acc, hacc⟩ Q' q'
      obtain ⟨z, rfl, hz⟩ : ∃ z : Int, x1 = .int z ∧ (z = 0 ∨ z = 1) := by
        match i, hx with
        | 0, hx => cases hx; exact ⟨_, rfl, .inl rfl⟩
        | 1, hx => cases hx; exact ⟨_, rfl, .inr rfl⟩
      walk_at "go"
      refine al fun t2 H2 n2 s2 ht2 => ?_
      walk_at "go"
      refine al fun l3 H3 n3 s3 hl3 => ?_
      walk_at "go"
      have hpr : PrL H3 l3 [(2, 2 + z)] := ⟨[t2], hl3, .cons (s3 _ _ ht2) .nil⟩
      refine use_modS hpr (by rcases hz with rfl | rfl <;> simp [Asc] <;> decide) (by rcases hz with rfl | rfl <;> exact small1 (by decide)) fun m4 H4 s4 hm4 => ?_
      walk_at "go"
      refine ⟨rfl, rfl, use_mk fun kg H5 _ s5 hk => ?_⟩
      walk_at "go"
      refine use_way (y := ⟨true, 0, false⟩) (hm4.same s5) (.inr ⟨kg, rfl, hk⟩) fun wy H6 n6 s6 hw6 => ?_
      refine q' _ _ (s2.trans (s3.trans (s4.trans (s5.trans s6)))) ⟨z, wy, rfl, rfl, ?_⟩
      have hD6 := s6 _ _ (s5 _ _ (s4 _ _ (s3 _ _ (s2 _ _ hacc))))
      exact hw6.rmG hD6 (fun _ _ _ e => by cases e) fun _ e => by cases e
    · intro H2 ys s2 h2 hys
      obtain ⟨w1, w2, rfl, hw1, hw2⟩ : ∃ w1 w2 : Addr, ys = [.ref w1, .ref w2] ∧ WayAt c H2 w1 (2 % num [(2, 2)]) [(2, 2)] ⟨true, 0, false⟩ ∧ WayAt c H2 w2 (2 % num [(2, 3)]) [(2, 3)] ⟨true, 0, false⟩ := by
        clear h2
        generalize hxs : ((List.range 2).map fun i : Nat => V.int (0 + (i : Int))) = xs at hys
        have hxs : xs = [.int 0, .int 1] := hxs.symm
        subst hxs
        cases hys with
        | cons h1 hys =>
          cases hys with
          | cons h2 hys =>
            cases hys with
            | nil =>
              obtain ⟨z1, w1, e1, rfl, g1⟩ := h1
              obtain ⟨z2, w2, e2, rfl, g2⟩ := h2
              cases e1
              cases e2
              exact ⟨w1, w2, rfl, g1, g2⟩
      clear hys
      walk_at "go"
      refine ⟨_, _, _, rfl, .inr (.inr ⟨w1, w2, _, _, _, _, _, _, rfl, rfl, hw1, hw2, .inr ⟨2, rfl, by decide, fun e => absurd rfl e, fun _ => ⟨by decide, by decide, by decide, fun hno => absurd hno least_a.notNo, fun m t u hm hP H3 r3 s3 hT => ?_⟩⟩⟩)⟩
      obtain ⟨rfl, rfl⟩ := pair_a (by rw [hm.uniq least_a] at hP; exact hP)
      clear hP hm
      walk_at "go"
      refine al fun a1 H4 n4 s4 ha1 => ?_
      have hT := hT.same s4
      walk_at "go"
      refine al fun a2 H5 n5 s5 ha2 => ?_
      have hT := hT.same s5
      have ha1 := s5 _ _ ha1
      walk_at "go"
      refine al fun a3 H6 n6 s6 ha3 => ?_
      have hT := hT.same s6
      have ha1 := s6 _ _ ha1
      have ha2 := s6 _ _ ha2
      walk_at "go"
      obtain ⟨x1, x2, g1, g2, g3⟩ := hT
      refine w_nePP (t := [0, 0, 0]) (u := [0, 0, 1]) g1 ha3 g2 g3 ha1 ha2 ?_
      refine ⟨false, rfl, iteF ?_⟩
      clear g1 g2 g3 ha1 ha2 ha3 hw1 hw2
      walk_at "go"
      refine al fun t3 H7 n7 s7 ht3 => ?_
      walk_at "go"
      refine al fun l3 H8 n8 s8 hl3 => ?_
      have ht3 := s8 _ _ ht3
      walk_at "go"
      have hpr3 : PrL H8 l3 [(3, 1)] := ⟨[t3], hl3, .cons ht3 .nil⟩
      refine use_modS hpr3 ⟨by decide, by decide, by decide, trivial⟩ (small1 (by decide)) fun m3 H9 s9 hm3 => ?_
      walk_at "go"
      refine use_wayN hm3 fun w3 H10 s10 hw3 => ?_
      walk_at "go"
      refine al fun t4 H11 n11 s11 ht4 => ?_
      have hw3 := hw3.same s11
      walk_at "go"
      refine al fun l4 H12 n12 s12 hl4 => ?_
      have hw3 := hw3.same s12
      have ht4 := s12 _ _ ht4
      walk_at "go"
      have hpr4 : PrL H12 l4 [(2, 1)] := ⟨[t4], hl4, .cons ht4 .nil⟩
      refine use_modS hpr4 ⟨by decide, by decide, by decide, trivial⟩ (small1 (by decide)) fun m4 H13 s13 hm4 => ?_
      have hw3 := hw3.same s13
      walk_at "go"
      refine use_wayN hm4 fun w4 H14 s14 hw4 => ?_
      have hw3 := hw3.same s14
      walk_at "go"
      refine ⟨_, _, _, rfl, .inr (.inr ⟨w3, w4, _, _, _, _, _, _, rfl, rfl, hw3, hw4, .inr ⟨4, rfl, by decide, fun e => absurd rfl e, fun _ => ⟨by decide, by decide, by decide, fun hno => absurd hno least_b.notNo, fun m t u hm hP H15 r15 s15 hT => ?_⟩⟩⟩)⟩
      obtain ⟨rfl, rfl⟩ := pair_b (by rw [hm.uniq least_b] at hP; exact hP)
      clear hP hm
      walk_at "go"
      refine al fun b1 H16 n16 s16 hb1 => ?_
      have hT := hT.same s16
      walk_at "go"
      refine al fun b2 H17 n17 s17 hb2 => ?_
      have hT := hT.same s17
      have hb1 := s17 _ _ hb1
      walk_at "go"
      refine al fun b3 H18 n18 s18 hb3 => ?_
      have hT := hT.same s18
      have hb1 := s18 _ _ hb1
      have hb2 := s18 _ _ hb2
      walk_at "go"
      obtain ⟨x3, x4, g4, g5, g6⟩ := hT
      refine w_nePP (t := [0]) (u := [3]) g4 hb3 g5 g6 hb1 hb2 ?_
      refine ⟨false, rfl, iteF ?_⟩
      clear g4 g5 g6 hb1 hb2 hb3 hw3 hw4
      walk_at "go"
      refine al fun t5 H19 n19 s19 ht5 => ?_
      walk_at "go"
      refine al fun l5 H20 n20 s20 hl5 => ?_
      have ht5 := s20 _ _ ht5
      walk_at "go"
      have hpr5 : PrL H20 l5 [(7, 1)] := ⟨[t5], hl5, .cons ht5 .nil⟩
      refine use_modS hpr5 ⟨by decide, by decide, by decide, trivial⟩ (small1 (by decide)) fun m5 H21 s21 hm5 => ?_
      walk_at "go"
      refine use_wayN hm5 fun w5 H22 s22 hw5 => ?_
      walk_at "go"
      refine al fun t6 H23 n23 s23 ht6 => ?_
      have hw5 := hw5.same s23
      walk_at "go"
      refine al fun l6 H24 n24 s24 hl6 => ?_
      have hw5 := hw5.same s24
      have ht6 := s24 _ _ ht6
      walk_at "go"
      have hpr6 : PrL H24 l6 [(2, 1)] := ⟨[t6], hl6, .cons ht6 .nil⟩
      refine use_modS hpr6 ⟨by decide, by decide, by decide, trivial⟩ (small1 (by decide)) fun m6 H25 s25 hm6 => ?_
      have hw5 := hw5.same s25
      walk_at "go"
      refine use_wayN hm6 fun w6 H26 s26 hw6 => ?_
      have hw5 := hw5.same s26
      walk_at "go"
      refine ⟨_, _, _, rfl, .inr (.inr ⟨w5, w6, _, _, _, _, _, _, rfl, rfl, hw5, hw6, .inr ⟨2, rfl, by decide, fun e => absurd rfl e, fun _ => ⟨by decide, by decide, by decide, fun hno => absurd hno least_c.notNo, fun m t u hm hP H27 r27 s27 hT => ?_⟩⟩⟩)⟩
      obtain ⟨rfl, rfl⟩ := pair_c (by rw [hm.uniq least_c] at hP; exact hP)
      clear hP hm
      have hw5 := hw5.same s27
      walk_at "go"
      refine al fun c1 H28 n28 s28 hc1 => ?_
      have hT := hT.same s28
      have hw5 := hw5.same s28
      walk_at "go"
      refine ⟨c1, 7, [.int 0], rfl, rfl, sqt hc1, by simp, by decide, by decide, by show 1 ≤ 1000; decide, fun c2 n29 => ?_⟩
      have s29 : Same H28 (upd H28 c2 (.tup (List.replicate (7 : Int).toNat [V.int 0]).flatten)) := Same.new n29
      have hc2 : (upd H28 c2 (.tup (List.replicate (7 : Int).toNat [V.int 0]).flatten)) c2 = some (.tup (([0, 0, 0, 0, 0, 0, 0] : List Int).map V.int)) := upd_same
      generalize upd H28 c2 (.tup (List.replicate (7 : Int).toNat [V.int 0]).flatten) = H29 at s29 hc2 ⊢
      have hT := hT.same s29
      have hw5 := hw5.same s29
      walk_at "go"
      refine al fun c3 H30 n30 s30 hc3 => ?_
      have hT := hT.same s30
      have hw5 := hw5.same s30
      have hc2 := s30 _ _ hc2
      walk_at "go"
      refine ⟨c3, 7, [.int 1], rfl, rfl, sqt hc3, by simp, by decide, by decide, by show 1 ≤ 1000; decide, fun c4 n31 => ?_⟩
      have s31 : Same H30 (upd H30 c4 (.tup (List.replicate (7 : Int).toNat [V.int 1]).flatten)) := Same.new n31
      have hc4 : (upd H30 c4 (.tup (List.replicate (7 : Int).toNat [V.int 1]).flatten)) c4 = some (.tup (([1, 1, 1, 1, 1, 1, 1] : List Int).map V.int)) := upd_same
      generalize upd H30 c4 (.tup (List.replicate (7 : Int).toNat [V.int 1]).flatten) = H31 at s31 hc4 ⊢
      have hT := hT.same s31
      have hw5 := hw5.same s31
      have hc2 := s31 _ _ hc2
      walk_at "go"
      refine al fun c5 H32 n32 s32 hc5 => ?_
      have hT := hT.same s32
      have hw5 := hw5.same s32
      have hc2 := s32 _ _ hc2
      have hc4 := s32 _ _ hc4
      walk_at "go"
      obtain ⟨x5, x6, g7, g8, g9⟩ := hT
      refine w_eqPP g7 hc5 g8 g9 hc2 hc4 ?_
      walk_at "go"
      refine iteT ?_
      walk_at "go"
      refine ⟨_, _, _, rfl, .inr (.inr ⟨w5, w5, _, _, _, _, _, _, rfl, rfl, hw5, hw5, .inr ⟨3, rfl, by decide, fun e => absurd rfl e, fun _ => ⟨by decide, by decide, by decide, fun hno HZ sZ => ?_, fun m t u hm _ => absurd noM_self hm.notNo⟩⟩⟩)⟩
      walk_at "go"
      exact k _
end
end Lw
namespace Lw
open PySem PySem.Spec PyProof.Rows L2 Bc
theorem all_mk {l : PySem.W.OpenLaw} {w : World} {K : PySem.W.Frag} {h : Heap} {mg : Str → Option Value} {fa Cm Ck Cw f1 f2 f3 f4 f5 f6 f7 f8 f9 f10 f11 f12 f13 f14 f15 f16 f17 f18 f19 f20 f21 f22 f23 f24 f25 f26 f27 f28 f29 f30 f31 D31 f32 f33 T33 f34 f35 f36 Ci f37 Cs f38 Cu Cp f39 f40 f41 f42 Cr f43 f44 f45 f46 : Addr} (X : K.In h) (G : h.Ns mainGlobals mg) (hfa : mg "law" = some (.ref fa))
    {od1 an1 : Option Addr} {sl1 : Array (Option Value)} {oc1 dc1 pm1 cd1 ct1 : Value}
    {kV1 : Value}
    {od2 an2 : Option Addr} {sl2 : Array (Option Value)} {oc2 dc2 pm2 cd2 ct2 : Value}
    {kV2 : Value}
    {od3 an3 : Option Addr} {sl3 : Array (Option Value)} {oc3 dc3 pm3 cd3 ct3 : Value}
    {kV3 : Value}
    {od4 an4 : Option Addr} {sl4 : Array (Option Value)} {oc4 dc4 pm4 cd4 ct4 : Value}
    {kV4 : Value}
    {od5 an5 : Option Addr} {sl5 : Array (Option Value)} {oc5 dc5 pm5 cd5 ct5 : Value}
    {kV5 : Value}
    {od6 an6 : Option Addr} {sl6 : Array (Option Value)} {oc6 dc6 pm6 cd6 ct6 : Value}
    {kV6 : Value}
    {od7 an7 : Option Addr} {sl7 : Array (Option Value)} {oc7 dc7 pm7 cd7 ct7 : Value}
    {kV7 : Value}
    {od8 an8 : Option Addr} {sl8 : Array (Option Value)} {oc8 dc8 pm8 cd8 ct8 : Value}
    {kV8 : Value}
    {od9 an9 : Option Addr} {sl9 : Array (Option Value)} {oc9 dc9 pm9 cd9 ct9 : Value}
    {kV9 : Value}
    {od10 an10 : Option Addr} {sl10 : Array (Option Value)} {oc10 dc10 pm10 cd10 ct10 : Value}
    {kV10 : Value}
    {od11 an11 : Option Addr} {sl11 : Array (Option Value)} {oc11 dc11 pm11 cd11 ct11 : Value}
    {kV11 : Value}
    {od12 an12 : Option Addr} {sl12 : Array (Option Value)} {oc12 dc12 pm12 cd12 ct12 : Value}
    {kV12 : Value}
    {od13 an13 : Option Addr} {sl13 : Array (Option Value)} {oc13 dc13 pm13 cd13 ct13 : Value}
    {kV13 : Value}
    {od14 an14 : Option Addr} {sl14 : Array (Option Value)} {oc14 dc14 pm14 cd14 ct14 : Value}
    {kV14 : Value}
    {od15 an15 : Option Addr} {sl15 : Array (Option Value)} {oc15 dc15 pm15 cd15 ct15 : Value}
    {kV15 : Value}
    {od16 an16 : Option Addr} {sl16 : Array (Option Value)} {oc16 dc16 pm16 cd16 ct16 : Value}
    {kV16 : Value}
    {od17 an17 : Option Addr} {sl17 : Array (Option Value)} {oc17 dc17 pm17 cd17 ct17 : Value}
    {kV17 : Value}
    {od18 an18 : Option Addr} {sl18 : Array (Option Value)} {oc18 dc18 pm18 cd18 ct18 : Value}
    {kV18 : Value}
    {od19 an19 : Option Addr} {sl19 : Array (Option Value)} {oc19 dc19 pm19 cd19 ct19 : Value}
    {kV19 : Value}
    {od20 an20 : Option Addr} {sl20 : Array (Option Value)} {oc20 dc20 pm20 cd20 ct20 : Value}
    {kV20 : Value}
    {od21 an21 : Option Addr} {sl21 : Array (Option Value)} {oc21 dc21 pm21 cd21 ct21 : Value}
    {kV21 : Value}
    {od22 an22 : Option Addr} {sl22 : Array (Option Value)} {oc22 dc22 pm22 cd22 ct22 : Value}
    {kV22 : Value}
    {od23 an23 : Option Addr} {sl23 : Array (Option Value)} {oc23 dc23 pm23 cd23 ct23 : Value}
    {kV23 : Value}
    {od24 an24 : Option Addr} {sl24 : Array (Option Value)} {oc24 dc24 pm24 cd24 ct24 : Value}
    {kV24 : Value}
    {od25 an25 : Option Addr} {sl25 : Array (Option Value)} {oc25 dc25 pm25 cd25 ct25 : Value}
    {kV25 : Value}
    {od26 an26 : Option Addr} {sl26 : Array (Option Value)} {oc26 dc26 pm26 cd26 ct26 : Value}
    {kV26 : Value}
    {od27 an27 : Option Addr} {sl27 : Array (Option Value)} {oc27 dc27 pm27 cd27 ct27 : Value}
    {kV27 : Value}
    {od28 an28 : Option Addr} {sl28 : Array (Option Value)} {oc28 dc28 pm28 cd28 ct28 : Value}
    {kV28 : Value}
    {od29 an29 : Option Addr} {sl29 : Array (Option Value)} {oc29 dc29 pm29 cd29 ct29 : Value}
    {kV29 : Value}
    {od30 an30 : Option Addr} {sl30 : Array (Option Value)} {oc30 dc30 pm30 cd30 ct30 : Value}
    {kV30 : Value}
    {od31 an31 : Option Addr} {sl31 : Array (Option Value)} {oc31 dc31 pm31 cd31 ct31 : Value}
    {tk31_1 : Tok}
    {od32 an32 : Option Addr} {sl32 : Array (Option Value)} {oc32 dc32 pm32 cd32 ct32 : Value}
    {kV32 : Value}
    {od33 an33 : Option Addr} {sl33 : Array (Option Value)} {oc33 dc33 pm33 cd33 ct33 : Value}
    {kV33 : Value}
    {To33 : Value} {Td33 : Option Addr} {Tn33 : Nat} {Ts33 : Array (Option Value)}
    {od34 an34 : Option Addr} {sl34 : Array (Option Value)} {oc34 dc34 pm34 cd34 ct34 : Value}
    {kV34 : Value}
    {od35 an35 : Option Addr} {sl35 : Array (Option Value)} {oc35 dc35 pm35 cd35 ct35 : Value}
    {kV35 : Value}
    {od36 an36 : Option Addr} {sl36 : Array (Option Value)} {oc36 dc36 pm36 cd36 ct36 : Value}
    {kV36 : Value}
    {nmCi qCi : Str} {NCi BCCi : Addr} {bsCi : List Value} {snCi : List Str} {subCi : List Value} {abCi : Bool} {colCi : Option Bool} {ddCi : Option Addr} {e0Ci e1Ci e2Ci e3Ci e5Ci : Option Value}
    {od37 an37 : Option Addr} {sl37 : Array (Option Value)} {oc37 dc37 pm37 cd37 ct37 : Value}
    {kV37 : Value}
    {nmCs qCs : Str} {NCs BCCs : Addr} {bsCs : List Value} {snCs : List Str} {subCs : List Value} {abCs : Bool} {colCs : Option Bool} {ddCs : Option Addr} {e0Cs e1Cs e2Cs e3Cs e5Cs : Option Value}
    {od38 an38 : Option Addr} {sl38 : Array (Option Value)} {oc38 dc38 pm38 cd38 ct38 : Value}
    {kV38 : Value}
    {od39 an39 : Option Addr} {sl39 : Array (Option Value)} {oc39 dc39 pm39 cd39 ct39 : Value}
    {kV39 : Value}
    {od40 an40 : Option Addr} {sl40 : Array (Option Value)} {oc40 dc40 pm40 cd40 ct40 : Value}
    {kV40 : Value}
    {od41 an41 : Option Addr} {sl41 : Array (Option Value)} {oc41 dc41 pm41 cd41 ct41 : Value}
    {kV41 : Value}
    {od42 an42 : Option Addr} {sl42 : Array (Option Value)} {oc42 dc42 pm42 cd42 ct42 : Value}
    {kV42 : Value}
    {od43 an43 : Option Addr} {sl43 : Array (Option Value)} {oc43 dc43 pm43 cd43 ct43 : Value}
    {kV43 : Value}
    {od44 an44 : Option Addr} {sl44 : Array (Option Value)} {oc44 dc44 pm44 cd44 ct44 : Value}
    {kV44 : Value}
    {od45 an45 : Option Addr} {sl45 : Array (Option Value)} {oc45 dc45 pm45 cd45 ct45 : Value}
    {kV45 : Value}
    {od46 an46 : Option Addr} {sl46 : Array (Option Value)} {oc46 dc46 pm46 cd46 ct46 : Value}
    {kV46 : Value}
    (z_len : PySem.W.nsIn K mainGlobals "len" = some none)
    (z_int : PySem.W.nsIn K mainGlobals "int" = some none)
    (z_abs : PySem.W.nsIn K mainGlobals "abs" = some none)
    (z_max : PySem.W.nsIn K mainGlobals "max" = some none)
    (z_min : PySem.W.nsIn K mainGlobals "min" = some none)
    (z_range : PySem.W.nsIn K mainGlobals "range" = some none)
    (z_isinstance : PySem.W.nsIn K mainGlobals "isinstance" = some none)
    (z_list : PySem.W.nsIn K mainGlobals "list" = some none)
    (z_tuple : PySem.W.nsIn K mainGlobals "tuple" = some none)
    (z_str : PySem.W.nsIn K mainGlobals "str" = some none)
    (z_bool : PySem.W.nsIn K mainGlobals "bool" = some none)
    (z_ord : PySem.W.nsIn K mainGlobals "ord" = some none)
    (z_all : PySem.W.nsIn K mainGlobals "all" = some none)
    (z_enumerate : PySem.W.nsIn K mainGlobals "enumerate" = some none)
    (z_zip : PySem.W.nsIn K mainGlobals "zip" = some none)
    (mCm : PySem.W.nsIn K mainGlobals "Modulus" = some (some (.ref Cm)))
    (pgCm : PySem.W.plainGet K Cm Str.empty = true)
    (hdCm : PySem.W.hasDictIn K Cm = true)
    (poCm : PySem.W.plainOver K Cm = true)
    (saCm : PySem.W.findIn K (.ref Cm) "__setattr__" = some (some (.builtin "object.__setattr__")))
    (haCm : PySem.W.findIn K (.ref Cm) "__class__" = some (some (.builtin "object.__class__")))
    (hmCm : PySem.W.mroIn K Cm (.type "object") = some true)
    (mkCm : PySem.W.makesIn K Cm = true)
    (kcCm : PySem.W.keepIn K (.ref Cm) = true)
    (objhn : PySem.W.specialIn K (.builtin "object.__class__") "__get__" = some (some (.builtin "getset_descriptor.__get__")))
    (objht : PySem.W.takesIn K (.builtin "object.__class__") = some true)
    (mCk : PySem.W.nsIn K mainGlobals "Marking" = some (some (.ref Ck)))
    (pgCk : PySem.W.plainGet K Ck Str.empty = true)
    (hdCk : PySem.W.hasDictIn K Ck = true)
    (poCk : PySem.W.plainOver K Ck = true)
    (saCk : PySem.W.findIn K (.ref Ck) "__setattr__" = some (some (.builtin "object.__setattr__")))
    (haCk : PySem.W.findIn K (.ref Ck) "__class__" = some (some (.builtin "object.__class__")))
    (hmCk : PySem.W.mroIn K Ck (.type "object") = some true)
    (mkCk : PySem.W.makesIn K Ck = true)
    (kcCk : PySem.W.keepIn K (.ref Ck) = true)
    (mCw : PySem.W.nsIn K mainGlobals "Way" = some (some (.ref Cw)))
    (pgCw : PySem.W.plainGet K Cw Str.empty = true)
    (hdCw : PySem.W.hasDictIn K Cw = true)
    (poCw : PySem.W.plainOver K Cw = true)
    (saCw : PySem.W.findIn K (.ref Cw) "__setattr__" = some (some (.builtin "object.__setattr__")))
    (haCw : PySem.W.findIn K (.ref Cw) "__class__" = some (some (.builtin "object.__class__")))
    (hmCw : PySem.W.mroIn K Cw (.type "object") = some true)
    (mkCw : PySem.W.makesIn K Cw = true)
    (kcCw : PySem.W.keepIn K (.ref Cw) = true)
    (nCm_number : PySem.W.findIn K (.ref Cm) "number" = some none)
    (nCm_factors : PySem.W.findIn K (.ref Cm) "factors" = some none)
    (nCk_low : PySem.W.findIn K (.ref Ck) "low" = some none)
    (nCk_shift : PySem.W.findIn K (.ref Ck) "shift" = some none)
    (nCk_lead : PySem.W.findIn K (.ref Ck) "lead" = some none)
    (nCw_marking : PySem.W.findIn K (.ref Cw) "marking" = some none)
    (nCw_modulus : PySem.W.findIn K (.ref Cw) "modulus" = some none)
    (nCw_number : PySem.W.findIn K (.ref Cw) "number" = some none)
    (nCw_base : PySem.W.findIn K (.ref Cw) "base" = some none)
    (a1 : PySem.W.nsIn K mainGlobals "is_integer" = some (some (.ref f1)))
    (l1 : K.lookup f1 = some ⟨oc1, od1, .func (PySem.W.fnOf "is_integer" "is_integer" (defArgs s_isint) (defBody s_isint) (defScope s_isint) .none kV1 dc1 pm1 an1 cd1 ct1), sl1⟩)
    (c1 : PySem.W.codeIn K cd1 "is_integer" = true)
    (k1 : PySem.W.keepIn K (.ref f1) = true)
    (a2 : PySem.W.nsIn K mainGlobals "raised" = some (some (.ref f2)))
    (l2 : K.lookup f2 = some ⟨oc2, od2, .func (PySem.W.fnOf "raised" "raised" (defArgs s_raised) (defBody s_raised) (defScope s_raised) .none kV2 dc2 pm2 an2 cd2 ct2), sl2⟩)
    (c2 : PySem.W.codeIn K cd2 "raised" = true)
    (k2 : PySem.W.keepIn K (.ref f2) = true)
    (a3 : PySem.W.nsIn K mainGlobals "is_prime_number" = some (some (.ref f3)))
    (l3 : K.lookup f3 = some ⟨oc3, od3, .func (PySem.W.fnOf "is_prime_number" "is_prime_number" (defArgs s_prime) (defBody s_prime) (defScope s_prime) .none kV3 dc3 pm3 an3 cd3 ct3), sl3⟩)
    (c3 : PySem.W.codeIn K cd3 "is_prime_number" = true)
    (k3 : PySem.W.keepIn K (.ref f3) = true)
    (a4 : PySem.W.nsIn K mainGlobals "is_factor" = some (some (.ref f4)))
    (l4 : K.lookup f4 = some ⟨oc4, od4, .func (PySem.W.fnOf "is_factor" "is_factor" (defArgs s_isfac) (defBody s_isfac) (defScope s_isfac) .none kV4 dc4 pm4 an4 cd4 ct4), sl4⟩)
    (c4 : PySem.W.codeIn K cd4 "is_factor" = true)
    (k4 : PySem.W.keepIn K (.ref f4) = true)
    (a5 : PySem.W.nsIn K mainGlobals "require_modulus" = some (some (.ref f5)))
    (l5 : K.lookup f5 = some ⟨oc5, od5, .func (PySem.W.fnOf "require_modulus" "require_modulus" (defArgs s_reqmod) (defBody s_reqmod) (defScope s_reqmod) .none kV5 dc5 pm5 an5 cd5 ct5), sl5⟩)
    (c5 : PySem.W.codeIn K cd5 "require_modulus" = true)
    (k5 : PySem.W.keepIn K (.ref f5) = true)
    (a6 : PySem.W.nsIn K mainGlobals "is_text" = some (some (.ref f6)))
    (l6 : K.lookup f6 = some ⟨oc6, od6, .func (PySem.W.fnOf "is_text" "is_text" (defArgs s_istext) (defBody s_istext) (defScope s_istext) .none kV6 dc6 pm6 an6 cd6 ct6), sl6⟩)
    (c6 : PySem.W.codeIn K cd6 "is_text" = true)
    (k6 : PySem.W.keepIn K (.ref f6) = true)
    (a7 : PySem.W.nsIn K mainGlobals "read" = some (some (.ref f7)))
    (l7 : K.lookup f7 = some ⟨oc7, od7, .func (PySem.W.fnOf "read" "read" (defArgs s_read) (defBody s_read) (defScope s_read) .none kV7 dc7 pm7 an7 cd7 ct7), sl7⟩)
    (c7 : PySem.W.codeIn K cd7 "read" = true)
    (k7 : PySem.W.keepIn K (.ref f7) = true)
    (a8 : PySem.W.nsIn K mainGlobals "require_text" = some (some (.ref f8)))
    (l8 : K.lookup f8 = some ⟨oc8, od8, .func (PySem.W.fnOf "require_text" "require_text" (defArgs s_reqtext) (defBody s_reqtext) (defScope s_reqtext) .none kV8 dc8 pm8 an8 cd8 ct8), sl8⟩)
    (c8 : PySem.W.codeIn K cd8 "require_text" = true)
    (k8 : PySem.W.keepIn K (.ref f8) = true)
    (a9 : PySem.W.nsIn K mainGlobals "marking_of" = some (some (.ref f9)))
    (l9 : K.lookup f9 = some ⟨oc9, od9, .func (PySem.W.fnOf "marking_of" "marking_of" (defArgs s_mkof) (defBody s_mkof) (defScope s_mkof) .none kV9 dc9 pm9 an9 cd9 ct9), sl9⟩)
    (c9 : PySem.W.codeIn K cd9 "marking_of" = true)
    (k9 : PySem.W.keepIn K (.ref f9) = true)
    (a10 : PySem.W.nsIn K mainGlobals "rest_at" = some (some (.ref f10)))
    (l10 : K.lookup f10 = some ⟨oc10, od10, .func (PySem.W.fnOf "rest_at" "rest_at" (defArgs s_restat) (defBody s_restat) (defScope s_restat) .none kV10 dc10 pm10 an10 cd10 ct10), sl10⟩)
    (c10 : PySem.W.codeIn K cd10 "rest_at" = true)
    (k10 : PySem.W.keepIn K (.ref f10) = true)
    (a11 : PySem.W.nsIn K mainGlobals "_law_mixed" = some (some (.ref f11)))
    (l11 : K.lookup f11 = some ⟨oc11, od11, .func (PySem.W.fnOf "_law_mixed" "_law_mixed" (defArgs s_mixed) (defBody s_mixed) (defScope s_mixed) .none kV11 dc11 pm11 an11 cd11 ct11), sl11⟩)
    (c11 : PySem.W.codeIn K cd11 "_law_mixed" = true)
    (k11 : PySem.W.keepIn K (.ref f11) = true)
    (a12 : PySem.W.nsIn K mainGlobals "_law_purse" = some (some (.ref f12)))
    (l12 : K.lookup f12 = some ⟨oc12, od12, .func (PySem.W.fnOf "_law_purse" "_law_purse" (defArgs s_purse) (defBody s_purse) (defScope s_purse) .none kV12 dc12 pm12 an12 cd12 ct12), sl12⟩)
    (c12 : PySem.W.codeIn K cd12 "_law_purse" = true)
    (k12 : PySem.W.keepIn K (.ref f12) = true)
    (a13 : PySem.W.nsIn K mainGlobals "_law_draw" = some (some (.ref f13)))
    (l13 : K.lookup f13 = some ⟨oc13, od13, .func (PySem.W.fnOf "_law_draw" "_law_draw" (defArgs s_draw) (defBody s_draw) (defScope s_draw) .none kV13 dc13 pm13 an13 cd13 ct13), sl13⟩)
    (c13 : PySem.W.codeIn K cd13 "_law_draw" = true)
    (k13 : PySem.W.keepIn K (.ref f13) = true)
    (a14 : PySem.W.nsIn K mainGlobals "_law_great" = some (some (.ref f14)))
    (l14 : K.lookup f14 = some ⟨oc14, od14, .func (PySem.W.fnOf "_law_great" "_law_great" (defArgs s_great) (defBody s_great) (defScope s_great) .none kV14 dc14 pm14 an14 cd14 ct14), sl14⟩)
    (c14 : PySem.W.codeIn K cd14 "_law_great" = true)
    (k14 : PySem.W.keepIn K (.ref f14) = true)
    (a15 : PySem.W.nsIn K mainGlobals "_law_style" = some (some (.ref f15)))
    (l15 : K.lookup f15 = some ⟨oc15, od15, .func (PySem.W.fnOf "_law_style" "_law_style" (defArgs s_style) (defBody s_style) (defScope s_style) .none kV15 dc15 pm15 an15 cd15 ct15), sl15⟩)
    (c15 : PySem.W.codeIn K cd15 "_law_style" = true)
    (k15 : PySem.W.keepIn K (.ref f15) = true)
    (a16 : PySem.W.nsIn K mainGlobals "_law_some_way" = some (some (.ref f16)))
    (l16 : K.lookup f16 = some ⟨oc16, od16, .func (PySem.W.fnOf "_law_some_way" "_law_some_way" (defArgs s_someway) (defBody s_someway) (defScope s_someway) .none kV16 dc16 pm16 an16 cd16 ct16), sl16⟩)
    (c16 : PySem.W.codeIn K cd16 "_law_some_way" = true)
    (k16 : PySem.W.keepIn K (.ref f16) = true)
    (a17 : PySem.W.nsIn K mainGlobals "_law_caught" = some (some (.ref f17)))
    (l17 : K.lookup f17 = some ⟨oc17, od17, .func (PySem.W.fnOf "_law_caught" "_law_caught" (defArgs s_caught) (defBody s_caught) (defScope s_caught) .none kV17 dc17 pm17 an17 cd17 ct17), sl17⟩)
    (c17 : PySem.W.codeIn K cd17 "_law_caught" = true)
    (k17 : PySem.W.keepIn K (.ref f17) = true)
    (a18 : PySem.W.nsIn K mainGlobals "_law_doors_right" = some (some (.ref f18)))
    (l18 : K.lookup f18 = some ⟨oc18, od18, .func (PySem.W.fnOf "_law_doors_right" "_law_doors_right" (defArgs s_doors) (defBody s_doors) (defScope s_doors) .none kV18 dc18 pm18 an18 cd18 ct18), sl18⟩)
    (c18 : PySem.W.codeIn K cd18 "_law_doors_right" = true)
    (k18 : PySem.W.keepIn K (.ref f18) = true)
    (a19 : PySem.W.nsIn K mainGlobals "_law_fewest" = some (some (.ref f19)))
    (l19 : K.lookup f19 = some ⟨oc19, od19, .func (PySem.W.fnOf "_law_fewest" "_law_fewest" (defArgs s_fewest) (defBody s_fewest) (defScope s_fewest) .none kV19 dc19 pm19 an19 cd19 ct19), sl19⟩)
    (c19 : PySem.W.codeIn K cd19 "_law_fewest" = true)
    (k19 : PySem.W.keepIn K (.ref f19) = true)
    (a20 : PySem.W.nsIn K mainGlobals "_law_rows" = some (some (.ref f20)))
    (l20 : K.lookup f20 = some ⟨oc20, od20, .func (PySem.W.fnOf "_law_rows" "_law_rows" (defArgs s_rows) (defBody s_rows) (defScope s_rows) .none kV20 dc20 pm20 an20 cd20 ct20), sl20⟩)
    (c20 : PySem.W.codeIn K cd20 "_law_rows" = true)
    (k20 : PySem.W.keepIn K (.ref f20) = true)
    (a21 : PySem.W.nsIn K mainGlobals "_law_first" = some (some (.ref f21)))
    (l21 : K.lookup f21 = some ⟨oc21, od21, .func (PySem.W.fnOf "_law_first" "_law_first" (defArgs s_first73) (defBody s_first73) (defScope s_first73) .none kV21 dc21 pm21 an21 cd21 ct21), sl21⟩)
    (c21 : PySem.W.codeIn K cd21 "_law_first" = true)
    (k21 : PySem.W.keepIn K (.ref f21) = true)
    (a22 : PySem.W.nsIn K mainGlobals "_law_right" = some (some (.ref f22)))
    (l22 : K.lookup f22 = some ⟨oc22, od22, .func (PySem.W.fnOf "_law_right" "_law_right" (defArgs s_right) (defBody s_right) (defScope s_right) .none kV22 dc22 pm22 an22 cd22 ct22), sl22⟩)
    (c22 : PySem.W.codeIn K cd22 "_law_right" = true)
    (k22 : PySem.W.keepIn K (.ref f22) = true)
    (a23 : PySem.W.nsIn K mainGlobals "weighed" = some (some (.ref f23)))
    (l23 : K.lookup f23 = some ⟨oc23, od23, .func (PySem.W.fnOf "weighed" "weighed" (defArgs s_weighed) (defBody s_weighed) (defScope s_weighed) .none kV23 dc23 pm23 an23 cd23 ct23), sl23⟩)
    (c23 : PySem.W.codeIn K cd23 "weighed" = true)
    (k23 : PySem.W.keepIn K (.ref f23) = true)
    (a24 : PySem.W.nsIn K mainGlobals "missed_length" = some (some (.ref f24)))
    (l24 : K.lookup f24 = some ⟨oc24, od24, .func (PySem.W.fnOf "missed_length" "missed_length" (defArgs s_mislen) (defBody s_mislen) (defScope s_mislen) .none kV24 dc24 pm24 an24 cd24 ct24), sl24⟩)
    (c24 : PySem.W.codeIn K cd24 "missed_length" = true)
    (k24 : PySem.W.keepIn K (.ref f24) = true)
    (a25 : PySem.W.nsIn K mainGlobals "rests_of" = some (some (.ref f25)))
    (l25 : K.lookup f25 = some ⟨oc25, od25, .func (PySem.W.fnOf "rests_of" "rests_of" (defArgs s_restsof) (defBody s_restsof) (defScope s_restsof) .none kV25 dc25 pm25 an25 cd25 ct25), sl25⟩)
    (c25 : PySem.W.codeIn K cd25 "rests_of" = true)
    (k25 : PySem.W.keepIn K (.ref f25) = true)
    (a26 : PySem.W.nsIn K mainGlobals "first_letters" = some (some (.ref f26)))
    (l26 : K.lookup f26 = some ⟨oc26, od26, .func (PySem.W.fnOf "first_letters" "first_letters" (defArgs s_firstl) (defBody s_firstl) (defScope s_firstl) .none kV26 dc26 pm26 an26 cd26 ct26), sl26⟩)
    (c26 : PySem.W.codeIn K cd26 "first_letters" = true)
    (k26 : PySem.W.keepIn K (.ref f26) = true)
    (a27 : PySem.W.nsIn K mainGlobals "require_one_way" = some (some (.ref f27)))
    (l27 : K.lookup f27 = some ⟨oc27, od27, .func (PySem.W.fnOf "require_one_way" "require_one_way" (defArgs s_reqonex) (defBody s_reqonex) (defScope s_reqonex) .none kV27 dc27 pm27 an27 cd27 ct27), sl27⟩)
    (c27 : PySem.W.codeIn K cd27 "require_one_way" = true)
    (k27 : PySem.W.keepIn K (.ref f27) = true)
    (a28 : PySem.W.nsIn K mainGlobals "require_stock" = some (some (.ref f28)))
    (l28 : K.lookup f28 = some ⟨oc28, od28, .func (PySem.W.fnOf "require_stock" "require_stock" (defArgs s_reqstockx) (defBody s_reqstockx) (defScope s_reqstockx) .none kV28 dc28 pm28 an28 cd28 ct28), sl28⟩)
    (c28 : PySem.W.codeIn K cd28 "require_stock" = true)
    (k28 : PySem.W.keepIn K (.ref f28) = true)
    (a29 : PySem.W.nsIn K mainGlobals "require_like" = some (some (.ref f29)))
    (l29 : K.lookup f29 = some ⟨oc29, od29, .func (PySem.W.fnOf "require_like" "require_like" (defArgs s_reqlikex) (defBody s_reqlikex) (defScope s_reqlikex) .none kV29 dc29 pm29 an29 cd29 ct29), sl29⟩)
    (c29 : PySem.W.codeIn K cd29 "require_like" = true)
    (k29 : PySem.W.keepIn K (.ref f29) = true)
    (a30 : PySem.W.findIn K (.ref Cm) "__init__" = some (some (.ref f30)))
    (i30 : PySem.W.isFn K (.ref f30) = true)
    (l30 : K.lookup f30 = some ⟨oc30, od30, .func (PySem.W.fnOf "__init__" "Modulus.__init__" (defArgs s_modinit) (defBody s_modinit) (defScope s_modinit) .none kV30 dc30 pm30 an30 cd30 ct30), sl30⟩)
    (c30 : PySem.W.codeIn K cd30 "Modulus.__init__" = true)
    (k30 : PySem.W.keepIn K (.ref f30) = true)
    (a31 : PySem.W.findIn K (.ref Ck) "__init__" = some (some (.ref f31)))
    (i31 : PySem.W.isFn K (.ref f31) = true)
    (l31 : K.lookup f31 = some ⟨oc31, od31, .func (PySem.W.fnOf "__init__" "Marking.__init__" (defArgs s_mkinit) (defBody s_mkinit) (defScope s_mkinit) .none (.ref D31) dc31 pm31 an31 cd31 ct31), sl31⟩)
    (c31 : PySem.W.codeIn K cd31 "Marking.__init__" = true)
    (k31 : PySem.W.keepIn K (.ref f31) = true)
    (d31_0 : PySem.W.nsIn K D31 "low" = some (some (.bool false)))
    (d31_1 : PySem.W.nsIn K D31 "shift" = some (some (.int 0 tk31_1)))
    (d31_2 : PySem.W.nsIn K D31 "lead" = some (some (.bool false)))
    (a32 : PySem.W.findIn K (.ref Ck) "highest_first" = some (some (.ref f32)))
    (i32 : PySem.W.isFn K (.ref f32) = true)
    (l32 : K.lookup f32 = some ⟨oc32, od32, .func (PySem.W.fnOf "highest_first" "Marking.highest_first" (defArgs s_hf) (defBody s_hf) (defScope s_hf) .none kV32 dc32 pm32 an32 cd32 ct32), sl32⟩)
    (c32 : PySem.W.codeIn K cd32 "Marking.highest_first" = true)
    (k32 : PySem.W.keepIn K (.ref f32) = true)
    (a33 : PySem.W.findIn K (.ref Cw) "__init__" = some (some (.ref f33)))
    (i33 : PySem.W.isFn K (.ref f33) = true)
    (l33 : K.lookup f33 = some ⟨oc33, od33, .func (PySem.W.fnOf "__init__" "Way.__init__" (defArgs s_wayinit) (defBody s_wayinit) (defScope s_wayinit) (.ref T33) kV33 dc33 pm33 an33 cd33 ct33), sl33⟩)
    (c33 : PySem.W.codeIn K cd33 "Way.__init__" = true)
    (k33 : PySem.W.keepIn K (.ref f33) = true)
    (t33 : K.lookup T33 = some ⟨To33, Td33, .seq [.none].toArray Tn33, Ts33⟩)
    (a34 : PySem.W.findIn K (.ref Cw) "of_letters" = some (some (.ref f34)))
    (i34 : PySem.W.isFn K (.ref f34) = true)
    (l34 : K.lookup f34 = some ⟨oc34, od34, .func (PySem.W.fnOf "of_letters" "Way.of_letters" (defArgs s_ofl) (defBody s_ofl) (defScope s_ofl) .none kV34 dc34 pm34 an34 cd34 ct34), sl34⟩)
    (c34 : PySem.W.codeIn K cd34 "Way.of_letters" = true)
    (k34 : PySem.W.keepIn K (.ref f34) = true)
    (a35 : PySem.W.findIn K (.ref Cw) "agree" = some (some (.ref f35)))
    (i35 : PySem.W.isFn K (.ref f35) = true)
    (l35 : K.lookup f35 = some ⟨oc35, od35, .func (PySem.W.fnOf "agree" "Way.agree" (defArgs s_agree) (defBody s_agree) (defScope s_agree) .none kV35 dc35 pm35 an35 cd35 ct35), sl35⟩)
    (c35 : PySem.W.codeIn K cd35 "Way.agree" = true)
    (k35 : PySem.W.keepIn K (.ref f35) = true)
    (a36 : PySem.W.findIn K (.ref Cw) "__call__" = some (some (.ref f36)))
    (i36 : PySem.W.isFn K (.ref f36) = true)
    (l36 : K.lookup f36 = some ⟨oc36, od36, .func (PySem.W.fnOf "__call__" "Way.__call__" (defArgs s_call) (defBody s_call) (defScope s_call) .none kV36 dc36 pm36 an36 cd36 ct36), sl36⟩)
    (c36 : PySem.W.codeIn K cd36 "Way.__call__" = true)
    (k36 : PySem.W.keepIn K (.ref f36) = true)
    (mCi : PySem.W.nsIn K mainGlobals "InvalidWay" = some (some (.ref Ci)))
    (xCi : K.lookup Ci = some (excClassObj nmCi qCi Ci NCi bsCi [.ref BCCi, .type "ValueError", .type "Exception", .type "BaseException", .type "object"] true snCi subCi abCi colCi ddCi e0Ci e1Ci e2Ci e3Ci e5Ci "ValueError.__new__"))
    (saCi : PySem.W.findIn K (.ref Ci) "__setattr__" = some (some (.builtin "object.__setattr__")))
    (gaCi : PySem.W.findIn K (.ref Ci) "__getattribute__" = some (some (.builtin "BaseException.__getattribute__")))
    (ggCi : PySem.W.findIn K (.ref Ci) "__getattr__" = some none)
    (nfCi : PySem.W.findIn K (.ref Ci) "thing" = some none)
    (kcCi : PySem.W.keepIn K (.ref Ci) = true)
    (eCCi : PySem.W.subIn K (.ref Ci) (.type "BaseException") = some true)
    (tCCi : PySem.W.typeIn K (.ref Ci) = some (.type "type"))
    (hCCi : PySem.W.hasDictIn K Ci = true)
    (iCCi : PySem.W.isClsIn K Ci = true)
    (sCCi : PySem.W.subIn K (.ref Ci) (.ref Ci) = some true)
    (a37 : PySem.W.findIn K (.ref Ci) "__init__" = some (some (.ref f37)))
    (i37 : PySem.W.isFn K (.ref f37) = true)
    (l37 : K.lookup f37 = some ⟨oc37, od37, .func (PySem.W.fnOf "__init__" "InvalidWay.__init__" (defArgs s_invway) (defBody s_invway) (defScope s_invway) .none kV37 dc37 pm37 an37 cd37 ct37), sl37⟩)
    (c37 : PySem.W.codeIn K cd37 "InvalidWay.__init__" = true)
    (k37 : PySem.W.keepIn K (.ref f37) = true)
    (tICi : PySem.W.typeIn K (.ref f37) = some (.type "function"))
    (mCs : PySem.W.nsIn K mainGlobals "InvalidStock" = some (some (.ref Cs)))
    (xCs : K.lookup Cs = some (excClassObj nmCs qCs Cs NCs bsCs [.ref BCCs, .type "ValueError", .type "Exception", .type "BaseException", .type "object"] true snCs subCs abCs colCs ddCs e0Cs e1Cs e2Cs e3Cs e5Cs "ValueError.__new__"))
    (saCs : PySem.W.findIn K (.ref Cs) "__setattr__" = some (some (.builtin "object.__setattr__")))
    (gaCs : PySem.W.findIn K (.ref Cs) "__getattribute__" = some (some (.builtin "BaseException.__getattribute__")))
    (ggCs : PySem.W.findIn K (.ref Cs) "__getattr__" = some none)
    (nfCs : PySem.W.findIn K (.ref Cs) "stock" = some none)
    (kcCs : PySem.W.keepIn K (.ref Cs) = true)
    (eCCs : PySem.W.subIn K (.ref Cs) (.type "BaseException") = some true)
    (tCCs : PySem.W.typeIn K (.ref Cs) = some (.type "type"))
    (hCCs : PySem.W.hasDictIn K Cs = true)
    (iCCs : PySem.W.isClsIn K Cs = true)
    (sCCs : PySem.W.subIn K (.ref Cs) (.ref Cs) = some true)
    (a38 : PySem.W.findIn K (.ref Cs) "__init__" = some (some (.ref f38)))
    (i38 : PySem.W.isFn K (.ref f38) = true)
    (l38 : K.lookup f38 = some ⟨oc38, od38, .func (PySem.W.fnOf "__init__" "InvalidStock.__init__" (defArgs s_invst) (defBody s_invst) (defScope s_invst) .none kV38 dc38 pm38 an38 cd38 ct38), sl38⟩)
    (c38 : PySem.W.codeIn K cd38 "InvalidStock.__init__" = true)
    (k38 : PySem.W.keepIn K (.ref f38) = true)
    (tICs : PySem.W.typeIn K (.ref f38) = some (.type "function"))
    (mCu : PySem.W.nsIn K mainGlobals "UnlikeMarkings" = some (some (.ref Cu)))
    (xCu : PySem.W.excIn K Cu [.type "ValueError", .type "Exception", .type "BaseException", .type "object"] "ValueError.__new__" = true)
    (kcCu : PySem.W.keepIn K (.ref Cu) = true)
    (eCCu : PySem.W.subIn K (.ref Cu) (.type "BaseException") = some true)
    (tCCu : PySem.W.typeIn K (.ref Cu) = some (.type "type"))
    (iCCu : PySem.W.isClsIn K Cu = true)
    (sCCu : PySem.W.subIn K (.ref Cu) (.ref Cu) = some true)
    (nuCu : PySem.W.subIn K (.ref Cu) (.ref Ci) = some false)
    (nuCs : PySem.W.subIn K (.ref Cu) (.ref Cs) = some false)
    (nsCs : PySem.W.subIn K (.ref Cs) (.ref Ci) = some false)
    (z_sorted : PySem.W.nsIn K mainGlobals "sorted" = some none)
    (z_set : PySem.W.nsIn K mainGlobals "set" = some none)
    (z_reversed : PySem.W.nsIn K mainGlobals "reversed" = some none)
    (mCp : PySem.W.nsIn K mainGlobals "Pairs" = some (some (.ref Cp)))
    (pgCp : PySem.W.plainGet K Cp Str.empty = true)
    (hdCp : PySem.W.hasDictIn K Cp = true)
    (poCp : PySem.W.plainOver K Cp = true)
    (saCp : PySem.W.findIn K (.ref Cp) "__setattr__" = some (some (.builtin "object.__setattr__")))
    (haCp : PySem.W.findIn K (.ref Cp) "__class__" = some (some (.builtin "object.__class__")))
    (hmCp : PySem.W.mroIn K Cp (.type "object") = some true)
    (mkCp : PySem.W.makesIn K Cp = true)
    (kcCp : PySem.W.keepIn K (.ref Cp) = true)
    (nCp_one : PySem.W.findIn K (.ref Cp) "one" = some none)
    (nCp_other : PySem.W.findIn K (.ref Cp) "other" = some none)
    (nCp_differences : PySem.W.findIn K (.ref Cp) "differences" = some none)
    (a39 : PySem.W.findIn K (.ref Cp) "__init__" = some (some (.ref f39)))
    (i39 : PySem.W.isFn K (.ref f39) = true)
    (l39 : K.lookup f39 = some ⟨oc39, od39, .func (PySem.W.fnOf "__init__" "Pairs.__init__" (defArgs s_prinit) (defBody s_prinit) (defScope s_prinit) .none kV39 dc39 pm39 an39 cd39 ct39), sl39⟩)
    (c39 : PySem.W.codeIn K cd39 "Pairs.__init__" = true)
    (k39 : PySem.W.keepIn K (.ref f39) = true)
    (a40 : PySem.W.findIn K (.ref Cp) "led" = some (some (.ref f40)))
    (i40 : PySem.W.isFn K (.ref f40) = true)
    (l40 : K.lookup f40 = some ⟨oc40, od40, .func (PySem.W.fnOf "led" "Pairs.led" (defArgs s_prled) (defBody s_prled) (defScope s_prled) .none kV40 dc40 pm40 an40 cd40 ct40), sl40⟩)
    (c40 : PySem.W.codeIn K cd40 "Pairs.led" = true)
    (k40 : PySem.W.keepIn K (.ref f40) = true)
    (a41 : PySem.W.findIn K (.ref Cp) "is_missed" = some (some (.ref f41)))
    (i41 : PySem.W.isFn K (.ref f41) = true)
    (l41 : K.lookup f41 = some ⟨oc41, od41, .func (PySem.W.fnOf "is_missed" "Pairs.is_missed" (defArgs s_prmiss) (defBody s_prmiss) (defScope s_prmiss) .none kV41 dc41 pm41 an41 cd41 ct41), sl41⟩)
    (c41 : PySem.W.codeIn K cd41 "Pairs.is_missed" = true)
    (k41 : PySem.W.keepIn K (.ref f41) = true)
    (a42 : PySem.W.findIn K (.ref Cp) "reach" = some (some (.ref f42)))
    (i42 : PySem.W.isFn K (.ref f42) = true)
    (l42 : K.lookup f42 = some ⟨oc42, od42, .func (PySem.W.fnOf "reach" "Pairs.reach" (defArgs s_reach) (defBody s_reach) (defScope s_reach) .none kV42 dc42 pm42 an42 cd42 ct42), sl42⟩)
    (c42 : PySem.W.codeIn K cd42 "Pairs.reach" = true)
    (k42 : PySem.W.keepIn K (.ref f42) = true)
    (mCr : PySem.W.nsIn K mainGlobals "Rests" = some (some (.ref Cr)))
    (pgCr : PySem.W.plainGet K Cr Str.empty = true)
    (hdCr : PySem.W.hasDictIn K Cr = true)
    (poCr : PySem.W.plainOver K Cr = true)
    (saCr : PySem.W.findIn K (.ref Cr) "__setattr__" = some (some (.builtin "object.__setattr__")))
    (haCr : PySem.W.findIn K (.ref Cr) "__class__" = some (some (.builtin "object.__class__")))
    (hmCr : PySem.W.mroIn K Cr (.type "object") = some true)
    (mkCr : PySem.W.makesIn K Cr = true)
    (kcCr : PySem.W.keepIn K (.ref Cr) = true)
    (nCr_one : PySem.W.findIn K (.ref Cr) "one" = some none)
    (nCr_other : PySem.W.findIn K (.ref Cr) "other" = some none)
    (nCr_sums : PySem.W.findIn K (.ref Cr) "sums" = some none)
    (nCr_least : PySem.W.findIn K (.ref Cr) "least" = some none)
    (nCr_greatest : PySem.W.findIn K (.ref Cr) "greatest" = some none)
    (a43 : PySem.W.findIn K (.ref Cr) "__init__" = some (some (.ref f43)))
    (i43 : PySem.W.isFn K (.ref f43) = true)
    (l43 : K.lookup f43 = some ⟨oc43, od43, .func (PySem.W.fnOf "__init__" "Rests.__init__" (defArgs s_rsinit) (defBody s_rsinit) (defScope s_rsinit) .none kV43 dc43 pm43 an43 cd43 ct43), sl43⟩)
    (c43 : PySem.W.codeIn K cd43 "Rests.__init__" = true)
    (k43 : PySem.W.keepIn K (.ref f43) = true)
    (a44 : PySem.W.findIn K (.ref Cr) "is_open" = some (some (.ref f44)))
    (i44 : PySem.W.isFn K (.ref f44) = true)
    (l44 : K.lookup f44 = some ⟨oc44, od44, .func (PySem.W.fnOf "is_open" "Rests.is_open" (defArgs s_rsopen) (defBody s_rsopen) (defScope s_rsopen) .none kV44 dc44 pm44 an44 cd44 ct44), sl44⟩)
    (c44 : PySem.W.codeIn K cd44 "Rests.is_open" = true)
    (k44 : PySem.W.keepIn K (.ref f44) = true)
    (a45 : PySem.W.nsIn K mainGlobals "missed_pair" = some (some (.ref f45)))
    (l45 : K.lookup f45 = some ⟨oc45, od45, .func (PySem.W.fnOf "missed_pair" "missed_pair" (defArgs s_mpair) (defBody s_mpair) (defScope s_mpair) .none kV45 dc45 pm45 an45 cd45 ct45), sl45⟩)
    (c45 : PySem.W.codeIn K cd45 "missed_pair" = true)
    (k45 : PySem.W.keepIn K (.ref f45) = true)
    (icCw : PySem.W.isClsIn K Cw = true)
    (tyCw : PySem.W.typeIn K (.ref Cw) = some (.type "type"))
    (ssCw : PySem.W.subIn K (.ref Cw) (.ref Cw) = some true)
    (nw_non : PySem.W.subIn K (.type "NoneType") (.ref Cw) = some false)
    (nw_int : PySem.W.subIn K (.type "int") (.ref Cw) = some false)
    (nw_bl : PySem.W.subIn K (.type "bool") (.ref Cw) = some false)
    (nw_str : PySem.W.subIn K (.type "str") (.ref Cw) = some false)
    (nw_lst : PySem.W.subIn K (.type "list") (.ref Cw) = some false)
    (nw_dct : PySem.W.subIn K (.type "dict") (.ref Cw) = some false)
    (nw_md : PySem.W.subIn K (.ref Cm) (.ref Cw) = some false)
    (a46 : PySem.W.nsIn K mainGlobals "law" = some (some (.ref f46)))
    (l46 : K.lookup f46 = some ⟨oc46, od46, .func (PySem.W.fnOf "law" "law" (defArgs s_law) (defBody s_law) (defScope s_law) .none kV46 dc46 pm46 an46 cd46 ct46), sl46⟩)
    (c46 : PySem.W.codeIn K cd46 "law" = true)
    (k46 : PySem.W.keepIn K (.ref f46) = true)
    (fi36 : PySem.W.fnIn K f36 = true) :
    ∃ fd : FuncData, (∀ (s : Shared) (v : Value), BindsTo s fd ⟨[v], []⟩ [("_law_script", v)]) ∧ ∀ base : Heap, K.In base → base.Ns mainGlobals mg → FnOk l.prog w K mg base L2.CX0 9 fa fd ["_law_script"] (spLaw K) := by
  have e := hfa.symm.trans (PySem.W.mg_of X G a46)
  cases e
  have T : Bt mg := ⟨PySem.W.mg_none_of X G z_len, PySem.W.mg_none_of X G z_int, PySem.W.mg_none_of X G z_abs, PySem.W.mg_none_of X G z_max, PySem.W.mg_none_of X G z_min, PySem.W.mg_none_of X G z_range, PySem.W.mg_none_of X G z_isinstance, PySem.W.mg_none_of X G z_list, PySem.W.mg_none_of X G z_tuple, PySem.W.mg_none_of X G z_str, PySem.W.mg_none_of X G z_bool, PySem.W.mg_none_of X G z_ord, PySem.W.mg_none_of X G z_all, PySem.W.mg_none_of X G z_enumerate, PySem.W.mg_none_of X G z_zip⟩
  have K_Cm : ClsF K Cm := ⟨⟨pgCm, hdCm, poCm, saCm⟩, haCm, objhn, objht, hmCm⟩
  have K_Ck : ClsF K Ck := ⟨⟨pgCk, hdCk, poCk, saCk⟩, haCk, objhn, objht, hmCk⟩
  have K_Cw : ClsF K Cw := ⟨⟨pgCw, hdCw, poCw, saCw⟩, haCw, objhn, objht, hmCw⟩
  have KX : Kx K mg ⟨Cm, Ck, Cw⟩ := ⟨K_Cm, K_Ck, K_Cw, PySem.W.mg_of X G mCm, PySem.W.mg_of X G mCk, PySem.W.mg_of X G mCw, nCm_number, nCm_factors, nCk_low, nCk_shift, nCk_lead, nCw_marking, nCw_modulus, nCw_number, nCw_base⟩
  have F_isint : Dn K mg "is_integer" s_isint ["thing"] := ⟨f1, _, fun_mk (st := s_isint) l1 c1 k1, PySem.W.mg_of X G a1, (fun_mk (st := s_isint) l1 c1 k1).binds (ps := ["thing"]) fun _ _ _ _ _ _ us hl => (by obtain ⟨_, rfl⟩ := lenL1 hl; exact rfl)⟩
  have F_raised : Dn K mg "raised" s_raised ["factor", "power"] := ⟨f2, _, fun_mk (st := s_raised) l2 c2 k2, PySem.W.mg_of X G a2, (fun_mk (st := s_raised) l2 c2 k2).binds (ps := ["factor", "power"]) fun _ _ _ _ _ _ us hl => (by obtain ⟨_, _, rfl⟩ := lenL2 hl; exact rfl)⟩
  have F_prime : Dn K mg "is_prime_number" s_prime ["number"] := ⟨f3, _, fun_mk (st := s_prime) l3 c3 k3, PySem.W.mg_of X G a3, (fun_mk (st := s_prime) l3 c3 k3).binds (ps := ["number"]) fun _ _ _ _ _ _ us hl => (by obtain ⟨_, rfl⟩ := lenL1 hl; exact rfl)⟩
  have F_isfac : Dn K mg "is_factor" s_isfac ["thing", "least"] := ⟨f4, _, fun_mk (st := s_isfac) l4 c4 k4, PySem.W.mg_of X G a4, (fun_mk (st := s_isfac) l4 c4 k4).binds (ps := ["thing", "least"]) fun _ _ _ _ _ _ us hl => (by obtain ⟨_, _, rfl⟩ := lenL2 hl; exact rfl)⟩
  have F_reqmod : Dn K mg "require_modulus" s_reqmod ["modulus"] := ⟨f5, _, fun_mk (st := s_reqmod) l5 c5 k5, PySem.W.mg_of X G a5, (fun_mk (st := s_reqmod) l5 c5 k5).binds (ps := ["modulus"]) fun _ _ _ _ _ _ us hl => (by obtain ⟨_, rfl⟩ := lenL1 hl; exact rfl)⟩
  have F_istext : Dn K mg "is_text" s_istext ["thing"] := ⟨f6, _, fun_mk (st := s_istext) l6 c6 k6, PySem.W.mg_of X G a6, (fun_mk (st := s_istext) l6 c6 k6).binds (ps := ["thing"]) fun _ _ _ _ _ _ us hl => (by obtain ⟨_, rfl⟩ := lenL1 hl; exact rfl)⟩
  have F_read : Dn K mg "read" s_read ["text"] := ⟨f7, _, fun_mk (st := s_read) l7 c7 k7, PySem.W.mg_of X G a7, (fun_mk (st := s_read) l7 c7 k7).binds (ps := ["text"]) fun _ _ _ _ _ _ us hl => (by obtain ⟨_, rfl⟩ := lenL1 hl; exact rfl)⟩
  have F_reqtext : Dn K mg "require_text" s_reqtext ["thing"] := ⟨f8, _, fun_mk (st := s_reqtext) l8 c8 k8, PySem.W.mg_of X G a8, (fun_mk (st := s_reqtext) l8 c8 k8).binds (ps := ["thing"]) fun _ _ _ _ _ _ us hl => (by obtain ⟨_, rfl⟩ := lenL1 hl; exact rfl)⟩
  have F_mkof : Dn K mg "marking_of" s_mkof ["marking"] := ⟨f9, _, fun_mk (st := s_mkof) l9 c9 k9, PySem.W.mg_of X G a9, (fun_mk (st := s_mkof) l9 c9 k9).binds (ps := ["marking"]) fun _ _ _ _ _ _ us hl => (by obtain ⟨_, rfl⟩ := lenL1 hl; exact rfl)⟩
  have F_restat : Dn K mg "rest_at" s_restat ["coefficients", "base", "number"] := ⟨f10, _, fun_mk (st := s_restat) l10 c10 k10, PySem.W.mg_of X G a10, (fun_mk (st := s_restat) l10 c10 k10).binds (ps := ["coefficients", "base", "number"]) fun _ _ _ _ _ _ us hl => (by obtain ⟨_, _, _, rfl⟩ := lenL3 hl; exact rfl)⟩
  have F_mixed : Dn K mg "_law_mixed" s_mixed ["_law_cell", "_law_k"] := ⟨f11, _, fun_mk (st := s_mixed) l11 c11 k11, PySem.W.mg_of X G a11, (fun_mk (st := s_mixed) l11 c11 k11).binds (ps := ["_law_cell", "_law_k"]) fun _ _ _ _ _ _ us hl => (by obtain ⟨_, _, rfl⟩ := lenL2 hl; exact rfl)⟩
  have F_purse : Dn K mg "_law_purse" s_purse ["_law_cells", "_law_at"] := ⟨f12, _, fun_mk (st := s_purse) l12 c12 k12, PySem.W.mg_of X G a12, (fun_mk (st := s_purse) l12 c12 k12).binds (ps := ["_law_cells", "_law_at"]) fun _ _ _ _ _ _ us hl => (by obtain ⟨_, _, rfl⟩ := lenL2 hl; exact rfl)⟩
  have F_draw : Dn K mg "_law_draw" s_draw ["_law_purse_here", "_law_out_of"] := ⟨f13, _, fun_mk (st := s_draw) l13 c13 k13, PySem.W.mg_of X G a13, (fun_mk (st := s_draw) l13 c13 k13).binds (ps := ["_law_purse_here", "_law_out_of"]) fun _ _ _ _ _ _ us hl => (by obtain ⟨_, _, rfl⟩ := lenL2 hl; exact rfl)⟩
  have F_great : Dn K mg "_law_great" s_great ["_law_purse_here", "_law_figures"] := ⟨f14, _, fun_mk (st := s_great) l14 c14 k14, PySem.W.mg_of X G a14, (fun_mk (st := s_great) l14 c14 k14).binds (ps := ["_law_purse_here", "_law_figures"]) fun _ _ _ _ _ _ us hl => (by obtain ⟨_, _, rfl⟩ := lenL2 hl; exact rfl)⟩
  have F_style : Dn K mg "_law_style" s_style ["_law_purse_here"] := ⟨f15, _, fun_mk (st := s_style) l15 c15 k15, PySem.W.mg_of X G a15, (fun_mk (st := s_style) l15 c15 k15).binds (ps := ["_law_purse_here"]) fun _ _ _ _ _ _ us hl => (by obtain ⟨_, rfl⟩ := lenL1 hl; exact rfl)⟩
  have F_someway : Dn K mg "_law_some_way" s_someway ["_law_purse_here", "_law_is_low"] := ⟨f16, _, fun_mk (st := s_someway) l16 c16 k16, PySem.W.mg_of X G a16, (fun_mk (st := s_someway) l16 c16 k16).binds (ps := ["_law_purse_here", "_law_is_low"]) fun _ _ _ _ _ _ us hl => (by obtain ⟨_, _, rfl⟩ := lenL2 hl; exact rfl)⟩
  have F_caught : Dn K mg "_law_caught" s_caught ["_law_first_here", "_law_second", "_law_many"] := ⟨f17, _, fun_mk (st := s_caught) l17 c17 k17, PySem.W.mg_of X G a17, (fun_mk (st := s_caught) l17 c17 k17).binds (ps := ["_law_first_here", "_law_second", "_law_many"]) fun _ _ _ _ _ _ us hl => (by obtain ⟨_, _, _, rfl⟩ := lenL3 hl; exact rfl)⟩
  have F_doors : Dn K mg "_law_doors_right" s_doors ["_law_purse_here", "_law_first_here", "_law_second"] := ⟨f18, _, fun_mk (st := s_doors) l18 c18 k18, PySem.W.mg_of X G a18, (fun_mk (st := s_doors) l18 c18 k18).binds (ps := ["_law_purse_here", "_law_first_here", "_law_second"]) fun _ _ _ _ _ _ us hl => (by obtain ⟨_, _, _, rfl⟩ := lenL3 hl; exact rfl)⟩
  have F_fewest : Dn K mg "_law_fewest" s_fewest ["_law_first_here", "_law_second", "_law_many"] := ⟨f19, _, fun_mk (st := s_fewest) l19 c19 k19, PySem.W.mg_of X G a19, (fun_mk (st := s_fewest) l19 c19 k19).binds (ps := ["_law_first_here", "_law_second", "_law_many"]) fun _ _ _ _ _ _ us hl => (by obtain ⟨_, _, _, rfl⟩ := lenL3 hl; exact rfl)⟩
  have F_rows : Dn K mg "_law_rows" s_rows ["_law_many", "_law_upto"] := ⟨f20, _, fun_mk (st := s_rows) l20 c20 k20, PySem.W.mg_of X G a20, (fun_mk (st := s_rows) l20 c20 k20).binds (ps := ["_law_many", "_law_upto"]) fun _ _ _ _ _ _ us hl => (by obtain ⟨_, _, rfl⟩ := lenL2 hl; exact rfl)⟩
  have F_first73 : Dn K mg "_law_first" s_first73 ["_law_first_here", "_law_second", "_law_many", "_law_fewest_here"] := ⟨f21, _, fun_mk (st := s_first73) l21 c21 k21, PySem.W.mg_of X G a21, (fun_mk (st := s_first73) l21 c21 k21).binds (ps := ["_law_first_here", "_law_second", "_law_many", "_law_fewest_here"]) fun _ _ _ _ _ _ us hl => (by obtain ⟨_, _, _, _, rfl⟩ := lenL4 hl; exact rfl)⟩
  have F_right : Dn K mg "_law_right" s_right ["_law_purse_here"] := ⟨f22, _, fun_mk (st := s_right) l22 c22 k22, PySem.W.mg_of X G a22, (fun_mk (st := s_right) l22 c22 k22).binds (ps := ["_law_purse_here"]) fun _ _ _ _ _ _ us hl => (by obtain ⟨_, rfl⟩ := lenL1 hl; exact rfl)⟩
  have F_weighed : Dn K mg "weighed" s_weighed ["way", "length"] := ⟨f23, _, fun_mk (st := s_weighed) l23 c23 k23, PySem.W.mg_of X G a23, (fun_mk (st := s_weighed) l23 c23 k23).binds (ps := ["way", "length"]) fun _ _ _ _ _ _ us hl => (by obtain ⟨_, _, rfl⟩ := lenL2 hl; exact rfl)⟩
  have F_mislen : Dn K mg "missed_length" s_mislen ["pairs", "reach"] := ⟨f24, _, fun_mk (st := s_mislen) l24 c24 k24, PySem.W.mg_of X G a24, (fun_mk (st := s_mislen) l24 c24 k24).binds (ps := ["pairs", "reach"]) fun _ _ _ _ _ _ us hl => (by obtain ⟨_, _, rfl⟩ := lenL2 hl; exact rfl)⟩
  have F_restsof : Dn K mg "rests_of" s_restsof ["one", "other", "choices"] := ⟨f25, _, fun_mk (st := s_restsof) l25 c25 k25, PySem.W.mg_of X G a25, (fun_mk (st := s_restsof) l25 c25 k25).binds (ps := ["one", "other", "choices"]) fun _ _ _ _ _ _ us hl => (by obtain ⟨_, _, _, rfl⟩ := lenL3 hl; exact rfl)⟩
  have F_firstl : Dn K mg "first_letters" s_firstl ["one", "other", "choices", "letters"] := ⟨f26, _, fun_mk (st := s_firstl) l26 c26 k26, PySem.W.mg_of X G a26, (fun_mk (st := s_firstl) l26 c26 k26).binds (ps := ["one", "other", "choices", "letters"]) fun _ _ _ _ _ _ us hl => (by obtain ⟨_, _, _, _, rfl⟩ := lenL4 hl; exact rfl)⟩
  have F_reqonex : Dn K mg "require_one_way" s_reqonex ["thing"] := ⟨f27, _, fun_mk (st := s_reqonex) l27 c27 k27, PySem.W.mg_of X G a27, (fun_mk (st := s_reqonex) l27 c27 k27).binds (ps := ["thing"]) fun _ _ _ _ _ _ us hl => (by obtain ⟨_, rfl⟩ := lenL1 hl; exact rfl)⟩
  have F_reqstockx : Dn K mg "require_stock" s_reqstockx ["stock"] := ⟨f28, _, fun_mk (st := s_reqstockx) l28 c28 k28, PySem.W.mg_of X G a28, (fun_mk (st := s_reqstockx) l28 c28 k28).binds (ps := ["stock"]) fun _ _ _ _ _ _ us hl => (by obtain ⟨_, rfl⟩ := lenL1 hl; exact rfl)⟩
  have F_reqlikex : Dn K mg "require_like" s_reqlikex ["one", "other"] := ⟨f29, _, fun_mk (st := s_reqlikex) l29 c29 k29, PySem.W.mg_of X G a29, (fun_mk (st := s_reqlikex) l29 c29 k29).binds (ps := ["one", "other"]) fun _ _ _ _ _ _ us hl => (by obtain ⟨_, _, rfl⟩ := lenL2 hl; exact rfl)⟩
  have F_modinit : FunD K "__init__" "Modulus.__init__" (defArgs s_modinit) (defBody s_modinit) (defScope s_modinit) [] [] f30 _ := ⟨⟨oc30, od30, .none, kV30, dc30, pm30, an30, cd30, ct30, sl30, rfl, l30, c30, .inl ⟨rfl, rfl⟩, .inl rfl⟩, k30⟩
  have B_modinit := F_modinit.bindsN (ps := ["self", "factors"]) fun _ _ _ _ _ _ us hl => (by obtain ⟨_, _, rfl⟩ := lenL2 hl; exact rfl)
  have F_mkinit : FunD K "__init__" "Marking.__init__" (defArgs s_mkinit) (defBody s_mkinit) (defScope s_mkinit) [] [("low", .bl false), ("shift", .int 0), ("lead", .bl false)] f31 _ := ⟨⟨oc31, od31, .none, (.ref D31), dc31, pm31, an31, cd31, ct31, sl31, rfl, l31, c31, .inl ⟨rfl, rfl⟩, .inr ⟨D31, rfl, fun q hq => by
    simp only [List.mem_cons, List.not_mem_nil, or_false] at hq
    rcases hq with rfl | rfl | rfl
    · exact ⟨_, d31_0, rfl⟩
    · exact ⟨_, d31_1, ⟨_, rfl⟩⟩
    · exact ⟨_, d31_2, rfl⟩⟩⟩, k31⟩
  have F_hf : FunD K "highest_first" "Marking.highest_first" (defArgs s_hf) (defBody s_hf) (defScope s_hf) [] [] f32 _ := ⟨⟨oc32, od32, .none, kV32, dc32, pm32, an32, cd32, ct32, sl32, rfl, l32, c32, .inl ⟨rfl, rfl⟩, .inl rfl⟩, k32⟩
  have B_hf := F_hf.bindsN (ps := ["self", "letters"]) fun _ _ _ _ _ _ us hl => (by obtain ⟨_, _, rfl⟩ := lenL2 hl; exact rfl)
  have F_wayinit : FunD K "__init__" "Way.__init__" (defArgs s_wayinit) (defBody s_wayinit) (defScope s_wayinit) [.non] [] f33 _ := ⟨⟨oc33, od33, (.ref T33), kV33, dc33, pm33, an33, cd33, ct33, sl33, rfl, l33, c33, .inr ⟨by simp, T33, _, _, _, rfl, t33, rfl, (.cons rfl .nil)⟩, .inl rfl⟩, k33⟩
  have F_ofl : FunD K "of_letters" "Way.of_letters" (defArgs s_ofl) (defBody s_ofl) (defScope s_ofl) [] [] f34 _ := ⟨⟨oc34, od34, .none, kV34, dc34, pm34, an34, cd34, ct34, sl34, rfl, l34, c34, .inl ⟨rfl, rfl⟩, .inl rfl⟩, k34⟩
  have B_ofl := F_ofl.bindsN (ps := ["self", "letters"]) fun _ _ _ _ _ _ us hl => (by obtain ⟨_, _, rfl⟩ := lenL2 hl; exact rfl)
  have F_agree : FunD K "agree" "Way.agree" (defArgs s_agree) (defBody s_agree) (defScope s_agree) [] [] f35 _ := ⟨⟨oc35, od35, .none, kV35, dc35, pm35, an35, cd35, ct35, sl35, rfl, l35, c35, .inl ⟨rfl, rfl⟩, .inl rfl⟩, k35⟩
  have B_agree := F_agree.bindsN (ps := ["self", "text", "other"]) fun _ _ _ _ _ _ us hl => (by obtain ⟨_, _, _, rfl⟩ := lenL3 hl; exact rfl)
  have F_call : FunD K "__call__" "Way.__call__" (defArgs s_call) (defBody s_call) (defScope s_call) [] [] f36 _ := ⟨⟨oc36, od36, .none, kV36, dc36, pm36, an36, cd36, ct36, sl36, rfl, l36, c36, .inl ⟨rfl, rfl⟩, .inl rfl⟩, k36⟩
  have B_call := F_call.bindsN (ps := ["self", "text"]) fun _ _ _ _ _ _ us hl => (by obtain ⟨_, _, rfl⟩ := lenL2 hl; exact rfl)
  have F_invway : FunD K "__init__" "InvalidWay.__init__" (defArgs s_invway) (defBody s_invway) (defScope s_invway) [] [] f37 _ := ⟨⟨oc37, od37, .none, kV37, dc37, pm37, an37, cd37, ct37, sl37, rfl, l37, c37, .inl ⟨rfl, rfl⟩, .inl rfl⟩, k37⟩
  have B_invway := F_invway.bindsN (ps := ["self", "thing"]) fun _ _ _ _ _ _ us hl => (by obtain ⟨_, _, rfl⟩ := lenL2 hl; exact rfl)
  have O_Ci : OexC K Ci := ⟨⟨nmCi, qCi, NCi, bsCi, _, snCi, subCi, abCi, colCi, ddCi, e0Ci, e1Ci, e2Ci, e3Ci, e5Ci, xCi, rfl⟩, saCi, eCCi, tCCi, kcCi⟩
  have e_invway : ErrC K mg "InvalidWay" Ci "thing" := ⟨PySem.W.mg_of X G mCi, ⟨gaCi, ggCi, eCCi, hCCi⟩, nfCi, exm_own eCCi iCCi tCCi sCCi⟩
  have F_invst : FunD K "__init__" "InvalidStock.__init__" (defArgs s_invst) (defBody s_invst) (defScope s_invst) [] [] f38 _ := ⟨⟨oc38, od38, .none, kV38, dc38, pm38, an38, cd38, ct38, sl38, rfl, l38, c38, .inl ⟨rfl, rfl⟩, .inl rfl⟩, k38⟩
  have B_invst := F_invst.bindsN (ps := ["self", "stock"]) fun _ _ _ _ _ _ us hl => (by obtain ⟨_, _, rfl⟩ := lenL2 hl; exact rfl)
  have O_Cs : OexC K Cs := ⟨⟨nmCs, qCs, NCs, bsCs, _, snCs, subCs, abCs, colCs, ddCs, e0Cs, e1Cs, e2Cs, e3Cs, e5Cs, xCs, rfl⟩, saCs, eCCs, tCCs, kcCs⟩
  have e_invst : ErrC K mg "InvalidStock" Cs "stock" := ⟨PySem.W.mg_of X G mCs, ⟨gaCs, ggCs, eCCs, hCCs⟩, nfCs, exm_own eCCs iCCs tCCs sCCs⟩
  have e_unlike : Err0 K mg "UnlikeMarkings" Cu := ⟨PySem.W.mg_of X G mCu, xCu, kcCu, eCCu, tCCu, exm_own eCCu iCCu tCCu sCCu⟩
  have zsorted : mg "sorted" = none := PySem.W.mg_none_of X G z_sorted
  have zset : mg "set" = none := PySem.W.mg_none_of X G z_set
  have zreversed : mg "reversed" = none := PySem.W.mg_none_of X G z_reversed
  have K_Cp : ClsF K Cp := ⟨⟨pgCp, hdCp, poCp, saCp⟩, haCp, objhn, objht, hmCp⟩
  have KP : KPr K mg Cp := ⟨K_Cp, PySem.W.mg_of X G mCp, nCp_one, nCp_other, nCp_differences⟩
  have F_prinit : FunD K "__init__" "Pairs.__init__" (defArgs s_prinit) (defBody s_prinit) (defScope s_prinit) [] [] f39 _ := ⟨⟨oc39, od39, .none, kV39, dc39, pm39, an39, cd39, ct39, sl39, rfl, l39, c39, .inl ⟨rfl, rfl⟩, .inl rfl⟩, k39⟩
  have B_prinit := F_prinit.bindsN (ps := ["self", "one", "other", "letters"]) fun _ _ _ _ _ _ us hl => (by obtain ⟨_, _, _, _, rfl⟩ := lenL4 hl; exact rfl)
  have F_prled : FunD K "led" "Pairs.led" (defArgs s_prled) (defBody s_prled) (defScope s_prled) [] [] f40 _ := ⟨⟨oc40, od40, .none, kV40, dc40, pm40, an40, cd40, ct40, sl40, rfl, l40, c40, .inl ⟨rfl, rfl⟩, .inl rfl⟩, k40⟩
  have B_prled := F_prled.bindsN (ps := ["self", "sums", "difference"]) fun _ _ _ _ _ _ us hl => (by obtain ⟨_, _, _, rfl⟩ := lenL3 hl; exact rfl)
  have F_prmiss : FunD K "is_missed" "Pairs.is_missed" (defArgs s_prmiss) (defBody s_prmiss) (defScope s_prmiss) [] [] f41 _ := ⟨⟨oc41, od41, .none, kV41, dc41, pm41, an41, cd41, ct41, sl41, rfl, l41, c41, .inl ⟨rfl, rfl⟩, .inl rfl⟩, k41⟩
  have B_prmiss := F_prmiss.bindsN (ps := ["self", "sums"]) fun _ _ _ _ _ _ us hl => (by obtain ⟨_, _, rfl⟩ := lenL2 hl; exact rfl)
  have F_reach : FunD K "reach" "Pairs.reach" (defArgs s_reach) (defBody s_reach) (defScope s_reach) [] [] f42 _ := ⟨⟨oc42, od42, .none, kV42, dc42, pm42, an42, cd42, ct42, sl42, rfl, l42, c42, .inl ⟨rfl, rfl⟩, .inl rfl⟩, k42⟩
  have B_reach := F_reach.bindsN (ps := ["self"]) fun _ _ _ _ _ _ us hl => (by obtain ⟨_, rfl⟩ := lenL1 hl; exact rfl)
  have K_Cr : ClsF K Cr := ⟨⟨pgCr, hdCr, poCr, saCr⟩, haCr, objhn, objht, hmCr⟩
  have KR : KRs K mg Cr := ⟨K_Cr, PySem.W.mg_of X G mCr, nCr_one, nCr_other, nCr_sums, nCr_least, nCr_greatest⟩
  have F_rsinit : FunD K "__init__" "Rests.__init__" (defArgs s_rsinit) (defBody s_rsinit) (defScope s_rsinit) [] [] f43 _ := ⟨⟨oc43, od43, .none, kV43, dc43, pm43, an43, cd43, ct43, sl43, rfl, l43, c43, .inl ⟨rfl, rfl⟩, .inl rfl⟩, k43⟩
  have B_rsinit := F_rsinit.bindsN (ps := ["self", "one", "other", "sums"]) fun _ _ _ _ _ _ us hl => (by obtain ⟨_, _, _, _, rfl⟩ := lenL4 hl; exact rfl)
  have F_rsopen : FunD K "is_open" "Rests.is_open" (defArgs s_rsopen) (defBody s_rsopen) (defScope s_rsopen) [] [] f44 _ := ⟨⟨oc44, od44, .none, kV44, dc44, pm44, an44, cd44, ct44, sl44, rfl, l44, c44, .inl ⟨rfl, rfl⟩, .inl rfl⟩, k44⟩
  have B_rsopen := F_rsopen.bindsN (ps := ["self", "sums"]) fun _ _ _ _ _ _ us hl => (by obtain ⟨_, _, rfl⟩ := lenL2 hl; exact rfl)
  have F_mpair : FunD K "missed_pair" "missed_pair" (defArgs s_mpair) (defBody s_mpair) (defScope s_mpair) [] [] f45 _ := ⟨⟨oc45, od45, .none, kV45, dc45, pm45, an45, cd45, ct45, sl45, rfl, l45, c45, .inl ⟨rfl, rfl⟩, .inl rfl⟩, k45⟩
  have B_mpair := F_mpair.bindsN (ps := ["one", "other", "stock"]) fun _ _ _ _ _ _ us hl => (by obtain ⟨_, _, _, rfl⟩ := lenL3 hl; exact rfl)
  have NW : NoW K ⟨Cm, Ck, Cw⟩ := ⟨kit_no rfl icCw tyCw nw_non, kit_no rfl icCw tyCw nw_int, kit_no rfl icCw tyCw nw_bl, kit_no rfl icCw tyCw nw_str, kit_no rfl icCw tyCw nw_lst, kit_no rfl icCw tyCw nw_dct, kit_no (ref_no nw_md ssCw) icCw tyCw nw_md⟩
  refine ⟨PySem.W.fnOf "law" "law" (defArgs s_law) (defBody s_law) (defScope s_law) .none kV46 dc46 pm46 an46 cd46 ct46, fun s v => .of_eq rfl, fun base _ _ => ?_⟩
  have c_isint := ok_isint (P := l.prog) (w := w) (K := K) (mg := mg) (base := base) F_isint T
  have c_raised := ok_raised (P := l.prog) (w := w) (K := K) (mg := mg) (base := base) F_raised T
  have c_prime := ok_prime (P := l.prog) (w := w) (K := K) (mg := mg) (base := base) F_prime T
  have c_isfac := ok_isfac F_isfac T c_isint c_prime
  have g_modinit := ok_modinit (c := ⟨Cm, Ck, Cw⟩) F_modinit T KX c_isfac c_raised
  have c_modinit : C8.Mak l.prog w K mg base 3 "Modulus" Cm (spModInit ⟨Cm, Ck, Cw⟩) [] := ⟨f30, _, _, _, ⟨mkCm, a30, i30, kcCm⟩, g_modinit, PySem.W.mg_of X G mCm, B_modinit, .nil⟩
  have c_reqmod := ok_reqmod (P := l.prog) (w := w) (K := K) (mg := mg) (base := base) F_reqmod T KX
  have c_istext := ok_istext F_istext T c_isint
  have c_read := ok_read (P := l.prog) (w := w) (K := K) (mg := mg) (base := base) F_read T
  have c_reqtext := ok_reqtext F_reqtext T c_istext c_read
  have g_mkinit := ok_mkinit (c := ⟨Cm, Ck, Cw⟩) F_mkinit T KX c_isint
  obtain ⟨ds0, vds0, bds0⟩ := F_mkinit.binds0 (ps := ["self", "low", "shift", "lead"]) 1 (by simp) rfl (fun _ _ _ _ _ _ us ks h1 h2 => match us, ks, h1, h2 with | [_], [_, _, _], _, _ => ⟨_, _, _, _, _, _, rfl, rfl, ⟨_, _, _, _, _, _, rfl, rfl, ⟨_, _, _, _, _, _, rfl, rfl, rfl⟩⟩⟩)
  have c_mk0 : C8.Mak l.prog w K mg base 2 "Marking" Ck (spMkInit ⟨Cm, Ck, Cw⟩) [.bl false, .int 0, .bl false] := ⟨f31, _, _, ds0, ⟨mkCk, a31, i31, kcCk⟩, g_mkinit, PySem.W.mg_of X G mCk, bds0, vds0⟩
  obtain ⟨mv3, kb3⟩ := F_mkinit.kbinds0 (ps := ["self", "low", "shift", "lead"]) 1 ["low", "shift", "lead"] [] (fun us _ ws => us ++ ws) (by simp) (fun q hq => by cases hq) (fun r1 _ r3 => r1.append r3) (fun _ _ _ _ _ _ us mv ws h1 h2 h3 => match us, ws, h1, h3 with | [_], [_, _, _], _, _ => rfl)
  have c_mk3 : MakK l.prog w K mg base 2 "Marking" Ck ["low", "shift", "lead"] (spMkInit ⟨Cm, Ck, Cw⟩) (fun vs zs => vs ++ zs) := ⟨f31, _, _, _, ⟨mkCk, a31, i31, kcCk⟩, g_mkinit, PySem.W.mg_of X G mCk, kb3⟩
  have g_hf := ok_hf (P := l.prog) (w := w) (base := base) (c := ⟨Cm, Ck, Cw⟩) F_hf T KX
  have c_hf : C8.Met l.prog w K mg base 1 Ck "highest_first" (spHf ⟨Cm, Ck, Cw⟩) [] := ⟨f32, _, _, [], KX.kg.cl, ⟨a32, i32, k32⟩, g_hf, B_hf, .nil⟩
  have c_mkof := ok_mkof F_mkof T KX c_mk0
  have c_restat := ok_restat (P := l.prog) (w := w) (K := K) (mg := mg) (base := base) F_restat T
  have g_way := ok_wayinit (c := ⟨Cm, Ck, Cw⟩) F_wayinit T KX c_isint c_reqmod c_mkof
  obtain ⟨dw2, vw2, bw2⟩ := F_wayinit.binds1 (ps := ["self", "base", "modulus", "marking"]) 3 0 (by simp) rfl (fun _ _ _ _ _ _ _ us its h1 h2 => match us, its, h1, h2 with | [_, _, _], [_], _, _ => ⟨_, rfl, rfl⟩)
  have c_way2 : C8.Mak l.prog w K mg base 5 "Way" Cw (spWayInit ⟨Cm, Ck, Cw⟩) [.non] := ⟨f33, _, _, dw2, ⟨mkCw, a33, i33, kcCw⟩, g_way, PySem.W.mg_of X G mCw, bw2, vw2⟩
  obtain ⟨dw3, vw3, bw3⟩ := F_wayinit.binds1 (ps := ["self", "base", "modulus", "marking"]) 4 1 (by simp) rfl (fun _ _ _ _ _ _ _ us its h1 h2 => match us, its, h1, h2 with | [_, _, _, _], [_], _, _ => ⟨_, rfl, rfl⟩)
  have c_way3 : C8.Mak l.prog w K mg base 5 "Way" Cw (spWayInit ⟨Cm, Ck, Cw⟩) [] := ⟨f33, _, _, dw3, ⟨mkCw, a33, i33, kcCw⟩, g_way, PySem.W.mg_of X G mCw, bw3, vw3⟩
  have g_ofl := ok_ofl (c := ⟨Cm, Ck, Cw⟩) F_ofl T KX c_restat c_hf
  have c_ofl : C8.Met l.prog w K mg base 2 Cw "of_letters" (spOfLetters ⟨Cm, Ck, Cw⟩) [] := ⟨f34, _, _, [], KX.wy.cl, ⟨a34, i34, k34⟩, g_ofl, B_ofl, .nil⟩
  have g_agree := ok_agree (c := ⟨Cm, Ck, Cw⟩) F_agree T KX c_reqtext c_ofl
  have c_agree : C8.Met l.prog w K mg base 4 Cw "agree" (spTwo ⟨Cm, Ck, Cw⟩ rAgree) [] := ⟨f35, _, _, [], KX.wy.cl, ⟨a35, i35, k35⟩, g_agree, B_agree, .nil⟩
  have g_call := ok_call (c := ⟨Cm, Ck, Cw⟩) F_call T KX c_reqtext c_ofl
  have c_callO : CalO l.prog w K mg base 4 Cw (spMarkOf ⟨Cm, Ck, Cw⟩) := ⟨f36, ⟨a36, i36, fi36⟩, (g_call.raw B_call .nil).imp fun vs H Q E h => by rw [List.append_nil]; exact h⟩
  have c_mixed := ok_mixed (P := l.prog) (w := w) (K := K) (mg := mg) (base := base) F_mixed T
  have c_purse := ok_purse (P := l.prog) (w := w) (K := K) (mg := mg) (base := base) F_purse T
  have c_draw := ok_draw F_draw T c_mixed
  have c_great := ok_great F_great T c_draw
  have c_style := ok_style F_style T c_draw c_great
  obtain ⟨mv1, kb1⟩ := F_mkinit.kbinds0 (ps := ["self", "low", "shift", "lead"]) 1 ["low"] [("shift", .int 0), ("lead", .bl false)] (fun us mv ws => us ++ ws ++ mv) (by simp) (fun q hq => by simp only [List.mem_cons, List.not_mem_nil, or_false] at hq; rcases hq with rfl | rfl <;> simp) (fun r1 r2 r3 => (r1.append r3).append r2) (fun _ _ _ _ _ _ us mv ws h1 h2 h3 => match us, mv, ws, h1, h2, h3 with | [_], [_, _], [_], _, _, _ => ⟨_, _, _, _, _, _, rfl, rfl, ⟨_, _, _, _, _, _, rfl, rfl, rfl⟩⟩)
  have c_mk1 : MakK l.prog w K mg base 2 "Marking" Ck ["low"] (spMkInit ⟨Cm, Ck, Cw⟩) (fun vs zs => vs ++ zs ++ [.int 0, .bl false]) := ⟨f31, _, _, _, ⟨mkCk, a31, i31, kcCk⟩, g_mkinit, PySem.W.mg_of X G mCk, kb1⟩
  have g_invway := ok_invway (P := l.prog) (w := w) (K := K) (mg := mg) (base := base) F_invway T O_Ci nfCi
  have c_invway : Err l.prog w K mg base 1 "InvalidWay" Ci "thing" := ⟨f37, _, _, O_Ci, a37, tICi, g_invway, B_invway, PySem.W.mg_of X G mCi⟩
  have g_invst := ok_invst (P := l.prog) (w := w) (K := K) (mg := mg) (base := base) F_invst T O_Cs nfCs
  have c_invst : Err l.prog w K mg base 1 "InvalidStock" Cs "stock" := ⟨f38, _, _, O_Cs, a38, tICs, g_invst, B_invst, PySem.W.mg_of X G mCs⟩
  have c_reqonex := ok_reqonex (c := ⟨Cm, Ck, Cw⟩) (Ci := Ci) F_reqonex T KX c_invway
  have c_reqstockx := ok_reqstockx (Cs := Cs) F_reqstockx T c_isint c_invst
  have ns := exm_no eCCi iCCi tCCi nsCs
  have nu := exm_no eCCi iCCi tCCi nuCu
  have nus := exm_no eCCs iCCs tCCs nuCs
  have c_reqlikex := ok_reqlikex (P := l.prog) (w := w) (K := K) (mg := mg) (base := base) (c := ⟨Cm, Ck, Cw⟩) (Cu := Cu) F_reqlikex T KX e_unlike
  have g_prinit := ok_prinit (P := l.prog) (w := w) (base := base) (c := ⟨Cm, Ck, Cw⟩) (Cp := Cp) F_prinit T KP
  have c_pr : C8.Mak l.prog w K mg base 1 "Pairs" Cp (spPrInit ⟨Cm, Ck, Cw⟩ Cp) [] := ⟨f39, _, _, _, ⟨mkCp, a39, i39, kcCp⟩, g_prinit, PySem.W.mg_of X G mCp, B_prinit, .nil⟩
  have g_prled := ok_prled (P := l.prog) (w := w) (base := base) (c := ⟨Cm, Ck, Cw⟩) (Cp := Cp) F_prled T KX KP
  have c_prled : C8.Met l.prog w K mg base 1 Cp "led" (spPrLed ⟨Cm, Ck, Cw⟩ Cp) [] := ⟨f40, _, _, [], KP.cl.cl, ⟨a40, i40, k40⟩, g_prled, B_prled, .nil⟩
  have g_prmiss := ok_prmiss (P := l.prog) (w := w) (base := base) (c := ⟨Cm, Ck, Cw⟩) (Cp := Cp) F_prmiss T KP
  have c_prmiss : C8.Met l.prog w K mg base 1 Cp "is_missed" (spPrMissed ⟨Cm, Ck, Cw⟩ Cp) [] := ⟨f41, _, _, [], KP.cl.cl, ⟨a41, i41, k41⟩, g_prmiss, B_prmiss, .nil⟩
  have g_reach := ok_reach (P := l.prog) (w := w) (base := base) (c := ⟨Cm, Ck, Cw⟩) (Cp := Cp) F_reach T KP c_prled
  have c_reach : C8.Met l.prog w K mg base 2 Cp "reach" (spReach ⟨Cm, Ck, Cw⟩ Cp) [] := ⟨f42, _, _, [], KP.cl.cl, ⟨a42, i42, k42⟩, g_reach, B_reach, .nil⟩
  have c_mislen := ok_mislen (c := ⟨Cm, Ck, Cw⟩) (Cp := Cp) F_mislen T KP c_prmiss
  have c_weighed := ok_weighed (P := l.prog) (w := w) (K := K) (mg := mg) (base := base) (c := ⟨Cm, Ck, Cw⟩) F_weighed T KX
  have g_rsinit := ok_rsinit (P := l.prog) (w := w) (base := base) (c := ⟨Cm, Ck, Cw⟩) (Cr := Cr) F_rsinit T KR
  have c_rs : C8.Mak l.prog w K mg base 1 "Rests" Cr (spRsInit ⟨Cm, Ck, Cw⟩ Cr) [] := ⟨f43, _, _, _, ⟨mkCr, a43, i43, kcCr⟩, g_rsinit, PySem.W.mg_of X G mCr, B_rsinit, .nil⟩
  have g_rsopen := ok_rsopen (P := l.prog) (w := w) (base := base) (c := ⟨Cm, Ck, Cw⟩) (Cr := Cr) F_rsopen T KX KR
  have c_rsopen : C8.Met l.prog w K mg base 1 Cr "is_open" (spRsOpen ⟨Cm, Ck, Cw⟩ Cr) [] := ⟨f44, _, _, [], KR.cl.cl, ⟨a44, i44, k44⟩, g_rsopen, B_rsopen, .nil⟩
  have c_restsof := ok_restsof (c := ⟨Cm, Ck, Cw⟩) (Cr := Cr) F_restsof T zreversed KX c_weighed c_rs
  have c_firstl := ok_firstl (c := ⟨Cm, Ck, Cw⟩) (Cr := Cr) F_firstl T zsorted zset KX KR c_weighed c_restsof c_rsopen
  have g_mpair := ok_mpair (c := ⟨Cm, Ck, Cw⟩) (Ci := Ci) (Cs := Cs) (Cu := Cu) (Cp := Cp) (Cr := Cr) F_mpair T KX c_reqonex c_reqstockx c_reqlikex c_pr c_reach c_mislen c_firstl
  have c_mpair : CalX l.prog w K mg base 5 "missed_pair" (spMissedX K ⟨Cm, Ck, Cw⟩ Ci Cs Cu) [] := ⟨f45, _, _, [], g_mpair, PySem.W.mg_of X G a45, k45, B_mpair, .nil⟩
  have c_mpairK : CalXK l.prog w K mg base 5 "missed_pair" ["stock", "other", "one"] (spMissedX K ⟨Cm, Ck, Cw⟩ Ci Cs Cu) (fun vs zs => vs ++ zs.reverse) := ⟨f45, _, _, fun us ws => us ++ ws.reverse, g_mpair, PySem.W.mg_of X G a45, k45, ⟨fun s us ws _ h1 h2 => .of_eq (match us, ws, h1, h2 with | [], [_, _, _], _, _ => rfl), fun r1 r2 => r1.append (vals_rev r2)⟩⟩
  have c_someway := ok_someway F_someway T KX c_draw c_style c_modinit c_way3 c_mk3
  have c_caught := ok_caught F_caught T e_invway e_invst e_unlike ns nu nus c_mpair
  have c_doors := ok_doors F_doors T KX NW c_draw c_way3 c_mk1 c_caught
  have c_fewest := ok_fewest (P := l.prog) (w := w) (K := K) (mg := mg) (base := base) (c := ⟨Cm, Ck, Cw⟩) F_fewest T KX
  have c_rows := ok_rows (P := l.prog) (w := w) (K := K) (mg := mg) (base := base) F_rows T
  have c_first73 := ok_first73 (c := ⟨Cm, Ck, Cw⟩) F_first73 T KX c_callO c_rows
  have c_right := ok_right F_right T KX c_draw c_someway c_mpair c_mpairK c_fewest c_doors c_callO c_first73
  exact ok_law (fun_mk (st := s_law) l46 c46 k46) T KX c_purse c_right c_modinit c_way2 c_way3 c_mk1 c_mpair
theorem walk {l : PySem.W.OpenLaw} {q : Program} {loose : List Str} {XP : (Str → Option Value) → Heap → Prop} {YP : World → Heap → Prop} {d : DefRec} {K : Params → PySem.W.Frag} (hn : l.most = some 63) (hdf : d.params.defaults = [])
    (hY : ∀ (w : World) (h : Heap), YP w h → (K w.params).In h)
    (F : ∀ (w : World) (mg : Str → Option Value) (fa : Addr) (h : Heap), (K w.params).In h → h.Ns mainGlobals mg → mg d.name = some (.ref fa) →
      ∃ fd : FuncData, (∀ (s : Shared) (u : Value), BindsTo s fd ⟨[u], []⟩ [("_law_script", u)]) ∧ ∀ base : Heap, (K w.params).In base → base.Ns mainGlobals mg → FnOk l.prog w (K w.params) mg base L2.CX0 9 fa fd ["_law_script"] (spLaw (K w.params))) :
    PySem.W.WalkO q loose XP YP l.row.toRowW d [] (fun f vs => PySem.call f vs) :=
  L2.walk_of (n := 63) (k := 9) (x := "_law_script") (CX := fun _ => L2.CX0) (sp := fun w => spLaw (K w.params)) hn (by decide) hdf ⟨rfl, by decide, by decide⟩ hY F (fun _ _ a ns hl _ hS => ⟨a, ns, rfl, hS, hl, fun _ => rfl⟩) fun _ _ _ _ _ z => z
end Lw
open PySem PySem.W PyProof.Rows in
set_option maxRecDepth 100000 in
set_option maxHeartbeats 0 in
theorem PySem.Challenge.cw_baseclash_k73_the_first_pair_that_is_mis_holds : PySem.Challenge.rw_baseclash_k73_the_first_pair_that_is_mis.Holds := by
  w_on; o_law; k_head; (case hw => w_witness2)
  k_fill
  refine Lw.walk (l := PySem.Challenge.rw_baseclash_k73_the_first_pair_that_is_mis) rfl rfl (fun w h Y => PySem.W.kIn_of Y) ?F
  case F =>
    intro w mg fa h KX G hmg
    refine' Lw.all_mk KX G hmg ?z_len ?z_int ?z_abs ?z_max ?z_min ?z_range ?z_isinstance ?z_list ?z_tuple ?z_str ?z_bool ?z_ord ?z_all ?z_enumerate ?z_zip ?mCm ?pgCm ?hdCm ?poCm ?saCm ?haCm ?hmCm ?mkCm ?kcCm ?objhn ?objht ?mCk ?pgCk ?hdCk ?poCk ?saCk ?haCk ?hmCk ?mkCk ?kcCk ?mCw ?pgCw ?hdCw ?poCw ?saCw ?haCw ?hmCw ?mkCw ?kcCw ?nCm_number ?nCm_factors ?nCk_low ?nCk_shift ?nCk_lead ?nCw_marking ?nCw_modulus ?nCw_number ?nCw_base ?a1 ?l1 ?c1 ?k1 ?a2 ?l2 ?c2 ?k2 ?a3 ?l3 ?c3 ?k3 ?a4 ?l4 ?c4 ?k4 ?a5 ?l5 ?c5 ?k5 ?a6 ?l6 ?c6 ?k6 ?a7 ?l7 ?c7 ?k7 ?a8 ?l8 ?c8 ?k8 ?a9 ?l9 ?c9 ?k9 ?a10 ?l10 ?c10 ?k10 ?a11 ?l11 ?c11 ?k11 ?a12 ?l12 ?c12 ?k12 ?a13 ?l13 ?c13 ?k13 ?a14 ?l14 ?c14 ?k14 ?a15 ?l15 ?c15 ?k15 ?a16 ?l16 ?c16 ?k16 ?a17 ?l17 ?c17 ?k17 ?a18 ?l18 ?c18 ?k18 ?a19 ?l19 ?c19 ?k19 ?a20 ?l20 ?c20 ?k20 ?a21 ?l21 ?c21 ?k21 ?a22 ?l22 ?c22 ?k22 ?a23 ?l23 ?c23 ?k23 ?a24 ?l24 ?c24 ?k24 ?a25 ?l25 ?c25 ?k25 ?a26 ?l26 ?c26 ?k26 ?a27 ?l27 ?c27 ?k27 ?a28 ?l28 ?c28 ?k28 ?a29 ?l29 ?c29 ?k29 ?a30 ?i30 ?l30 ?c30 ?k30 ?a31 ?i31 ?l31 ?c31 ?k31 ?d31_0 ?d31_1 ?d31_2 ?a32 ?i32 ?l32 ?c32 ?k32 ?a33 ?i33 ?l33 ?c33 ?k33 ?t33 ?a34 ?i34 ?l34 ?c34 ?k34 ?a35 ?i35 ?l35 ?c35 ?k35 ?a36 ?i36 ?l36 ?c36 ?k36 ?mCi ?xCi ?saCi ?gaCi ?ggCi ?nfCi ?kcCi ?eCCi ?tCCi ?hCCi ?iCCi ?sCCi ?a37 ?i37 ?l37 ?c37 ?k37 ?tICi ?mCs ?xCs ?saCs ?gaCs ?ggCs ?nfCs ?kcCs ?eCCs ?tCCs ?hCCs ?iCCs ?sCCs ?a38 ?i38 ?l38 ?c38 ?k38 ?tICs ?mCu ?xCu ?kcCu ?eCCu ?tCCu ?iCCu ?sCCu ?nuCu ?nuCs ?nsCs ?z_sorted ?z_set ?z_reversed ?mCp ?pgCp ?hdCp ?poCp ?saCp ?haCp ?hmCp ?mkCp ?kcCp ?nCp_one ?nCp_other ?nCp_differences ?a39 ?i39 ?l39 ?c39 ?k39 ?a40 ?i40 ?l40 ?c40 ?k40 ?a41 ?i41 ?l41 ?c41 ?k41 ?a42 ?i42 ?l42 ?c42 ?k42 ?mCr ?pgCr ?hdCr ?poCr ?saCr ?haCr ?hmCr ?mkCr ?kcCr ?nCr_one ?nCr_other ?nCr_sums ?nCr_least ?nCr_greatest ?a43 ?i43 ?l43 ?c43 ?k43 ?a44 ?i44 ?l44 ?c44 ?k44 ?a45 ?l45 ?c45 ?k45 ?icCw ?tyCw ?ssCw ?nw_non ?nw_int ?nw_bl ?nw_str ?nw_lst ?nw_dct ?nw_md ?a46 ?l46 ?c46 ?k46 ?fi36
    (case z_len => k_is)
    (case z_int => k_is)
    (case z_abs => k_is)
    (case z_max => k_is)
    (case z_min => k_is)
    (case z_range => k_is)
    (case z_isinstance => k_is)
    (case z_list => k_is)
    (case z_tuple => k_is)
    (case z_str => k_is)
    (case z_bool => k_is)
    (case z_ord => k_is)
    (case z_all => k_is)
    (case z_enumerate => k_is)
    (case z_zip => k_is)
    (case mCm => k_is)
    (case pgCm => k_is)
    (case hdCm => k_is)
    (case poCm => k_is)
    (case saCm => k_is)
    (case haCm => k_is)
    (case hmCm => k_is)
    (case mkCm => k_is)
    (case kcCm => k_is)
    (case objhn => k_is)
    (case objht => k_is)
    (case mCk => k_is)
    (case pgCk => k_is)
    (case hdCk => k_is)
    (case poCk => k_is)
    (case saCk => k_is)
    (case haCk => k_is)
    (case hmCk => k_is)
    (case mkCk => k_is)
    (case kcCk => k_is)
    (case mCw => k_is)
    (case pgCw => k_is)
    (case hdCw => k_is)
    (case poCw => k_is)
    (case saCw => k_is)
    (case haCw => k_is)
    (case hmCw => k_is)
    (case mkCw => k_is)
    (case kcCw => k_is)
    (case nCm_number => k_is)
    (case nCm_factors => k_is)
    (case nCk_low => k_is)
    (case nCk_shift => k_is)
    (case nCk_lead => k_is)
    (case nCw_marking => k_is)
    (case nCw_modulus => k_is)
    (case nCw_number => k_is)
    (case nCw_base => k_is)
    (case a1 => k_is)
    (case l1 => k_is)
    (case c1 => k_is)
    (case k1 => k_is)
    (case a2 => k_is)
    (case l2 => k_is)
    (case c2 => k_is)
    (case k2 => k_is)
    (case a3 => k_is)
    (case l3 => k_is)
    (case c3 => k_is)
    (case k3 => k_is)
    (case a4 => k_is)
    (case l4 => k_is)
    (case c4 => k_is)
    (case k4 => k_is)
    (case a5 => k_is)
    (case l5 => k_is)
    (case c5 => k_is)
    (case k5 => k_is)
    (case a6 => k_is)
    (case l6 => k_is)
    (case c6 => k_is)
    (case k6 => k_is)
    (case a7 => k_is)
    (case l7 => k_is)
    (case c7 => k_is)
    (case k7 => k_is)
    (case a8 => k_is)
    (case l8 => k_is)
    (case c8 => k_is)
    (case k8 => k_is)
    (case a9 => k_is)
    (case l9 => k_is)
    (case c9 => k_is)
    (case k9 => k_is)
    (case a10 => k_is)
    (case l10 => k_is)
    (case c10 => k_is)
    (case k10 => k_is)
    (case a11 => k_is)
    (case l11 => k_is)
    (case c11 => k_is)
    (case k11 => k_is)
    (case a12 => k_is)
    (case l12 => k_is)
    (case c12 => k_is)
    (case k12 => k_is)
    (case a13 => k_is)
    (case l13 => k_is)
    (case c13 => k_is)
    (case k13 => k_is)
    (case a14 => k_is)
    (case l14 => k_is)
    (case c14 => k_is)
    (case k14 => k_is)
    (case a15 => k_is)
    (case l15 => k_is)
    (case c15 => k_is)
    (case k15 => k_is)
    (case a16 => k_is)
    (case l16 => k_is)
    (case c16 => k_is)
    (case k16 => k_is)
    (case a17 => k_is)
    (case l17 => k_is)
    (case c17 => k_is)
    (case k17 => k_is)
    (case a18 => k_is)
    (case l18 => k_is)
    (case c18 => k_is)
    (case k18 => k_is)
    (case a19 => k_is)
    (case l19 => k_is)
    (case c19 => k_is)
    (case k19 => k_is)
    (case a20 => k_is)
    (case l20 => k_is)
    (case c20 => k_is)
    (case k20 => k_is)
    (case a21 => k_is)
    (case l21 => k_is)
    (case c21 => k_is)
    (case k21 => k_is)
    (case a22 => k_is)
    (case l22 => k_is)
    (case c22 => k_is)
    (case k22 => k_is)
    (case a23 => k_is)
    (case l23 => k_is)
    (case c23 => k_is)
    (case k23 => k_is)
    (case a24 => k_is)
    (case l24 => k_is)
    (case c24 => k_is)
    (case k24 => k_is)
    (case a25 => k_is)
    (case l25 => k_is)
    (case c25 => k_is)
    (case k25 => k_is)
    (case a26 => k_is)
    (case l26 => k_is)
    (case c26 => k_is)
    (case k26 => k_is)
    (case a27 => k_is)
    (case l27 => k_is)
    (case c27 => k_is)
    (case k27 => k_is)
    (case a28 => k_is)
    (case l28 => k_is)
    (case c28 => k_is)
    (case k28 => k_is)
    (case a29 => k_is)
    (case l29 => k_is)
    (case c29 => k_is)
    (case k29 => k_is)
    (case a30 => k_is)
    (case i30 => k_is)
    (case l30 => k_is)
    (case c30 => k_is)
    (case k30 => k_is)
    (case a31 => k_is)
    (case i31 => k_is)
    (case l31 => k_is)
    (case c31 => k_is)
    (case k31 => k_is)
    (case d31_0 => k_is)
    (case d31_1 => k_is)
    (case d31_2 => k_is)
    (case a32 => k_is)
    (case i32 => k_is)
    (case l32 => k_is)
    (case c32 => k_is)
    (case k32 => k_is)
    (case a33 => k_is)
    (case i33 => k_is)
    (case l33 => k_is)
    (case c33 => k_is)
    (case k33 => k_is)
    (case t33 => k_is)
    (case a34 => k_is)
    (case i34 => k_is)
    (case l34 => k_is)
    (case c34 => k_is)
    (case k34 => k_is)
    (case a35 => k_is)
    (case i35 => k_is)
    (case l35 => k_is)
    (case c35 => k_is)
    (case k35 => k_is)
    (case a36 => k_is)
    (case i36 => k_is)
    (case l36 => k_is)
    (case c36 => k_is)
    (case k36 => k_is)
    (case mCi => k_is)
    (case xCi => k_is)
    (case saCi => k_is)
    (case gaCi => k_is)
    (case ggCi => k_is)
    (case nfCi => k_is)
    (case kcCi => k_is)
    (case eCCi => k_is)
    (case tCCi => k_is)
    (case hCCi => k_is)
    (case iCCi => k_is)
    (case sCCi => k_is)
    (case a37 => k_is)
    (case i37 => k_is)
    (case l37 => k_is)
    (case c37 => k_is)
    (case k37 => k_is)
    (case tICi => k_is)
    (case mCs => k_is)
    (case xCs => k_is)
    (case saCs => k_is)
    (case gaCs => k_is)
    (case ggCs => k_is)
    (case nfCs => k_is)
    (case kcCs => k_is)
    (case eCCs => k_is)
    (case tCCs => k_is)
    (case hCCs => k_is)
    (case iCCs => k_is)
    (case sCCs => k_is)
    (case a38 => k_is)
    (case i38 => k_is)
    (case l38 => k_is)
    (case c38 => k_is)
    (case k38 => k_is)
    (case tICs => k_is)
    (case mCu => k_is)
    (case xCu => k_exc)
    (case kcCu => k_is)
    (case eCCu => k_is)
    (case tCCu => k_is)
    (case iCCu => k_is)
    (case sCCu => k_is)
    (case nuCu => k_is)
    (case nuCs => k_is)
    (case nsCs => k_is)
    (case z_sorted => k_is)
    (case z_set => k_is)
    (case z_reversed => k_is)
    (case mCp => k_is)
    (case pgCp => k_is)
    (case hdCp => k_is)
    (case poCp => k_is)
    (case saCp => k_is)
    (case haCp => k_is)
    (case hmCp => k_is)
    (case mkCp => k_is)
    (case kcCp => k_is)
    (case nCp_one => k_is)
    (case nCp_other => k_is)
    (case nCp_differences => k_is)
    (case a39 => k_is)
    (case i39 => k_is)
    (case l39 => k_is)
    (case c39 => k_is)
    (case k39 => k_is)
    (case a40 => k_is)
    (case i40 => k_is)
    (case l40 => k_is)
    (case c40 => k_is)
    (case k40 => k_is)
    (case a41 => k_is)
    (case i41 => k_is)
    (case l41 => k_is)
    (case c41 => k_is)
    (case k41 => k_is)
    (case a42 => k_is)
    (case i42 => k_is)
    (case l42 => k_is)
    (case c42 => k_is)
    (case k42 => k_is)
    (case mCr => k_is)
    (case pgCr => k_is)
    (case hdCr => k_is)
    (case poCr => k_is)
    (case saCr => k_is)
    (case haCr => k_is)
    (case hmCr => k_is)
    (case mkCr => k_is)
    (case kcCr => k_is)
    (case nCr_one => k_is)
    (case nCr_other => k_is)
    (case nCr_sums => k_is)
    (case nCr_least => k_is)
    (case nCr_greatest => k_is)
    (case a43 => k_is)
    (case i43 => k_is)
    (case l43 => k_is)
    (case c43 => k_is)
    (case k43 => k_is)
    (case a44 => k_is)
    (case i44 => k_is)
    (case l44 => k_is)
    (case c44 => k_is)
    (case k44 => k_is)
    (case a45 => k_is)
    (case l45 => k_is)
    (case c45 => k_is)
    (case k45 => k_is)
    (case icCw => k_is)
    (case tyCw => k_is)
    (case ssCw => k_is)
    (case nw_non => k_is)
    (case nw_int => k_is)
    (case nw_bl => k_is)
    (case nw_str => k_is)
    (case nw_lst => k_is)
    (case nw_dct => k_is)
    (case nw_md => k_is)
    (case a46 => k_is)
    (case l46 => k_is)
    (case c46 => k_is)
    (case k46 => k_is)
    (case fi36 => k_is)
