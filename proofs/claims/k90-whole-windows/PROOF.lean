import PyProof.Rows.All
import Wide.All
import OpenK.AllK
import Wide.FinOn
import HandS.ForMost
import HandS.Codes
import HandS.Style
import HandS.Flow
import HandS.Wide
import HandS.WideBits
import HandS.Defaults
import HandS.MakeKwOnly
import HandS.MakeKw
import HandS.Star
import HandS.IsInst
import HandS.Steps
import HandS.Walk
import HandS.Conv
import HandS.NoneIn
import HandS.Exc
import HandS.ExcOwn
import HandS.ExcInit
import HandS.ExcField
import HandS.CallSlots
import HandS.TryOnly
import HandS.TryMany
import HandS.WordsExc
import HandS.SetFor
import HandS.Set
import PyProof.Rows.SetFrom
import HandS.Deep
import HandS.TupSets
import HandS.SetKeys
import HandS.Dict
import HandS.TupAny
import HandS.DictComp
import HandS.Iter
import HandS.Small
import HandS.More
import HandS.Zip
import KE.GoesZip
import KE.GoesMore
import KE.KeyNested
import KE.KDictCopyH
import KE.KDictDisplayH
import KE.KDictOf
import HandS.DictTup
import PySem.Challenge.RW_baseclash_k90_whole_windows_and_counts
set_option Elab.async false
set_option maxRecDepth 100000
set_option linter.all false
namespace Bc
open PySem PySem.Spec PyProof.Rows L2
section
variable {X : Cx}
noncomputable def rLen (K : PySem.W.Frag) : List V → Hp → VK → Prop := fun xs H Q => ∃ p ys, xs = [.ref p] ∧ (SqL K H p ys ∨ SqT K H p ys) ∧ Q (.int ys.length) H
theorem cLen : CallR X (.builtin "len") (rLen X.K) := call_len_seq
noncomputable def rAbs : List V → Hp → VK → Prop := fun xs H Q => ∃ i, xs = [.int i] ∧ Q (.int (if i < 0 then -i else i)) H
noncomputable def rMax2 : List V → Hp → VK → Prop := fun xs H Q => ∃ i j, xs = [.int i, .int j] ∧ Q (.int (if j > i then j else i)) H
theorem cMax2 (hc : X.calm = true) : CallR X (.builtin "max") rMax2 := call_max2 hc
noncomputable def rMin2 : List V → Hp → VK → Prop := fun xs H Q => ∃ i j, xs = [.int i, .int j] ∧ Q (.int (if j < i then j else i)) H
theorem cMin2 (hc : X.calm = true) : CallR X (.builtin "min") rMin2 := call_min2 hc
noncomputable def rInt1 : List V → Hp → VK → Prop := fun xs H Q => (∃ i, xs = [.int i] ∧ Q (.int i) H) ∨ ∃ k, xs = [.bl k] ∧ Q (.int (if k then 1 else 0)) H
theorem cInt1 : CallR X (.type "int") rInt1 := call_int1
noncomputable def rOrd : List V → Hp → VK → Prop := fun xs H Q => ∃ x, xs = [.str x] ∧ x.length = 1 ∧ Q (.int (x.cps.getD 0 0 : Nat)) H
theorem cOrd : CallR X (.builtin "ord") rOrd := call_ord
noncomputable def rTupOf (K : PySem.W.Frag) : List V → Hp → VK → Prop := fun xs H Q => ∃ p ys, xs = [.ref p] ∧ ((SqL K H p ys ∧ ∀ l, H l = none → Q (.ref l) (upd H l (.tup ys))) ∨ (SqT K H p ys ∧ Q (.ref p) H))
theorem cTupOf : CallR X (.type "tuple") (rTupOf X.K) := call_tuple_of
noncomputable def rLeS : R2 := fun x y H Q => ∃ i j, x = .str i ∧ y = .str j ∧ Q (.bl (!decide (j.cps.toList < i.cps.toList))) H
theorem oLeS : OpR X (compareOp .LtE) rLeS := op_le_str
noncomputable def CPowW (i j : Int) : Prop := 0 ≤ j ∧ (Builtin.Int.intBits i : Int) * j ≤ 2 ^ 27
theorem oPowW : OpR X (binaryOp .Pow) (rI CPowW fun i j => .int (i ^ j.toNat)) := opI fun _ _ _ _ _ _ _ hc q => PyProof.Rows.pow_int hc.1 hc.2 q
end
section
variable {σ : L2.St} {H : Hp} {D : Ends} {Q : VK} {QT : Bool → Hp → Prop} {QA : List V → Hp → Prop} {K : PySem.W.Frag} {te ta tb tc : TE} {t u : TS} {tt tu : TT} {as : TA} {i j : Nat} {v x y : V} {a b n m : Int}
/-- a continuation kept apart -/
noncomputable def atV (Q : VK) (v : V) (H : Hp) : Prop := Q v H
theorem w_atV (q : Q v H) : atV Q v H := q
theorem w_var (h : σ[i]? = some (some v)) (q : Q v H) : tVar i σ H Q := ⟨v, h, q⟩
theorem w_c (q : Q v H) : tC v σ H Q := q
theorem w_op {r : R2} (q : ta σ H fun x H1 => tb σ H1 fun y H2 => r x y H2 Q) : tOp r ta tb σ H Q := q
theorem w_un {r : V → Hp → VK → Prop} (q : ta σ H fun x H1 => r x H1 Q) : tUn r ta σ H Q := q
theorem w_cb {r : List V → Hp → VK → Prop} (q : as σ H fun vs H1 => r vs H1 Q) : tCB r as σ H Q := q
theorem w_cons {tr : TA} (q : ta σ H fun x H1 => tr σ H1 fun xs H2 => QA (x :: xs) H2) : tCons ta tr σ H QA := q
theorem w_nil (q : QA [] H) : tNil σ H QA := q
theorem w_seq (q : t { D with nx := u D } σ H) : tSeq t u D σ H := q
theorem w_set (q : te σ H fun x H1 => D.nx (σ.set i (some x)) H1) : tAsg te (gName i) D σ H := q
theorem w_asg {g : TG} (q : te σ H fun x H1 => g x σ H1 D.nx) : tAsg te g D σ H := q
theorem w_name {Qs : L2.St → Hp → Prop} (q : Qs (σ.set i (some v)) H) : gName i v σ H Qs := q
theorem w_par (q : as σ H fun vs H1 => ∃ v w, vs = [v, w] ∧ D.nx ((σ.set i (some v)).set j (some w)) H1) : tPar i j as D σ H := q
theorem w_par2 {p q : V} {P : V → V → Prop} (h : P p q) : ∃ v w, [p, q] = [v, w] ∧ P v w := ⟨p, q, rfl, h⟩
theorem w_aug {ti : TIp} (h : σ[i]? = some (some v)) (q : te σ H fun y H1 => ti v y H1 fun z H2 => D.nx (σ.set i (some z)) H2) : tAug i te ti D σ H := ⟨v, h, q⟩
theorem w_ipI {f : Int → Int → Int} (q : Q (.int (f a b)) H) : ipI f (.int a) (.int b) H Q := ⟨a, b, rfl, rfl, q⟩
theorem w_drop (q : te σ H fun _ H1 => D.nx σ H1) : tDrop te D σ H := q
theorem w_ret (q : te σ H D.rt) : tRet te D σ H := q
theorem w_retN (q : D.rt .non H) : tRetN D σ H := q
theorem w_next (q : D.nx σ H) : tNext D σ H := q
theorem w_if {c : TT} (q : c σ H fun b H1 => if b = true then t D σ H1 else u D σ H1) : tIfS c t u D σ H := q
theorem w_test (q : te σ H fun x H' => ∃ k, x = .bl k ∧ QT k H') : tTest te σ H QT := q
theorem w_tB (q : te σ H fun x H' => ∃ k, x = .bl k ∧ QT k H') : tB te σ H QT := q
theorem w_bl {k : Bool} {P : Bool → Prop} (q : P k) : ∃ c, V.bl k = .bl c ∧ P c := ⟨k, rfl, q⟩
theorem w_and (q : tt σ H fun c H1 => if c = true then tu σ H1 QT else QT false H1) : tAnd tt tu σ H QT := q
theorem w_or (q : tt σ H fun c H1 => if c = true then QT true H1 else tu σ H1 QT) : tOr tt tu σ H QT := q
theorem w_not (q : tt σ H fun c H1 => QT (!c) H1) : tNot tt σ H QT := q
theorem w_andV (q : ta σ H fun x H1 => ∃ c, x = .bl c ∧ if c = true then tb σ H1 Q else Q (.bl false) H1) : tAndV ta tb σ H Q := q
theorem w_orV (q : ta σ H fun x H1 => ∃ c, x = .bl c ∧ if c = true then Q (.bl true) H1 else tb σ H1 Q) : tOrV ta tb σ H Q := q
theorem w_notV (q : ta σ H fun x H1 => ∃ c, x = .bl c ∧ Q (.bl (!c)) H1) : tNotV ta σ H Q := q
theorem w_ifE (q : tt σ H fun c H1 => if c = true then ta σ H1 Q else tb σ H1 Q) : tIf tt ta tb σ H Q := q
theorem w_tup (q : as σ H fun xs H1 => xs.length ≤ sizeLine ∧ ∀ p, H1 p = none → atV Q (.ref p) (upd H1 p (.tup xs))) : tTup as σ H Q := q
theorem w_lst (q : as σ H fun xs H1 => xs.length ≤ sizeLine ∧ ∀ p, H1 p = none → atV Q (.ref p) (upd H1 p (.lst xs))) : tLst as σ H Q := q
theorem w_call {sp : Sp} {dvs : List V} {E : XK} (q : as σ H fun vs H1 => sp (vs ++ dvs) H1 Q E) : tCall sp dvs E as σ H Q := q
theorem w_yes (q : QT true H) : tYes σ H QT := q
theorem w_chain {r r' : R2} (q : ta σ H fun x H1 => tb σ H1 fun y H2 => r x y H2 fun z H3 => ∃ k, z = .bl k ∧ (if k = true then tc σ H3 fun w' H4 => r' y w' H4 Q else Q (.bl false) H3)) : tChain r r' ta tb tc σ H Q := q
theorem w_I0 {g : Int → Int → V} (q : Q (g a b) H) : rI0 g (.int a) (.int b) H Q := ⟨a, b, rfl, rfl, q⟩
theorem w_I {C : Int → Int → Prop} {g : Int → Int → V} (c : C a b) (q : Q (g a b) H) : rI C g (.int a) (.int b) H Q := ⟨a, b, rfl, rfl, c, q⟩
theorem w_U {g : Int → V} (q : Q (g a) H) : rU g (.int a) H Q := ⟨a, rfl, q⟩
theorem w_eq (h : scal x y = true) (q : Q (.bl (decide (x = y))) H) : rEq x y H Q := ⟨h, q⟩
theorem w_ne (h : scal x y = true) (q : Q (.bl (!decide (x = y))) H) : rNe x y H Q := ⟨h, q⟩
theorem w_ixL {p : Addr} {xs : List V} (h : SqL K H p xs) (e : atI xs a = some v) (q : Q v H) : rIxL K (.ref p) (.int a) H Q := ⟨p, xs, a, v, rfl, rfl, h, e, q⟩
theorem w_ixT {p : Addr} {xs : List V} (h : SqT K H p xs) (e : atI xs a = some v) (q : Q v H) : rIxT K (.ref p) (.int a) H Q := ⟨p, xs, a, v, rfl, rfl, h, e, q⟩
theorem w_len {p : Addr} {xs : List V} (h : SqL K H p xs) (q : Q (.int xs.length) H) : rLen K [.ref p] H Q := ⟨p, xs, rfl, .inl h, q⟩
theorem w_lenT {p : Addr} {xs : List V} (h : SqT K H p xs) (q : Q (.int xs.length) H) : rLen K [.ref p] H Q := ⟨p, xs, rfl, .inr h, q⟩
theorem w_abs (q : Q (.int (if a < 0 then -a else a)) H) : rAbs [.int a] H Q := ⟨a, rfl, q⟩
theorem w_max2 (q : Q (.int (if b > a then b else a)) H) : rMax2 [.int a, .int b] H Q := ⟨a, b, rfl, q⟩
theorem w_min2 (q : Q (.int (if b < a then b else a)) H) : rMin2 [.int a, .int b] H Q := ⟨a, b, rfl, q⟩
theorem w_int1 (q : Q (.int a) H) : rInt1 [.int a] H Q := .inl ⟨a, rfl, q⟩
theorem w_int1b {k : Bool} (q : Q (.int (if k then 1 else 0)) H) : rInt1 [.bl k] H Q := .inr ⟨k, rfl, q⟩
theorem w_tupL {p : Addr} {xs : List V} (h : SqL K H p xs) (q : ∀ l, H l = none → atV Q (.ref l) (upd H l (.tup xs))) : rTupOf K [.ref p] H Q := ⟨p, xs, rfl, .inl ⟨h, q⟩⟩
theorem w_tupT {p : Addr} {xs : List V} (h : SqT K H p xs) (q : Q (.ref p) H) : rTupOf K [.ref p] H Q := ⟨p, xs, rfl, .inr ⟨h, q⟩⟩
theorem w_setL {p : Addr} {xs : List V} {Qs : Hp → Prop} (h : H p = some (.lst xs)) (e : ixN xs.length a = some j) (q : Qs (upd H p (.lst (xs.set j v)))) : rSetL (.ref p) (.int a) v H Qs := ⟨p, xs, a, j, rfl, rfl, h, e, q⟩
theorem w_gsub {to ti : TE} {ts : TSet} {Qs : L2.St → Hp → Prop} (q : to σ H fun o H1 => ti σ H1 fun i H2 => ts o i v H2 fun H3 => Qs σ H3) : gSub to ti ts v σ H Qs := q
theorem w_bm {T : String} {r : V → List V → Hp → VK → Prop} (q : ta σ H fun x H1 => tyV K T x H1 ∧ as σ H1 fun xs H2 => r x xs H2 Q) : tBM K T r ta as σ H Q := q
theorem w_bm0 {T : String} {r : V → List V → Hp → VK → Prop} (q : ta σ H fun x H1 => tyV K T x H1 ∧ r x [] H1 Q) : tBM0 K T r ta σ H Q := q
theorem w_append {p : Addr} {xs : List V} (h : H p = some (.lst xs)) (l : xs.length < sizeLine) (q : Q .non (upd H p (.lst (xs ++ [v])))) : rAppend (.ref p) [v] H Q := ⟨p, xs, v, rfl, rfl, h, l, q⟩
theorem w_cat {p r : Addr} {xs ys : List V} (h : H p = some (.lst xs)) (h2 : H r = some (.lst ys)) (l : xs.length + ys.length ≤ sizeLine) (q : ∀ p, H p = none → atV Q (.ref p) (upd H p (.lst (xs ++ ys)))) : rCat (.ref p) (.ref r) H Q := ⟨p, r, xs, ys, rfl, rfl, h, h2, l, q⟩
theorem w_fld {f : Str} (q : ta σ H fun x H1 => ∃ a C dx fs v, x = .ref a ∧ H1 a = some (.ins C dx fs) ∧ Cls K C ∧ NoAttr K C f ∧ fs.lookup f = some v ∧ Q v H1) : tFld K ta f σ H Q := q
theorem w_sl {r : V → Option Int → Option Int → Hp → VK → Prop} {tl th : TO} (q : te σ H fun x H1 => tl σ H1 fun l H2 => th σ H2 fun u H3 => r x l u H3 Q) : tSl r te tl th σ H Q := q
theorem w_noPart {Qo : Option Int → Hp → Prop} (q : Qo none H) : tNoPart σ H Qo := q
theorem w_part {Qo : Option Int → Hp → Prop} (q : te σ H fun x H1 => ∃ i, x = .int i ∧ Qo (some i) H1) : tPart te σ H Qo := q
theorem w_isI {P : Int → Prop} (q : P a) : ∃ i, V.int a = .int i ∧ P i := ⟨a, rfl, q⟩
theorem w_revL {K : PySem.W.Frag} (q : te σ H fun x H1 => ∃ a xs, x = .ref a ∧ SqL K H1 a xs ∧ ∀ p, H1 p = none → atV Q (.ref p) (upd H1 p (.lst xs.reverse))) : tRevL K te σ H Q := q
theorem w_isN (q : Q (.bl (decide (x = .non))) H) : rIsN x .non H Q := ⟨rfl, q⟩
theorem w_notN (q : Q (.bl (!decide (x = .non))) H) : rNotN x .non H Q := ⟨rfl, q⟩
theorem w_bits (q : te σ H fun x H1 => ∃ i, x = .int i ∧ Q (.int (Builtin.Int.intBits i : Nat)) H1) : tBits te σ H Q := q
theorem w_gtup {K : PySem.W.Frag} {tg : TGs} {p : Addr} {xs : List V} {k : Nat} {Qs : L2.St → Hp → Prop} (h : SqT K H p xs) (l : xs.length = k) (q : tg xs σ H Qs) : gTup K k tg (.ref p) σ H Qs := ⟨p, xs, rfl, h, l, q⟩
theorem w_gcons {tg : TG} {tr : TGs} {xs : List V} {Qs : L2.St → Hp → Prop} (q : tg v σ H fun σ' H' => tr xs σ' H' Qs) : gCons tg tr (v :: xs) σ H Qs := ⟨v, xs, rfl, q⟩
theorem w_gnil {Qs : L2.St → Hp → Prop} (q : Qs σ H) : gNil [] σ H Qs := ⟨rfl, q⟩
theorem w_for {wi : TI} {g : TG} {tb : TS} (q : wi σ H fun J H1 => ∃ W : Nat → Nat → L2.St → Hp → Prop, (∃ m, W 0 m σ H1) ∧ ∀ i m σ H, W i m σ H →
      (J.stop i H ∧ D.nx σ H) ∨ (J.go i H ∧ ∃ N : L2.St → Hp → Prop, (∀ σ' H', N σ' H' → ∃ m', m' < m ∧ W (i + 1) m' σ' H') ∧ ∀ x H', J.yld i H x H' → g x σ H' fun σ2 H2 => tb { D with nx := N, ct := N, bk := D.nx } σ2 H2)) : tFor wi g tb D σ H := q
theorem w_rng1 {R : It → Hp → Prop} (q : as σ H fun vs H1 => ∃ j : Int, vs = [.int j] ∧ -(2 ^ 62) ≤ j ∧ j < 2 ^ 62 ∧ R (Itr 0 j.toNat) H1) : iRng1 as σ H R := q
theorem w_rng1i {P : Int → Prop} (h0 : -(2 ^ 62) ≤ n) (h1 : n < 2 ^ 62) (q : P n) : ∃ j : Int, [V.int n] = [.int j] ∧ -(2 ^ 62) ≤ j ∧ j < 2 ^ 62 ∧ P j := ⟨n, rfl, h0, h1, q⟩
theorem w_rng2 {R : It → Hp → Prop} (q : as σ H fun vs H1 => ∃ i j : Int, vs = [.int i, .int j] ∧ (-(2 ^ 62) ≤ i ∧ i < 2 ^ 62 ∧ -(2 ^ 62) ≤ j ∧ j < 2 ^ 62) ∧ R (Itr i (j - i).toNat) H1) : iRng2 as σ H R := q
theorem w_rng2i {P : Int → Int → Prop} (h0 : -(2 ^ 62) ≤ n ∧ n < 2 ^ 62 ∧ -(2 ^ 62) ≤ m ∧ m < 2 ^ 62) (q : P n m) : ∃ i j : Int, [V.int n, V.int m] = [.int i, .int j] ∧ (-(2 ^ 62) ≤ i ∧ i < 2 ^ 62 ∧ -(2 ^ 62) ≤ j ∧ j < 2 ^ 62) ∧ P i j := ⟨n, m, rfl, h0, q⟩
theorem w_andsz {xs : List V} {P : Prop} (h : Nat.ble xs.length 100000 = true) (q : P) : xs.length ≤ sizeLine ∧ P := ⟨Nat.le_trans (Nat.le_of_ble_eq_true h) (by decide), q⟩
theorem w_iList {R : It → Hp → Prop} (q : te σ H fun x H1 => ∃ a, x = .ref a ∧ (∃ xs, SqL K H1 a xs) ∧ R (Itl K a) H1) : iList K te σ H R := q
theorem w_iTup {R : It → Hp → Prop} (q : te σ H fun x H1 => ∃ a, x = .ref a ∧ (∃ xs, SqT K H1 a xs) ∧ R (Itt K a) H1) : iTup K te σ H R := q
theorem w_iAt {p : Addr} {P : Addr → Prop} (q : P p) : ∃ a, V.ref p = .ref a ∧ P a := ⟨p, rfl, q⟩
end
theorem w_lc {wi : TI} {g : TG} {tt : TT} {te : TE} {vs : List Nat} {σ : L2.St} {H : Hp} {Q : VK} (q : wi σ H fun J H1 => ∀ D, H1 D = none → ∃ W : Nat → Nat → Hp → Prop, (∃ m, W 0 m (upd H1 D (.lst []))) ∧ ∀ i m H, W i m H →
  (J.stop i H ∧ Q (.ref D) H) ∨ (J.go i H ∧ ∃ Nx : Hp → Prop, (∀ H', Nx H' → ∃ m', m' < m ∧ W (i + 1) m' H') ∧ ∀ x H', J.yld i H x H' → g x (wipe σ vs) H' fun σ2 H2 => wipe σ2 vs = wipe σ vs ∧ tt σ2 H2 fun b H3 =>
    if b = true then te σ2 H3 fun y H4 => ∃ acc, H4 D = some (.lst acc) ∧ acc.length < sizeLine ∧ Nx (upd H4 D (.lst (acc ++ [y]))) else Nx H3)) : tLc wi g tt te vs σ H Q := q
theorem w_iStr {te : TE} {σ : L2.St} {H : Hp} {R : It → Hp → Prop} (q : te σ H fun v H1 => ∃ x, v = .str x ∧ R (Its x) H1) : iStr te σ H R := q
theorem w_isS {z : Str} {P : Str → Prop} (q : P z) : ∃ x, V.str z = .str x ∧ P x := ⟨z, rfl, q⟩
theorem w_iL {K : PySem.W.Frag} {H : Hp} {a : Addr} {xs : List V} {P : Prop} (h : SqL K H a xs) (q : P) : (∃ xs, SqL K H a xs) ∧ P := ⟨⟨xs, h⟩, q⟩
theorem w_iT {K : PySem.W.Frag} {H : Hp} {a : Addr} {xs : List V} {P : Prop} (h : SqT K H a xs) (q : P) : (∃ xs, SqT K H a xs) ∧ P := ⟨⟨xs, h⟩, q⟩
theorem w_leS {x y : Str} {H : Hp} {Q : VK} (q : Q (.bl (!decide (y.cps.toList < x.cps.toList))) H) : rLeS (.str x) (.str y) H Q := ⟨x, y, rfl, rfl, q⟩
theorem w_all {K : PySem.W.Frag} {H : Hp} {Q : VK} {a : Addr} {bs : List Bool} (h : SqL K H a (bs.map V.bl)) (q : Q (.bl (bs.all id)) H) : rAll K [.ref a] H Q := ⟨a, bs, rfl, h, q⟩
theorem w_ord {H : Hp} {Q : VK} {c : Nat} (q : Q (.int (c : Int)) H) : rOrd [.str ⟨#[c]⟩] H Q := ⟨_, rfl, rfl, q⟩
theorem w_nx {N : L2.St → Hp → Prop} {rt : VK} {bk ct : L2.St → Hp → Prop} {σ : L2.St} {H : Hp} (q : N σ H) : Ends.nx ⟨N, rt, bk, ct⟩ σ H := q
theorem w_rt {N : L2.St → Hp → Prop} {rt : VK} {bk ct : L2.St → Hp → Prop} {v : V} {H : Hp} (q : rt v H) : Ends.rt ⟨N, rt, bk, ct⟩ v H := q
theorem w_ct {N : L2.St → Hp → Prop} {rt : VK} {bk ct : L2.St → Hp → Prop} {σ : L2.St} {H : Hp} (q : ct σ H) : Ends.ct ⟨N, rt, bk, ct⟩ σ H := q
theorem w_bk {N : L2.St → Hp → Prop} {rt : VK} {bk ct : L2.St → Hp → Prop} {σ : L2.St} {H : Hp} (q : bk σ H) : Ends.bk ⟨N, rt, bk, ct⟩ σ H := q
theorem sq {K : PySem.W.Frag} {H : Hp} {a : Addr} {xs : List V} (h : H a = some (.lst xs)) : SqL K H a xs := .inl (.inl h)
theorem sqt {K : PySem.W.Frag} {H : Hp} {a : Addr} {xs : List V} (h : H a = some (.tup xs)) : SqT K H a xs := .inl (.inl h)
theorem upd_new {H : Hp} {p q : Addr} {o u : HO} (n : H p = none) (h : H q = some u) : upd H p o q = some u := (upd_ne (ne_of_none h n)).trans h
theorem ite_d {p : Prop} [Decidable p] {A B : Prop} (h1 : p → A) (h2 : ¬ p → B) : if decide p = true then A else B := by
  by_cases h : p
  · rw [if_pos (decide_eq_true h)]; exact h1 h
  · rw [if_neg (by rw [decide_eq_false h]; decide)]; exact h2 h
theorem ite_nd {p : Prop} [Decidable p] {A B : Prop} (h1 : ¬ p → A) (h2 : p → B) : if (!decide p) = true then A else B := by
  by_cases h : p
  · rw [if_neg (by rw [decide_eq_true h]; decide)]; exact h2 h
  · rw [if_pos (by rw [decide_eq_false h]; rfl)]; exact h1 h
theorem wmul {i j : Int} {a b : Nat} (ha : i.natAbs < 2 ^ a) (hb : j.natAbs < 2 ^ b) (h : a + b ≤ 900000) : CMulW i j :=
  wide_mul (a := a + 1) (b := b + 1) (Nat.lt_trans ha (Nat.pow_lt_pow_right (by decide) (Nat.lt_succ_self _))) (Nat.lt_trans hb (Nat.pow_lt_pow_right (by decide) (Nat.lt_succ_self _))) (Nat.succ_pos _) (Nat.succ_pos _) (by omega)
theorem wdiv {i j : Int} {b : Nat} (h : 0 < j) (hb : j.natAbs < 2 ^ b) (h9 : b ≤ 8000) : CDivW i j :=
  wide_div (b := b + 1) h (Nat.lt_trans hb (Nat.pow_lt_pow_right (by decide) (Nat.lt_succ_self _))) (Nat.succ_pos _) (by omega)
/-- products: one side small, or both of bounded bits -/
noncomputable def CMx (i j : Int) : Prop := CMul i j ∨ CMulW i j
theorem oMul {X : Cx} : OpR X (binaryOp .Mult) (rI CMx fun i j => .int (i * j)) := opI fun _ _ _ _ _ _ _ hc q => hc.elim (fun h => mul_int q h.ok) (fun h => mul_int q h.ok)
theorem mx_l {i j : Int} (h : -(2 ^ 64) < i ∧ i < 2 ^ 64) : CMx i j := .inl (.inl h)
theorem mx_r {i j : Int} (h : -(2 ^ 64) < j ∧ j < 2 ^ 64) : CMx i j := .inl (.inr h)
theorem mx_w {i j : Int} {a b : Nat} (ha : i.natAbs < 2 ^ a) (hb : j.natAbs < 2 ^ b) (h : a + b ≤ 900000) : CMx i j := .inr (wmul ha hb h)
theorem wdiv60 {i j : Int} (h : 0 < j) (hb : j < 2 ^ 60) : CDivW i j := wdiv (b := 60) h (by omega) (by decide)
structure Bt (mg : Str → Option Value) : Prop where
  len : mg "len" = none
  int : mg "int" = none
  abs : mg "abs" = none
  max : mg "max" = none
  min : mg "min" = none
  range : mg "range" = none
  isinstance : mg "isinstance" = none
  list : mg "list" = none
  tuple : mg "tuple" = none
  str : mg "str" = none
  bool : mg "bool" = none
  ord : mg "ord" = none
  all : mg "all" = none
  enumerate : mg "enumerate" = none
  zip : mg "zip" = none
/-- a list of three ints at a: what is left of a great number, a seed, a count up to c -/
noncomputable def Purse (H : Hp) (a : Addr) (c : Int) : Prop := ∃ x y z : Int, H a = some (.lst [.int x, .int y, .int z]) ∧ 0 ≤ x ∧ x < 2 ^ 1600 ∧ 0 ≤ y ∧ y < 2 ^ 31 ∧ 0 ≤ z ∧ z ≤ c
/-- all but what stands at a is kept -/
noncomputable def Keep (a : Addr) (H H' : Hp) : Prop := ∀ b o, b ≠ a → H b = some o → H' b = some o
theorem Keep.refl {a : Addr} {H : Hp} : Keep a H H := fun _ _ _ h => h
theorem Keep.trans {a : Addr} {H H1 H2 : Hp} (k : Keep a H H1) (l : Keep a H1 H2) : Keep a H H2 := fun b o n h => l b o n (k b o n h)
theorem Keep.of {a : Addr} {H H' : Hp} (s : Same H H') : Keep a H H' := fun b o _ h => s b o h
theorem Keep.at_ {a b : Addr} {o : HO} {H H' : Hp} (k : Keep a H H') (n : b ≠ a) (h : H b = some o) : H' b = some o := k b o n h
theorem Same.new {H : Hp} {p : Addr} {o : HO} (n : H p = none) : Same H (upd H p o) := fun b u h => upd_new n h
theorem Purse.same {H H' : Hp} {a : Addr} {c : Int} (p : Purse H a c) (s : Same H H') : Purse H' a c := by
  obtain ⟨x, y, z, h, r⟩ := p
  exact ⟨x, y, z, s _ _ h, r⟩
theorem Purse.le {H : Hp} {a : Addr} {c d : Int} (p : Purse H a c) (h : c ≤ d) : Purse H a d := by
  obtain ⟨x, y, z, h0, h1, h2, h3, h4, h5, h6⟩ := p
  exact ⟨x, y, z, h0, h1, h2, h3, h4, h5, by omega⟩
section
variable {P : Program} {w : World} {K : PySem.W.Frag} {mg : Str → Option Value} {base : Heap}
/-- a def of the module without defaults -/
structure Dn (K : PySem.W.Frag) (mg : Str → Option Value) (x : Str) (st : Stmt) (ps : List Str) : Prop where
  ex : ∃ (f : Addr) (fd : FuncData), L2.Fun K x x st f fd ∧ mg x = some (.ref f) ∧ Binds K fd ps []
theorem Dn.cal {x : Str} {st : Stmt} {N ps : List Str} {k : Nat} {sp : Sp} (F : Dn K mg x st ps) (S : FnScope N ps (defScope st)) (len : ∀ vs H Q E, sp vs H Q E → vs.length = ps.length)
    (hbody : ∀ (f : Addr) (cdv : Value) (A : Around) (outer : List Env) (s : Shared) (H : Hp) (vs : List V) (Q : VK) (E : XK), Room k (A.deeper (envOfC x (defScope st) s.heap.objs.size f cdv)) → sp vs H Q E →
      ∃ t, PSs (cxOf CX0 P w K mg base N x (defScope st) f cdv A outer s H E).nox (defBody st) t ∧ t { nx := fun _ H' => Q .non H', rt := Q } (start N vs) H) : C8.Cal P w K mg base (k + 1) x sp [] := by
  obtain ⟨f, fd, F1, m, b⟩ := F.ex
  exact ⟨f, fd, ps, [], F1.ok S len (fun cdv A outer s H vs Q E hr h => hbody f cdv A outer s H vs Q E hr h), m, F1.kp, b, .nil⟩
end
theorem atI_ints {ns : List Int} {i : Int} (h0 : 0 ≤ i) (h1 : i < (ns.map V.int).length) : atI (ns.map V.int) i = some (.int (ns.getD i.toNat 0)) := by
  obtain ⟨j, rfl⟩ := Int.eq_ofNat_of_zero_le h0
  rw [List.length_map] at h1
  have h2 : j < ns.length := by omega
  refine atI_nat ?_
  rw [List.getElem?_map, List.getElem?_eq_getElem h2]
  simp [List.getD, h2]
theorem atI_get {xs : List V} {i : Int} {v : V} (h0 : 0 ≤ i) (h : xs[i.toNat]? = some v) : atI xs i = some v := by
  obtain ⟨j, rfl⟩ := Int.eq_ofNat_of_zero_le h0
  exact atI_nat h
theorem Keep.upd {a : Addr} {H H' : Hp} {o : HO} (k : Keep a H H') : Keep a H (upd H' a o) := fun b u n h => by rw [upd_ne n]; exact k b u n h
section
variable {c : TT} {tb : TS} {D : Ends} {σ : L2.St} {H : Hp}
theorem while_go (Pv : L2.St → Hp → Prop) (μ : L2.St → Hp → Nat) (h0 : Pv σ H) (hs : ∀ σ H, Pv σ H → c σ H fun b H1 => if b = true then (∃ N : L2.St → Hp → Prop, (∀ σ' H', N σ' H' → ∃ m', m' < μ σ H ∧ (m' = μ σ' H' ∧ Pv σ' H')) ∧
      tb { D with nx := N, ct := N, bk := D.nx } σ H1) else D.nx σ H1) : tWhile c tb D σ H := ⟨fun m σ H => m = μ σ H ∧ Pv σ H, ⟨_, rfl, h0⟩, fun m σ H h => by
  obtain ⟨e, p⟩ := h
  subst e
  exact hs σ H p⟩
theorem while_n {Pv : L2.St → Hp → Prop} {μ : L2.St → Hp → Nat} {k : Nat} (q : tb { D with nx := fun σ' H' => μ σ' H' < k ∧ Pv σ' H', ct := fun σ' H' => μ σ' H' < k ∧ Pv σ' H', bk := D.nx } σ H) :
    ∃ N : L2.St → Hp → Prop, (∀ σ' H', N σ' H' → ∃ m', m' < k ∧ (m' = μ σ' H' ∧ Pv σ' H')) ∧ tb { D with nx := N, ct := N, bk := D.nx } σ H := ⟨_, fun _ _ h => ⟨_, h.1, rfl, h.2⟩, q⟩
end
theorem w_isi {K : PySem.W.Frag} {H : Hp} {Q : VK} {x : V} {t : Value} {n : String} {b : Bool} (ty : TyX K H x t) (k : PySem.W.kitOne K t (.type n) = some b) (q : Q (.bl b) H) : rIsi K [x, .ty n] H Q := ⟨x, .ty n, t, .type n, b, rfl, .ty n, ty, k, q⟩
theorem w_isiC {K : PySem.W.Frag} {H : Hp} {Q : VK} {x : V} {t : Value} {C : Addr} {b : Bool} (ty : TyX K H x t) (k : PySem.W.kitOne K t (.ref C) = some b) (q : Q (.bl b) H) : rIsi K [x, .ref C] H Q := ⟨x, .ref C, t, .ref C, b, rfl, .own C, ty, k, q⟩
theorem w_isi2 {K : PySem.W.Frag} {H : Hp} {Q : VK} {x : V} {t : Value} {m n : String} {p : Addr} {b : Bool} (h : H p = some (.tup [.ty m, .ty n])) (ty : TyX K H x t) (k : PySem.W.kitAny K t [.type m, .type n] = some b) (q : Q (.bl b) H) : rIsiT K [x, .ref p] H Q :=
  ⟨x, p, _, t, _, b, rfl, h, .cons (.ty m) (.cons (.ty n) .nil), ty, k, q⟩
theorem ty_int {K : PySem.W.Frag} {H : Hp} (i : Int) : TyX K H (.int i) (.type "int") := .base (.int i)
noncomputable def spIsInt (K : PySem.W.Frag) : Sp := fun vs H Q _ => ∃ (v : V) (t : Value) (b1 b2 : Bool), vs = [v] ∧ TyX K H v t ∧ PySem.W.kitOne K t (.type "int") = some b1 ∧ PySem.W.kitOne K t (.type "bool") = some b2 ∧ Q (.bl (b1 && !b2)) H
theorem use_isInt {K : PySem.W.Frag} {H : Hp} {Q : VK} {E : XK} {i : Int} (q : Q (.bl true) H) : spIsInt K ([.int i] ++ []) H Q E := ⟨.int i, _, true, false, rfl, ty_int i, kit_ty (by decide +kernel), kit_ty (by decide +kernel), q⟩
noncomputable def spRaised : Sp := fun vs H Q _ => ∃ (f p : Int) (b : Nat), vs = [.int f, .int p] ∧ 0 ≤ p ∧ p < 2 ^ 40 ∧ f.natAbs < 2 ^ b ∧ b * p.toNat + b ≤ 100000 ∧ Q (.int (f ^ p.toNat)) H
noncomputable def Pr (n : Int) : Prop := 1 < n ∧ ∀ d : Int, 2 ≤ d → d * d ≤ n → n % d ≠ 0
noncomputable def spPrime : Sp := fun vs H Q _ => ∃ n : Int, vs = [.int n] ∧ n < 2 ^ 60 ∧ ∀ b : Bool, (b = true ↔ Pr n) → Q (.bl b) H
theorem natAbs_pow_lt {f : Int} {b : Nat} (h : f.natAbs < 2 ^ b) (n : Nat) : (f ^ n).natAbs < 2 ^ (b * n + 1) := by
  rw [Int.natAbs_pow]
  have h1 : f.natAbs ^ n ≤ (2 ^ b) ^ n := Nat.pow_le_pow_left (Nat.le_of_lt h) n
  rw [← Nat.pow_mul] at h1
  exact Nat.lt_of_le_of_lt h1 (Nat.pow_lt_pow_right (by decide) (Nat.lt_succ_self _))
section
variable {J : It} {G : Hp → Prop} {te : TE} {vs : List Nat} {σ : L2.St} {H : Hp} {D : Addr} {Qd : Hp → Prop} {j : Nat}
theorem lc_pure (xs ys : List V) (w : Walk J xs.length G (YAt xs)) (hD : H D = none) (hG : ∀ H', Same H H' → G H') (hl : ys.length = xs.length) (sz : ys.length ≤ 100000)
    (wp : ∀ v, wipe ((wipe σ vs).set j v) vs = wipe σ vs)
    (step : ∀ (i : Nat) (x y : V) (H' : Hp), xs[i]? = some x → ys[i]? = some y → Same H H' → ∀ Q' : VK, (∀ H'', Same H' H'' → Q' y H'') → te ((wipe σ vs).set j (some x)) H' Q')
    (q : ∀ H', Same H H' → H' D = some (.lst ys) → Qd H') :
    ∃ W : Nat → Nat → Hp → Prop, (∃ m, W 0 m (upd H D (.lst []))) ∧ ∀ i m H, W i m H →
      (J.stop i H ∧ Qd H) ∨ (J.go i H ∧ ∃ Nx : Hp → Prop, (∀ H', Nx H' → ∃ m', m' < m ∧ W (i + 1) m' H') ∧ ∀ x H', J.yld i H x H' → gName j x (wipe σ vs) H' fun σ2 H2 => wipe σ2 vs = wipe σ vs ∧ tYes σ2 H2 fun b H3 =>
        if b = true then te σ2 H3 fun y H4 => ∃ acc, H4 D = some (.lst acc) ∧ acc.length < sizeLine ∧ Nx (upd H4 D (.lst (acc ++ [y]))) else Nx H3) := by
  refine lc_it w (fun i H' => H' D = some (.lst (ys.take i)) ∧ Same H H') ⟨upd_same, Same.new hD⟩ (fun i H' _ h => hG H' h.2) ?_ ?_
  · rintro i x H1 H' hi ⟨h1, h2⟩ ⟨rfl, hx⟩
    refine ⟨wp _, w_yes ?_⟩
    rw [if_pos rfl]
    have hi' : i < ys.length := by omega
    refine step i x ys[i] H' hx (by simp [hi']) h2 _ fun H'' h3 => ?_
    refine ⟨_, h3 _ _ h1, ?_, ?_, ?_⟩
    · rw [List.length_take]
      have : (100000 : Nat) < sizeLine := by decide
      omega
    · rw [upd_same, List.take_succ_eq_append_getElem hi']
    · exact fun b o e => by
        rw [upd_ne (ne_of_none e hD)]
        exact h3 _ _ (h2 _ _ e)
  · rintro H' ⟨h1, h2⟩
    refine q H' h2 ?_
    rw [h1, ← hl, List.take_length]
end
theorem walk_strY {z : Str} : Walk (Its z) (z.cps.toList.map fun c => V.str ⟨#[c]⟩).length (fun _ => True) (YAt (z.cps.toList.map fun c => V.str ⟨#[c]⟩)) := by
  have h := walk_str (z := z)
  have e : (z.cps.toList.map fun c => V.str ⟨#[c]⟩).length = z.cps.size := by simp
  rw [e]
  refine h.mono (fun _ h => h) (fun i H x H' hi _ y => ?_)
  obtain ⟨rfl, c, hc, rfl⟩ := y
  refine ⟨rfl, ?_⟩
  rw [List.getElem?_map, Array.getElem?_toList, hc]
  rfl
/-- a text's value and its letters -/
inductive TextAt (H : Hp) : V → List Int → Prop where
  | str (z : Str) (h : ∀ c ∈ z.cps.toList, 32 ≤ c ∧ c ≤ 126) (l : z.length ≤ 100000) : TextAt H (.str z) (z.cps.toList.map Int.ofNat)
  | lst (a : Addr) (ls : List Int) (h : H a = some (.lst (ls.map V.int))) (l : ls.length ≤ 100000) : TextAt H (.ref a) ls
  | tup (a : Addr) (ls : List Int) (h : H a = some (.tup (ls.map V.int))) (l : ls.length ≤ 100000) : TextAt H (.ref a) ls
theorem TextAt.same {H H' : Hp} {v : V} {ls : List Int} (t : TextAt H v ls) (s : Same H H') : TextAt H' v ls := by
  cases t with
  | str z h l => exact .str z h l
  | lst a _ h l => exact .lst a _ (s _ _ h) l
  | tup a _ h l => exact .tup a _ (s _ _ h) l
theorem TextAt.len {H : Hp} {v : V} {ls : List Int} (t : TextAt H v ls) : ls.length ≤ 100000 := by
  cases t with
  | str z h l => rw [List.length_map]; exact l
  | lst a _ h l => exact l
  | tup a _ h l => exact l
theorem lt1 {a b : Nat} : (([a] : List Nat) < [b]) ↔ a < b := by simp [List.cons_lt_cons_iff]
theorem sign_lo {c : Nat} (h : 32 ≤ c) : decide ((Str.mk #[c]).cps.toList < (Str.ofString " ").cps.toList) = false := decide_eq_false fun z => by
  have : c < 32 := lt1.mp z
  omega
theorem sign_hi {c : Nat} (h : c ≤ 126) : decide ((Str.ofString "~").cps.toList < (Str.mk #[c]).cps.toList) = false := decide_eq_false fun z => by
  have : 126 < c := lt1.mp z
  omega
theorem all_true {α : Type} (l : List α) : (l.map fun _ => true).all id = true := by
  induction l with
  | nil => rfl
  | cons a r ih => rw [List.map_cons, List.all_cons, ih]; rfl
theorem get_map {α β : Type} {f : α → β} {l : List α} {i : Nat} {y : β} (h : (l.map f)[i]? = some y) : ∃ x, l[i]? = some x ∧ f x = y := by
  rw [List.getElem?_map] at h
  cases e : l[i]? with
  | none => rw [e] at h; cases h
  | some x => rw [e] at h; exact ⟨x, rfl, Option.some.inj h⟩
noncomputable def spIsText : Sp := fun vs H Q _ => ∃ (v : V) (ls : List Int), vs = [v] ∧ TextAt H v ls ∧ ∀ H', Same H H' → Q (.bl true) H'
noncomputable def spRead : Sp := fun vs H Q _ => ∃ (v : V) (ls : List Int), vs = [v] ∧ TextAt H v ls ∧ ∀ H' t, Same H H' → H' t = some (.tup (ls.map V.int)) → Q (.ref t) H'
theorem kitA {K : PySem.W.Frag} {t m n : String} {b : Bool} (h : (match kitB t m with | some true => some true | some false => (match kitB t n with | some true => some true | some false => some false | none => none) | none => none) = some b) : PySem.W.kitAny K (.type t) [.type m, .type n] = some b := h
noncomputable def num (ps : List (Int × Int)) : Int := ps.foldl (fun n p => n * p.1 ^ p.2.toNat) 1
noncomputable def Asc : Int → List (Int × Int) → Prop
  | _, [] => True
  | l, q :: r => l < q.1 ∧ 0 < q.2 ∧ Pr q.1 ∧ Asc q.1 r
noncomputable def Small (ps : List (Int × Int)) : Prop := (∀ q ∈ ps, 0 < q.1 ∧ q.1 < 1024 ∧ 0 < q.2 ∧ q.2 ≤ 100) ∧ ps.length ≤ 64
theorem num_snoc (ps : List (Int × Int)) (q : Int × Int) : num (ps ++ [q]) = num ps * q.1 ^ q.2.toNat := by
  unfold num
  rw [List.foldl_append]
  rfl
theorem num_take {ps : List (Int × Int)} {i : Nat} {q : Int × Int} (h : ps[i]? = some q) : num (ps.take (i + 1)) = num (ps.take i) * q.1 ^ q.2.toNat := by
  obtain ⟨hi, e⟩ := List.getElem?_eq_some_iff.mp h
  rw [List.take_succ_eq_append_getElem hi, num_snoc, e]
theorem num_bound {ps : List (Int × Int)} (h : Small ps) : ∀ i, i ≤ ps.length → 0 < num (ps.take i) ∧ (num (ps.take i)).natAbs < 2 ^ (1010 * i + 1)
  | 0, _ => by
    rw [List.take_zero]
    exact ⟨by decide, by decide⟩
  | i + 1, hi => by
    have ih := num_bound h i (by omega)
    have hlt : i < ps.length := by omega
    have hq := h.1 ps[i] (List.getElem_mem hlt)
    rw [num_take (q := ps[i]) (by simp [hlt])]
    have h1 : ((ps[i].1) ^ (ps[i].2.toNat)).natAbs < 2 ^ (10 * ps[i].2.toNat + 1) := natAbs_pow_lt (b := 10) (by show ps[i].1.natAbs < 1024; omega) _
    refine ⟨Int.mul_pos ih.1 (Int.pow_pos hq.1), ?_⟩
    have h2 := wide_lt ih.2 h1
    refine Nat.lt_of_lt_of_le h2 (Nat.pow_le_pow_right (by decide) ?_)
    omega
theorem num_pos {ps : List (Int × Int)} (h : Small ps) : 0 < num ps := by
  have := (num_bound h ps.length (Nat.le_refl _)).1
  rwa [List.take_length] at this
theorem num_lt {ps : List (Int × Int)} (h : Small ps) : (num ps).natAbs < 2 ^ 70000 := by
  have := (num_bound h ps.length (Nat.le_refl _)).2
  rw [List.take_length] at this
  refine Nat.lt_of_lt_of_le this (Nat.pow_le_pow_right (by decide) ?_)
  have := h.2
  omega
theorem Asc.at_ : ∀ {l : Int} {ps : List (Int × Int)} {i : Nat} {q : Int × Int}, Asc l ps → ps[i]? = some q → ((ps.take i).getLast?.map (·.1)).getD l < q.1 ∧ 0 < q.2 ∧ Pr q.1
  | l, [], i, q, _, h => by simp at h
  | l, r :: ps, 0, q, a, h => by
    have e : r = q := by simpa using h
    subst e
    exact ⟨a.1, a.2.1, a.2.2.1⟩
  | l, r :: ps, i + 1, q, a, h => by
    have ih := Asc.at_ (i := i) a.2.2.2 (by simpa using h)
    refine ⟨?_, ih.2⟩
    have e := ih.1
    rw [List.take_succ_cons, List.getLast?_cons]
    cases hh : (ps.take i).getLast? with
    | none => rw [hh] at e; exact e
    | some z => rw [hh] at e; exact e
noncomputable def Tp (H : Hp) (p : Int × Int) (t : Addr) : Prop := H t = some (.tup [.int p.1, .int p.2])
theorem paired_get {α β : Type} {R : α → β → Prop} : ∀ {xs : List α} {ys : List β} {i : Nat} {y : β}, Paired R xs ys → ys[i]? = some y → ∃ x, xs[i]? = some x ∧ R x y
  | _, _, _, _, .nil, h => by simp at h
  | _, _, 0, _, .cons r _, h => by
    have e := Option.some.inj (by simpa using h)
    subst e
    exact ⟨_, rfl, r⟩
  | _, _, i + 1, _, .cons _ t, h => by
    obtain ⟨x, h1, h2⟩ := paired_get (i := i) t (by simpa using h)
    exact ⟨x, by simpa using h1, h2⟩
theorem paired_imp {α β : Type} {R S : α → β → Prop} (h : ∀ x y, R x y → S x y) : ∀ {xs : List α} {ys : List β}, Paired R xs ys → Paired S xs ys
  | _, _, .nil => .nil
  | _, _, .cons r t => .cons (h _ _ r) (paired_imp h t)
theorem lk0 {f : Str} {v : V} {r : List (Str × V)} : List.lookup f ((f, v) :: r) = some v := by simp [List.lookup]
theorem lkS {f g : Str} {u : V} {r : List (Str × V)} (h : f ≠ g) : List.lookup f ((g, u) :: r) = List.lookup f r := by
  rw [List.lookup]
  have e : (f == g) = false := by simpa using h
  rw [e]
theorem putS {f g : Str} {u v : V} {r : List (Str × V)} (h : g ≠ f) : putF f v ((g, u) :: r) = (g, u) :: putF f v r := by
  unfold putF
  rw [if_neg h]
  cases r <;> rfl
theorem put0 {f : Str} {v : V} : putF f v [] = [(f, v)] := rfl
/-- a class whose instances are plain -/
structure ClsF (K : PySem.W.Frag) (C : Addr) : Prop where
  cl : Cls K C
  ha : PySem.W.findIn K (.ref C) "__class__" = some (some (.builtin "object.__class__"))
  hn : PySem.W.specialIn K (.builtin "object.__class__") "__get__" = some (some (.builtin "getset_descriptor.__get__"))
  htk : PySem.W.takesIn K (.builtin "object.__class__") = some true
  hm : PySem.W.mroIn K C (.type "object") = some true
theorem ClsF.ty {K : PySem.W.Frag} {C : Addr} (c : ClsF K C) {H : Hp} {a dx : Addr} {fs : List (Str × V)} (h : H a = some (.ins C dx fs)) : TyX K H (.ref a) (.ref C) := .base (.ins h c.cl c.ha c.hn c.htk c.hm)
theorem kit_own {K : PySem.W.Frag} {C : Addr} : PySem.W.kitOne K (.ref C) (.ref C) = some true := by
  unfold PySem.W.kitOne
  rw [if_pos (by simp)]
/-- the addresses of the three classes -/
structure CA where
  md : Addr
  kg : Addr
  wy : Addr
structure Kx (K : PySem.W.Frag) (mg : Str → Option Value) (c : CA) : Prop where
  md : ClsF K c.md
  kg : ClsF K c.kg
  wy : ClsF K c.wy
  mgMd : mg "Modulus" = some (.ref c.md)
  mgMk : mg "Marking" = some (.ref c.kg)
  mgWy : mg "Way" = some (.ref c.wy)
  number : NoAttr K c.md "number"
  factors : NoAttr K c.md "factors"
  low : NoAttr K c.kg "low"
  shift : NoAttr K c.kg "shift"
  lead : NoAttr K c.kg "lead"
  marking : NoAttr K c.wy "marking"
  modulus : NoAttr K c.wy "modulus"
  wnumber : NoAttr K c.wy "number"
  base : NoAttr K c.wy "base"
noncomputable def mdF (n : Int) (t : Addr) : List (Str × V) := [("number", .int n), ("factors", .ref t)]
noncomputable def mkF (low : Bool) (shift : Int) (lead : Bool) : List (Str × V) := [("low", .bl low), ("shift", .int shift), ("lead", .bl lead)]
noncomputable def wyF (k m : Addr) (n b : Int) : List (Str × V) := [("marking", .ref k), ("modulus", .ref m), ("number", .int n), ("base", .int b)]
noncomputable def ModAt (c : CA) (H : Hp) (m : Addr) (ps : List (Int × Int)) : Prop := ∃ (dx t : Addr) (ts : List Addr), H m = some (.ins c.md dx (mdF (num ps) t)) ∧ H t = some (.tup (ts.map V.ref)) ∧ Paired (Tp H) ps ts ∧ Asc 0 ps ∧ Small ps
noncomputable def MkAt (c : CA) (H : Hp) (k : Addr) (low : Bool) (shift : Int) (lead : Bool) : Prop := ∃ dx : Addr, H k = some (.ins c.kg dx (mkF low shift lead))
/-- how letters are added up -/
structure Sty where
  low : Bool
  shift : Int
  lead : Bool
noncomputable def WayAt (c : CA) (H : Hp) (a : Addr) (b : Int) (ps : List (Int × Int)) (y : Sty) : Prop := ∃ (dx m k : Addr), H a = some (.ins c.wy dx (wyF k m (num ps) b)) ∧ ModAt c H m ps ∧ MkAt c H k y.low y.shift y.lead ∧ 0 ≤ b ∧ b < num ps
theorem ModAt.same {c : CA} {H H' : Hp} {m : Addr} {ps : List (Int × Int)} (h : ModAt c H m ps) (s : Same H H') : ModAt c H' m ps := by
  obtain ⟨dx, t, ts, h1, h2, h3, h4⟩ := h
  exact ⟨dx, t, ts, s _ _ h1, s _ _ h2, paired_imp (fun _ _ z => s _ _ z) h3, h4⟩
theorem MkAt.same {c : CA} {H H' : Hp} {k : Addr} {l : Bool} {s : Int} {d : Bool} (h : MkAt c H k l s d) (e : Same H H') : MkAt c H' k l s d := by
  obtain ⟨dx, h1⟩ := h
  exact ⟨dx, e _ _ h1⟩
theorem WayAt.same {c : CA} {H H' : Hp} {a : Addr} {b : Int} {ps : List (Int × Int)} {y : Sty} (h : WayAt c H a b ps y) (s : Same H H') : WayAt c H' a b ps y := by
  obtain ⟨dx, m, k, h1, h2, h3, h4⟩ := h
  exact ⟨dx, m, k, s _ _ h1, h2.same s, h3.same s, h4⟩
/-- coefficients of the sum, that of the highest power first -/
noncomputable def hf (y : Sty) (ls : List Int) : List Int := (if y.lead then 1 else 0) :: (if y.low then (ls.map (· + y.shift)).reverse else ls.map (· + y.shift))
noncomputable def restAt (cs : List Int) (b n : Int) : Int := cs.foldl (fun f c => (f * b + c) % n) 0
noncomputable def mark (y : Sty) (b n : Int) (ls : List Int) : Int := restAt (hf y ls) b n
section
variable {σ : L2.St} {H : Hp} {D : Ends} {Q : VK} {K : PySem.W.Frag} {ta tv : TE} {f : Str} {x C dx : Addr} {fs : List (Str × V)} {v y : V}
theorem w_fldi {P : V → Prop} (h : H x = some (.ins C dx fs)) (c : Cls K C) (n : NoAttr K C f) (l : fs.lookup f = some v) (q : P v) : ∃ a C dx fs v, V.ref x = .ref a ∧ H a = some (.ins C dx fs) ∧ Cls K C ∧ NoAttr K C f ∧ fs.lookup f = some v ∧ P v := ⟨x, C, dx, fs, v, rfl, h, c, n, l, q⟩
theorem w_sfld (q : tv σ H fun y H1 => ta σ H1 fun x H2 => ∃ a C dx fs, x = .ref a ∧ H2 a = some (.ins C dx fs) ∧ Cls K C ∧ NoAttr K C f ∧ fs.length < 1000 ∧ D.nx σ (upd H2 a (.ins C dx (putF f y fs)))) : sFld K ta tv f D σ H := q
theorem w_sfldi {P : Hp → Prop} (h : H x = some (.ins C dx fs)) (c : Cls K C) (n : NoAttr K C f) (l : fs.length < 1000) (q : P (upd H x (.ins C dx (putF f y fs)))) : ∃ a C dx fs, V.ref x = .ref a ∧ H a = some (.ins C dx fs) ∧ Cls K C ∧ NoAttr K C f ∧ fs.length < 1000 ∧ P (upd H a (.ins C dx (putF f y fs))) :=
  ⟨x, C, dx, fs, rfl, h, c, n, l, q⟩
theorem w_make {sp : Sp} {dvs : List V} {E : XK} {as : TA} (q : as σ H fun vs H1 => ∀ x dx, H1 x = none → H1 dx = none → dx ≠ x → sp (.ref x :: (vs ++ dvs)) (upd (upd H1 dx (.own x)) x (.ins C dx [])) (fun v H2 => v = .non ∧ Q (.ref x) H2) E) : tMake C sp dvs E as σ H Q := q
theorem w_meth {m : Str} {sp : Sp} {dvs : List V} {E : XK} {as : TA} (q : ta σ H fun x H1 => ∃ a dx fs, x = .ref a ∧ H1 a = some (.ins C dx fs) ∧ fs.lookup m = none ∧ as σ H1 fun vs H2 => sp (x :: (vs ++ dvs)) H2 Q E) : tMeth C m sp dvs E ta as σ H Q := q
theorem w_methi {m : Str} {P : Addr → Prop} (h : H x = some (.ins C dx fs)) (l : fs.lookup m = none) (q : P x) : ∃ a dx fs, V.ref x = .ref a ∧ H a = some (.ins C dx fs) ∧ fs.lookup m = none ∧ P a := ⟨x, dx, fs, rfl, h, l, q⟩
theorem w_iEnum {K : PySem.W.Frag} {as : TA} {R : It → Hp → Prop} (q : as σ H fun vs H1 => ∃ a xs, vs = [.ref a] ∧ SqL K H1 a xs ∧ R (Ite K a) H1) : iEnum K as σ H R := q
theorem w_enumi {K : PySem.W.Frag} {a : Addr} {xs : List V} {P : Addr → Prop} (h : SqL K H a xs) (q : P a) : ∃ a' xs', [V.ref a] = [.ref a'] ∧ SqL K H a' xs' ∧ P a' := ⟨a, xs, rfl, h, q⟩
end
theorem mk_same {H H' : Hp} {x dx C : Addr} (nx : H x = none) (nd : H dx = none) (k : ∀ b o, b ≠ x → (upd (upd H dx (.own x)) x (.ins C dx [])) b = some o → H' b = some o) : Same H H' := fun b o e =>
  k b o (ne_of_none e nx) (by rw [upd_ne (ne_of_none e nx), upd_ne (ne_of_none e nd)]; exact e)
/-- __init__ of an own class by its body -/
theorem fnD_ok {P : Program} {w : World} {K : PySem.W.Frag} {mg : Str → Option Value} {base : Heap} {x qual : Str} {st : Stmt} {dvs : List V} {kws : List (Str × V)} {f : Addr} {fd : FuncData} {N ps : List Str} {k : Nat} {sp : Sp}
    (F : FunD K x qual (defArgs st) (defBody st) (defScope st) dvs kws f fd) (S : FnScope N ps (defScope st)) (len : ∀ vs H Q E, sp vs H Q E → vs.length = ps.length)
    (hbody : ∀ (cdv : Value) (A : Around) (outer : List Env) (s : Shared) (H : Hp) (vs : List V) (Q : VK) (E : XK), Room k (A.deeper (envOfC qual (defScope st) s.heap.objs.size f cdv)) → sp vs H Q E →
      ∃ t, PSs (cxOf CX0 P w K mg base N qual (defScope st) f cdv A outer s H E).nox (defBody st) t ∧ t { nx := fun _ H' => Q .non H', rt := Q } (start N vs) H) : FnOk P w K mg base CX0 (k + 1) f fd ps sp := by
  refine F.ok S len fun cdv A outer s H vs Q E hr h => ?_
  obtain ⟨t, h1, h2⟩ := hbody cdv A outer s H vs Q E hr h
  exact ⟨t, h1.nox, h2⟩
noncomputable def spIsFactor : Sp := fun vs H Q _ => ∃ (t : Addr) (l p k : Int), vs = [.ref t, .int l] ∧ H t = some (.tup [.int p, .int k]) ∧ p < 2 ^ 60 ∧ ∀ b : Bool, (b = true ↔ l < p ∧ 0 < k ∧ Pr p) → Q (.bl b) H
noncomputable def spModInit (c : CA) : Sp := fun vs H Q _ => ∃ (x dx l : Addr) (ts : List Addr) (ps : List (Int × Int)), vs = [.ref x, .ref l] ∧ H x = some (.ins c.md dx []) ∧ H l = some (.lst (ts.map V.ref)) ∧ Paired (Tp H) ps ts ∧ Asc 0 ps ∧ Small ps ∧
  ∀ H' t, (∀ b o, b ≠ x → H b = some o → H' b = some o) → H' x = some (.ins c.md dx (mdF (num ps) t)) → H' t = some (.tup (ts.map V.ref)) → Q .non H'
theorem use_mod {c : CA} {H : Hp} {PP : Addr → Hp → Prop} {E : XK} {l : Addr} {ts : List Addr} {ps : List (Int × Int)} (hl : H l = some (.lst (ts.map V.ref))) (hp : Paired (Tp H) ps ts) (ha : Asc 0 ps) (hs : Small ps) (q : ∀ m H', H m = none → Same H H' → ModAt c H' m ps → PP m H') :
    ∀ x dx, H x = none → H dx = none → dx ≠ x → spModInit c (.ref x :: ([.ref l] ++ [])) (upd (upd H dx (.own x)) x (.ins c.md dx [])) (fun v H2 => v = .non ∧ PP x H2) E := fun x dx nx nd ne => by
  have up : Same H (upd (upd H dx (.own x)) x (.ins c.md dx [])) := fun b o e => by rw [upd_ne (ne_of_none e nx), upd_ne (ne_of_none e nd)]; exact e
  refine ⟨x, dx, l, ts, ps, rfl, upd_same, up _ _ hl, paired_imp (fun _ _ z => up _ _ z) hp, ha, hs, fun H' t k h1 h2 => ⟨rfl, ?_⟩⟩
  have sm : Same H H' := mk_same nx nd k
  exact q x H' nx sm ⟨dx, t, ts, h1, h2, paired_imp (fun _ _ z => sm _ _ z) hp, ha, hs⟩
noncomputable def spMkInit (c : CA) : Sp := fun vs H Q _ => ∃ (x dx : Addr) (l : Bool) (s : Int) (d : Bool), vs = [.ref x, .bl l, .int s, .bl d] ∧ H x = some (.ins c.kg dx []) ∧
  ∀ H', (∀ b o, b ≠ x → H b = some o → H' b = some o) → H' x = some (.ins c.kg dx (mkF l s d)) → Q .non H'
theorem use_mk {c : CA} {H : Hp} {PP : Addr → Hp → Prop} {E : XK} {l : Bool} {s : Int} {d : Bool} (q : ∀ m H', H m = none → Same H H' → MkAt c H' m l s d → PP m H') :
    ∀ x dx, H x = none → H dx = none → dx ≠ x → spMkInit c [.ref x, .bl l, .int s, .bl d] (upd (upd H dx (.own x)) x (.ins c.kg dx [])) (fun v H2 => v = .non ∧ PP x H2) E := fun x dx nx nd ne =>
  ⟨x, dx, l, s, d, rfl, upd_same, fun H' k h1 => ⟨rfl, q x H' nx (mk_same nx nd k) ⟨dx, h1⟩⟩⟩
noncomputable def spHf (c : CA) : Sp := fun vs H Q _ => ∃ (k a : Addr) (y : Sty) (ls : List Int), vs = [.ref k, .ref a] ∧ MkAt c H k y.low y.shift y.lead ∧ H a = some (.tup (ls.map V.int)) ∧ ls.length ≤ 100000 ∧ ∀ H' l, Same H H' → H' l = some (.lst ((hf y ls).map V.int)) → Q (.ref l) H'
noncomputable def spRestAt : Sp := fun vs H Q _ => ∃ (a : Addr) (cs : List Int) (b n : Int) (B : Nat), vs = [.ref a, .int b, .int n] ∧ H a = some (.lst (cs.map V.int)) ∧ 0 ≤ b ∧ b < n ∧ n.natAbs < 2 ^ B ∧ B ≤ 100000 ∧ Q (.int (restAt cs b n)) H
noncomputable def spMkOf (c : CA) : Sp := fun vs H Q _ => ∃ (v : V) (y : Sty), vs = [v] ∧ ((v = .non ∧ y = ⟨false, 0, false⟩) ∨ ∃ k, v = .ref k ∧ MkAt c H k y.low y.shift y.lead) ∧ ∀ H' k, Same H H' → MkAt c H' k y.low y.shift y.lead → Q (.ref k) H'
noncomputable def spReqMod (c : CA) : Sp := fun vs H Q _ => ∃ (m dx : Addr) (fs : List (Str × V)), vs = [.ref m] ∧ H m = some (.ins c.md dx fs) ∧ Q .non H
noncomputable def spReqWay (c : CA) : Sp := fun vs H Q _ => ∃ (m dx : Addr) (fs : List (Str × V)), vs = [.ref m] ∧ H m = some (.ins c.wy dx fs) ∧ Q .non H
noncomputable def spReqStock : Sp := fun vs H Q _ => ∃ n : Int, vs = [.int n] ∧ 1 ≤ n ∧ Q .non H
noncomputable def spWayInit (c : CA) : Sp := fun vs H Q _ => ∃ (x dx m : Addr) (b : Int) (mv : V) (ps : List (Int × Int)) (y : Sty), vs = [.ref x, .int b, .ref m, mv] ∧ H x = some (.ins c.wy dx []) ∧ ModAt c H m ps ∧ ((mv = .non ∧ y = ⟨false, 0, false⟩) ∨ ∃ k, mv = .ref k ∧ MkAt c H k y.low y.shift y.lead) ∧
  ∀ H' k, (∀ b o, b ≠ x → H b = some o → H' b = some o) → H' x = some (.ins c.wy dx (wyF k m (num ps) (b % num ps))) → MkAt c H' k y.low y.shift y.lead → Q .non H'
theorem use_way {c : CA} {H : Hp} {PP : Addr → Hp → Prop} {E : XK} {m : Addr} {b : Int} {mv : V} {ps : List (Int × Int)} {y : Sty} (hm : ModAt c H m ps) (hk : (mv = .non ∧ y = ⟨false, 0, false⟩) ∨ ∃ k, mv = .ref k ∧ MkAt c H k y.low y.shift y.lead)
    (q : ∀ m H', H m = none → Same H H' → WayAt c H' m (b % num ps) ps y → PP m H') :
    ∀ x dx, H x = none → H dx = none → dx ≠ x → spWayInit c [.ref x, .int b, .ref m, mv] (upd (upd H dx (.own x)) x (.ins c.wy dx [])) (fun v H2 => v = .non ∧ PP x H2) E := fun x dx nx nd ne => by
  have up : Same H (upd (upd H dx (.own x)) x (.ins c.wy dx [])) := fun b o e => by rw [upd_ne (ne_of_none e nx), upd_ne (ne_of_none e nd)]; exact e
  refine ⟨x, dx, m, b, mv, ps, y, rfl, upd_same, hm.same up, ?_, fun H' k kp h1 h2 => ⟨rfl, ?_⟩⟩
  · rcases hk with h | ⟨k, e, h⟩
    · exact .inl h
    · exact .inr ⟨k, e, h.same up⟩
  · have sm : Same H H' := mk_same nx nd kp
    have hn : 0 < num ps := by
      obtain ⟨_, _, _, _, _, _, _, h⟩ := hm
      exact num_pos h
    exact q x H' nx sm ⟨dx, m, k, h1, hm.same sm, h2, Int.emod_nonneg _ (by omega), Int.emod_lt_of_pos _ hn⟩
noncomputable def spOfLetters (c : CA) : Sp := fun vs H Q _ => ∃ (x a : Addr) (b : Int) (ps : List (Int × Int)) (y : Sty) (ls : List Int), vs = [.ref x, .ref a] ∧ WayAt c H x b ps y ∧ H a = some (.tup (ls.map V.int)) ∧ ls.length ≤ 100000 ∧ ∀ H', Same H H' → Q (.int (mark y b (num ps) ls)) H'
noncomputable def spMarkOf (c : CA) : Sp := fun vs H Q _ => ∃ (x : Addr) (v : V) (b : Int) (ps : List (Int × Int)) (y : Sty) (ls : List Int), vs = [.ref x, v] ∧ WayAt c H x b ps y ∧ TextAt H v ls ∧ ∀ H', Same H H' → Q (.int (mark y b (num ps) ls)) H'
section
variable {X : Cx} {k j : Nat} {x : Str} {C : Addr} {sp : Sp} {dvs : List V} {p pos : Pos} {ks : List Str} {gV : List V → List V → List V} {kws : List Keyword} {tk : TA}
theorem pe_mk0 (c : C8.Mak X.prog X.w X.K X.mg X.base k x C sp dvs) (hr : Room j X.A) (hk : k + 1 ≤ j) (hg : Gl X x) (hdb : (x == ("__debug__" : Str)) = false := by decide) : PE X (.Call (.Name x p) [] [] pos) (tMake C sp dvs L2.E0 tNil) := by
  obtain ⟨f, fd, ps, ds, M, F, hm, b, d⟩ := c.ex
  exact pe_make0 M F (hr.mono hk) hg hm b d pass0 hdb
structure MakK (P : Program) (w : World) (K : PySem.W.Frag) (mg : Str → Option Value) (base : Heap) (k : Nat) (x : Str) (C : Addr) (ks : List Str) (sp : Sp) (gV : List V → List V → List V) : Prop where
  ex : ∃ (f : Addr) (fd : FuncData) (ps : List Str) (g : List Value → List Value → List Value), Mk K C f ∧ FnOk P w K mg base L2.CX0 k f fd ps sp ∧ mg x = some (.ref C) ∧ KBn K fd ps 1 ks g gV
theorem pe_mkK0 (c : MakK X.prog X.w X.K X.mg X.base k x C ks sp gV) (hr : Room j X.A) (hk : k + 1 ≤ j) (hg : Gl X x) (hkw : PK X kws tk)
    (hall : (backToKw pos (keywordEach kws X.env)).all (·.1.isSome) = true := by rfl) (hks : (backToKw pos (keywordEach kws X.env)).filterMap (·.1) = ks := by rfl) (hdb : (x == ("__debug__" : Str)) = false := by decide)
    (hpl : ((backTo pos (starEach [] X.env)).any (·.1) || (backToKw pos (keywordEach kws X.env)).any (·.1.isNone)) = false := by rfl) :
    PE X (.Call (.Name x p) [] kws pos) (tMakeK C 0 ks.length sp gV L2.E0 tNil tk) := by
  obtain ⟨f, fd, ps, g, M, F, hm, b⟩ := c.ex
  exact pe_makeK0 M F (hr.mono hk) hg hm b pass0 hkw hall hks hdb hpl
theorem w_makeK {σ : L2.St} {H : Hp} {Q : VK} {n m : Nat} {E : XK} {t tk : TA} (q : t σ H fun vs H1 => tk σ H1 fun zs H2 => vs.length = n ∧ zs.length = m ∧ ∀ x dx, H2 x = none → H2 dx = none → dx ≠ x → sp (gV (.ref x :: vs) zs) (upd (upd H2 dx (.own x)) x (.ins C dx [])) (fun v H3 => v = .non ∧ Q (.ref x) H3) E) : tMakeK C n m sp gV E t tk σ H Q := q
theorem w_callN {σ : L2.St} {H : Hp} {Q : VK} {n m : Nat} {E : XK} {t tk : TA} (q : t σ H fun vs H1 => tk σ H1 fun zs H2 => vs.length = n ∧ zs.length = m ∧ sp (gV vs zs) H2 Q E) : tCallN n m sp gV E t tk σ H Q := q
end
section
variable {K : PySem.W.Frag} {H : Hp}
theorem dp_ints : ∀ ls : List Int, DpAll K H (ls.map V.int) (ls.map PyData.int)
  | [] => .nil
  | i :: r => .cons (.int i) (dp_ints r)
theorem eqv_ints : ∀ ls ms : List Int, PyData.eqvAll (ls.map PyData.int) (ms.map PyData.int) = decide (ls = ms)
  | [], [] => by simp [PyData.eqvAll]
  | [], _ :: _ => by simp [PyData.eqvAll]
  | _ :: _, [] => by simp [PyData.eqvAll]
  | i :: r, j :: t => by
    rw [List.map_cons, List.map_cons, PyData.eqvAll, eqv_ints r t, PyData.eqv]
    simp only [List.cons.injEq, Bool.decide_and]
    congr 1
theorem lay_ints : ∀ ls : List Int, PyData.canLayAll0 (ls.map PyData.int) = true
  | [] => rfl
  | i :: r => by
    rw [List.map_cons, PyData.canLayAll0, lay_ints r]
    rfl
theorem depth_ints : ∀ ls : List Int, PyData.depthAll (ls.map PyData.int) = 0
  | [] => rfl
  | i :: r => by
    rw [List.map_cons, PyData.depthAll, depth_ints r]
    rfl
theorem shaped_lst (ls : List Int) : SeqAt.shaped (.list (ls.map PyData.int)) = true := by
  unfold SeqAt.shaped
  rw [PyData.canLay0, lay_ints, PyData.depth, depth_ints]
  rfl
theorem w_neLL {a b : Addr} {ls ms : List Int} {Q : VK} (ha : SqL K H a (ls.map V.int)) (hb : SqL K H b (ms.map V.int)) (q : Q (.bl (!decide (ls = ms))) H) : rNeD K (.ref a) (.ref b) H Q :=
  ⟨_, _, .lst ha (dp_ints ls), .lst hb (dp_ints ms), shaped_lst _, shaped_lst _, by rw [PyData.eqv, eqv_ints]; exact q⟩
theorem w_revi {x : Addr} {xs : List V} {P : Addr → Hp → Prop} (h : SqL K H x xs) (q : ∀ p, H p = none → P p (upd H p (.lst xs.reverse))) : ∃ a xs, V.ref x = .ref a ∧ SqL K H a xs ∧ ∀ p, H p = none → P p (upd H p (.lst xs.reverse)) := ⟨x, xs, rfl, h, q⟩
end
theorem mk_low {l : Bool} {s : Int} {d : Bool} : (mkF l s d).lookup ("low" : Str) = some (.bl l) := lk0
theorem mk_shift {l : Bool} {s : Int} {d : Bool} : (mkF l s d).lookup ("shift" : Str) = some (.int s) := (lkS (by decide +kernel)).trans lk0
theorem mk_lead {l : Bool} {s : Int} {d : Bool} : (mkF l s d).lookup ("lead" : Str) = some (.bl d) := (lkS (by decide +kernel)).trans ((lkS (by decide +kernel)).trans lk0)
theorem mk_no {l : Bool} {s : Int} {d : Bool} {m : Str} (h1 : m ≠ ("low" : Str)) (h2 : m ≠ ("shift" : Str)) (h3 : m ≠ ("lead" : Str)) : (mkF l s d).lookup m = none := (lkS h1).trans ((lkS h2).trans ((lkS h3).trans rfl))
theorem md_number {n : Int} {t : Addr} : (mdF n t).lookup ("number" : Str) = some (.int n) := lk0
theorem md_factors {n : Int} {t : Addr} : (mdF n t).lookup ("factors" : Str) = some (.ref t) := (lkS (by decide +kernel)).trans lk0
theorem wy_marking {k m : Addr} {n b : Int} : (wyF k m n b).lookup ("marking" : Str) = some (.ref k) := lk0
theorem wy_modulus {k m : Addr} {n b : Int} : (wyF k m n b).lookup ("modulus" : Str) = some (.ref m) := (lkS (by decide +kernel)).trans lk0
theorem wy_number {k m : Addr} {n b : Int} : (wyF k m n b).lookup ("number" : Str) = some (.int n) := (lkS (by decide +kernel)).trans ((lkS (by decide +kernel)).trans lk0)
theorem wy_base {k m : Addr} {n b : Int} : (wyF k m n b).lookup ("base" : Str) = some (.int b) := (lkS (by decide +kernel)).trans ((lkS (by decide +kernel)).trans ((lkS (by decide +kernel)).trans lk0))
theorem wy_no {k m : Addr} {n b : Int} {f : Str} (h1 : f ≠ ("marking" : Str)) (h2 : f ≠ ("modulus" : Str)) (h3 : f ≠ ("number" : Str)) (h4 : f ≠ ("base" : Str)) : (wyF k m n b).lookup f = none := (lkS h1).trans ((lkS h2).trans ((lkS h3).trans ((lkS h4).trans rfl)))
theorem rest_take {cs : List Int} {i : Nat} {v b n : Int} (h : cs[i]? = some v) : restAt (cs.take (i + 1)) b n = (restAt (cs.take i) b n * b + v) % n := by
  obtain ⟨hi, e⟩ := List.getElem?_eq_some_iff.mp h
  unfold restAt
  rw [List.take_succ_eq_append_getElem hi, List.foldl_append, e]
  rfl
theorem rest_range {b n : Int} (hn : 0 < n) : ∀ (cs : List Int), 0 ≤ restAt cs b n ∧ restAt cs b n < n := fun cs => by
  unfold restAt
  have : ∀ (cs : List Int) (a : Int), 0 ≤ a → a < n → 0 ≤ cs.foldl (fun f c => (f * b + c) % n) a ∧ cs.foldl (fun f c => (f * b + c) % n) a < n := by
    intro cs
    induction cs with
    | nil => exact fun a h1 h2 => ⟨h1, h2⟩
    | cons c r ih => exact fun a h1 h2 => ih _ (Int.emod_nonneg _ (by omega)) (Int.emod_lt_of_pos _ hn)
  exact this cs 0 (Int.le_refl _) hn
theorem map_rev (f : Int → V) (l : List Int) : (l.map f).reverse = l.reverse.map f := by rw [List.map_reverse]
theorem w_tyL {K : PySem.W.Frag} {H : Hp} {a : Addr} {xs : List V} {P : Prop} (h : SqL K H a xs) (q : P) : tyV K "list" (.ref a) H ∧ P := ⟨Or.inl ⟨rfl, _, h⟩, q⟩
theorem decI {a b : Int} : decide (V.int a = V.int b) = decide (a = b) := by
  by_cases z : a = b
  · rw [decide_eq_true z, decide_eq_true (by rw [z])]
  · rw [decide_eq_false z, decide_eq_false (fun w => z (by injection w))]
theorem w_m1 {σ : L2.St} {H : Hp} {Q : VK} {r : V → List V → Hp → VK → Prop} {to te : TE} (q : to σ H fun x H1 => (∃ a, x = .str a) ∧ te σ H1 fun y H2 => r x [y] H2 Q) : tM1 r to te σ H Q := q
theorem w_isStr {z : Str} {P : Prop} (q : P) : (∃ a, V.str z = .str a) ∧ P := ⟨⟨z, rfl⟩, q⟩
section
variable {a b : Addr} {c : Int} {H H' : Hp} {o : HO}
theorem Purse.ne (p : Purse H a c) (h : H b = some o) (d : ∀ x y z : Int, o ≠ .lst [.int x, .int y, .int z]) : b ≠ a := fun e => by
  obtain ⟨x, y, z, h1, _⟩ := p
  rw [e, h1] at h
  exact d x y z (Option.some.inj h).symm
theorem Purse.fresh (p : Purse H a c) (h : H b = none) : b ≠ a := fun e => by
  obtain ⟨x, y, z, h1, _⟩ := p
  rw [e, h1] at h
  cases h
theorem Keep.free (k : Keep a H H') (p : Purse H' a c) (h : H' b = none) : H b = none := by
  cases e : H b with
  | none => rfl
  | some o =>
    by_cases z : b = a
    · obtain ⟨_, _, _, e2, _⟩ := p
      rw [z, e2] at h
      cases h
    · rw [k _ _ z e] at h
      cases h
theorem Keep.tup {xs : List V} (k : Keep a H H') (p : Purse H a c) (h : H b = some (.tup xs)) : H' b = some (.tup xs) := k b _ (p.ne h fun _ _ _ z => by cases z) h
theorem Keep.ins {C dx : Addr} {fs : List (Str × V)} (k : Keep a H H') (p : Purse H a c) (h : H b = some (.ins C dx fs)) : H' b = some (.ins C dx fs) := k b _ (p.ne h fun _ _ _ z => by cases z) h
/-- a list of pairs -/
noncomputable def PrL (H : Hp) (l : Addr) (ps : List (Int × Int)) : Prop := ∃ ts : List Addr, H l = some (.lst (ts.map V.ref)) ∧ Paired (Tp H) ps ts
theorem refs_ne {ts : List Addr} (x y z : Int) : HO.lst (ts.map V.ref) ≠ .lst [.int x, .int y, .int z] := fun e => by
  injection e with e
  cases ts with
  | nil => cases e
  | cons t r =>
    rw [List.map_cons] at e
    injection e with e1
    cases e1
theorem PrL.same {l : Addr} {ps : List (Int × Int)} (h : PrL H l ps) (s : Same H H') : PrL H' l ps := by
  obtain ⟨ts, h1, h2⟩ := h
  exact ⟨ts, s _ _ h1, paired_imp (fun _ _ z => s _ _ z) h2⟩
theorem Keep.new (p : Purse H a c) {q : Addr} (n : H q = none) : Keep a H (L2.upd H q o) := .of (Same.new n)
end
theorem Asc.snoc : ∀ {l : Int} {ps : List (Int × Int)} {q : Int × Int}, Asc l ps → (ps.getLast?.map (·.1)).getD l < q.1 → 0 < q.2 → Pr q.1 → Asc l (ps ++ [q])
  | l, [], q, _, h1, h2, h3 => ⟨h1, h2, h3, trivial⟩
  | l, r :: ps, q, a, h1, h2, h3 => by
    refine ⟨a.1, a.2.1, a.2.2.1, Asc.snoc a.2.2.2 ?_ h2 h3⟩
    rw [List.getLast?_cons] at h1
    cases hh : ps.getLast? with
    | none => rw [hh] at h1; exact h1
    | some z => rw [hh] at h1; exact h1
noncomputable instance (n : Int) : Decidable (∀ d : Int, 2 ≤ d → d * d ≤ n → n % d ≠ 0) := 
  if h : ∀ k : Fin 64, (2 ≤ k.val ∧ (k.val : Int) * k.val ≤ n) → n % (k.val : Int) ≠ 0 then
    if h2 : n < 4096 then .isTrue (fun d h3 h4 => by
      have hd : d < 64 := by
        refine Int.not_le.mp fun z => ?_
        have := Int.mul_le_mul z z (by decide) (by omega)
        omega
      have e : ((d.toNat : Nat) : Int) = d := Int.toNat_of_nonneg (by omega)
      have := h ⟨d.toNat, by omega⟩ ⟨by show 2 ≤ d.toNat; omega, by show ((d.toNat : Nat) : Int) * ((d.toNat : Nat) : Int) ≤ n; rw [e]; exact h4⟩
      rwa [show (((⟨d.toNat, by omega⟩ : Fin 64).val : Nat) : Int) = d from e] at this)
    else if h5 : ∀ k : Fin n.toNat, (2 ≤ k.val ∧ (k.val : Int) * k.val ≤ n) → n % (k.val : Int) ≠ 0 then .isTrue (fun d h3 h4 => by
      have hd : d < n := by
        refine Int.not_le.mp fun z => ?_
        have : n * 2 ≤ d * d := Int.mul_le_mul z h3 (by decide) (by omega)
        omega
      have e : ((d.toNat : Nat) : Int) = d := Int.toNat_of_nonneg (by omega)
      have := h5 ⟨d.toNat, by omega⟩ ⟨by show 2 ≤ d.toNat; omega, by show ((d.toNat : Nat) : Int) * ((d.toNat : Nat) : Int) ≤ n; rw [e]; exact h4⟩
      rwa [show (((⟨d.toNat, by omega⟩ : Fin n.toNat).val : Nat) : Int) = d from e] at this)
    else .isFalse fun z => h5 fun k hk => z k.val (by omega) hk.2
  else .isFalse fun z => h fun k hk => z k.val (by omega) hk.2
noncomputable instance (n : Int) : Decidable (Pr n) := inferInstanceAs (Decidable (_ ∧ _))
theorem prN {p : Int} (h : Pr p) (d : Nat) (hd : d ∣ p.natAbs) : d = 1 ∨ d = p.natAbs := by
  obtain ⟨e, he⟩ := hd
  have hp := h.1
  have h0 : p = ((d * e : Nat) : Int) := by omega
  by_cases d1 : d = 1
  · exact .inl d1
  by_cases e1 : e = 1
  · right; rw [he, e1, Nat.mul_one]
  exfalso
  have d0 : d ≠ 0 := fun z => by rw [z, Nat.zero_mul] at he; omega
  have e0 : e ≠ 0 := fun z => by rw [z, Nat.mul_zero] at he; omega
  by_cases c : d ≤ e
  · refine h.2 d (by omega) ?_ ?_
    · rw [h0]
      have : d * d ≤ d * e := Nat.mul_le_mul_left d c
      exact_mod_cast this
    · rw [h0, Int.natCast_mul]
      exact Int.mul_emod_right _ _
  · refine h.2 e (by omega) ?_ ?_
    · rw [h0]
      have : e * e ≤ d * e := Nat.mul_le_mul_right e (by omega)
      exact_mod_cast this
    · rw [h0, Int.natCast_mul]
      exact Int.mul_emod_left _ _
theorem cop_or {p : Int} (h : Pr p) (b : Nat) : p.natAbs ∣ b ∨ Nat.Coprime b p.natAbs := by
  rcases prN h _ (Nat.gcd_dvd_right b p.natAbs) with e | e
  · exact .inr e
  · left
    have := Nat.gcd_dvd_left b p.natAbs
    rwa [e] at this
noncomputable def numN (ps : List (Int × Int)) : Nat := ps.foldl (fun n p => n * p.1.natAbs ^ p.2.toNat) 1
theorem numN_fold (ps : List (Int × Int)) : ∀ a : Nat, ps.foldl (fun n p => n * p.1.natAbs ^ p.2.toNat) a = a * numN ps := by
  unfold numN
  induction ps with
  | nil => intro a; simp
  | cons q r ih =>
    intro a
    rw [List.foldl_cons, List.foldl_cons, ih, ih (1 * _), Nat.one_mul, Nat.mul_assoc]
theorem numN_cons (q : Int × Int) (ps : List (Int × Int)) : numN (q :: ps) = q.1.natAbs ^ q.2.toNat * numN ps := by
  show List.foldl _ _ _ = _
  rw [List.foldl_cons, numN_fold, Nat.one_mul]
theorem num_fold (ps : List (Int × Int)) : ∀ a : Int, ps.foldl (fun n p => n * p.1 ^ p.2.toNat) a = a * num ps := by
  unfold num
  induction ps with
  | nil => intro a; simp
  | cons q r ih =>
    intro a
    rw [List.foldl_cons, List.foldl_cons, ih, ih (1 * _), Int.one_mul, Int.mul_assoc]
theorem num_cons (q : Int × Int) (ps : List (Int × Int)) : num (q :: ps) = q.1 ^ q.2.toNat * num ps := by
  show List.foldl _ _ _ = _
  rw [List.foldl_cons, num_fold, Int.one_mul]
theorem num_cast : ∀ {l : Int} {ps : List (Int × Int)}, 0 ≤ l → Asc l ps → num ps = (numN ps : Int)
  | _, [], _, _ => rfl
  | l, q :: r, h0, a => by
    have h1 := a.1
    rw [num_cons, numN_cons, num_cast (l := q.1) (by omega) a.2.2.2, Int.natCast_mul, Int.natCast_pow, Int.natAbs_of_nonneg (by omega)]
theorem Asc.lt : ∀ {l : Int} {ps : List (Int × Int)}, Asc l ps → ∀ q ∈ ps, l < q.1 ∧ 0 < q.2 ∧ Pr q.1
  | _, [], _, q, h => by cases h
  | l, r :: ps, a, q, h => by
    rcases List.mem_cons.mp h with e | e
    · rw [e]; exact ⟨a.1, a.2.1, a.2.2.1⟩
    · have := Asc.lt a.2.2.2 q e
      exact ⟨Int.lt_trans a.1 this.1, this.2⟩
theorem cop_num {p : Int} (hp : Pr p) (k : Nat) : ∀ {ps : List (Int × Int)}, (∀ q ∈ ps, p < q.1 ∧ 0 < q.2 ∧ Pr q.1) → Nat.Coprime (p.natAbs ^ k) (numN ps)
  | [], _ => Nat.coprime_one_right _
  | q :: r, h => by
    rw [numN_cons]
    refine Nat.Coprime.mul_right (Nat.Coprime.pow _ _ ?_) (cop_num hp k fun q hq => h q (List.mem_cons_of_mem _ hq))
    have hq := h q (List.mem_cons_self ..)
    have hp1 := hp.1
    rcases cop_or hq.2.2 p.natAbs with z | z
    · exfalso
      have := Nat.le_of_dvd (by omega) z
      omega
    · exact z
/-- the first of the places below N at which P holds -/
noncomputable def Fst (P : Nat → Prop) (N : Nat) : Option Nat → Prop
  | none => ∀ e, e < N → ¬ P e
  | some e => e < N ∧ P e ∧ ∀ j, j < e → ¬ P j
theorem Fst.same {P P' : Nat → Prop} {N M S : Nat} {r r' : Option Nat} (h : Fst P N r) (h' : Fst P' M r') (e : ∀ j, P j ↔ P' j) (st : ∀ j, S ≤ j → P j → P S) (hN : S < N) (hM : S < M) : r = r' := by
  have low : ∀ j, P j → ∃ i, i ≤ S ∧ i ≤ j ∧ P i := fun j hj => by
    by_cases c : S ≤ j
    · exact ⟨S, Nat.le_refl _, c, st j c hj⟩
    · exact ⟨j, by omega, Nat.le_refl _, hj⟩
  cases r with
  | none =>
    cases r' with
    | none => rfl
    | some e' =>
      obtain ⟨i, h1, h2, h3⟩ := low e' ((e e').mpr h'.2.1)
      exact absurd h3 (h i (by omega))
  | some e1 =>
    cases r' with
    | none =>
      obtain ⟨i, h1, h2, h3⟩ := low e1 h.2.1
      exact absurd ((e i).mp h3) (h' i (by omega))
    | some e2 =>
      have a1 : ¬ e1 < e2 := fun z => h'.2.2 e1 z ((e e1).mp h.2.1)
      have a2 : ¬ e2 < e1 := fun z => h.2.2 e2 z ((e e2).mpr h'.2.1)
      have : e1 = e2 := by omega
      rw [this]
theorem walk_rangeY {lo : Int} {n : Nat} : Walk (Itr lo n) ((List.range n).map fun i : Nat => V.int (lo + i)).length (fun _ => True) (YAt ((List.range n).map fun i : Nat => V.int (lo + i))) := by
  have h := walk_range (lo := lo) (n := n)
  have e : ((List.range n).map fun i : Nat => V.int (lo + i)).length = n := by simp
  rw [e]
  refine h.mono (fun _ h => h) (fun i H x H' hi _ y => ?_)
  obtain ⟨rfl, rfl⟩ := y
  refine ⟨rfl, ?_⟩
  rw [List.getElem?_map, List.getElem?_range hi]
  rfl
noncomputable def hv (cs : List Int) (b : Int) : Int := cs.foldl (fun f c => f * b + c) 0
theorem hv_fold (cs : List Int) (b : Int) : ∀ a : Int, cs.foldl (fun f c => f * b + c) a = a * b ^ cs.length + hv cs b := by
  unfold hv
  induction cs with
  | nil => intro a; simp
  | cons c r ih =>
    intro a
    rw [List.foldl_cons, List.foldl_cons, ih, ih (0 * b + c), List.length_cons, Int.pow_succ, Int.zero_mul, Int.zero_add, Int.add_mul, Int.mul_assoc, Int.mul_comm b]
    omega
theorem hv_cons (c : Int) (cs : List Int) (b : Int) : hv (c :: cs) b = c * b ^ cs.length + hv cs b := by
  show List.foldl _ _ _ = _
  rw [List.foldl_cons, hv_fold, Int.zero_mul, Int.zero_add]
theorem rest_hv (cs : List Int) (b n : Int) : restAt cs b n = hv cs b % n := by
  unfold restAt hv
  have : ∀ (cs : List Int) (a a' : Int), a % n = a' % n → (cs.foldl (fun f c => (f * b + c) % n) a) % n = (cs.foldl (fun f c => f * b + c) a') % n := by
    intro cs
    induction cs with
    | nil => exact fun a a' h => h
    | cons c r ih =>
      intro a a' h
      rw [List.foldl_cons, List.foldl_cons]
      refine ih _ _ ?_
      rw [Int.emod_emod_of_dvd _ (Int.dvd_refl n), Int.add_emod, Int.mul_emod, h, ← Int.mul_emod, ← Int.add_emod]
  cases cs with
  | nil => simp
  | cons c r =>
    have h := this (c :: r) 0 0 rfl
    rw [← h]
    have h2 : ∀ (cs : List Int) (a : Int), a % n = a → (cs.foldl (fun f c => (f * b + c) % n) a) % n = cs.foldl (fun f c => (f * b + c) % n) a := by
      intro cs
      induction cs with
      | nil => exact fun a h => h
      | cons c r ih => exact fun a h => ih _ (Int.emod_emod_of_dvd _ (Int.dvd_refl n))
    exact (h2 (c :: r) 0 (by simp)).symm
noncomputable def spMixed : Sp := fun vs H Q _ => ∃ a b : Int, vs = [.int a, .int b] ∧ 0 ≤ a ∧ a < 2 ^ 31 ∧ 0 ≤ b ∧ b < 2 ^ 60 ∧ ∀ r : Int, 0 ≤ r → r < 2 ^ 31 → Q (.int r) H
noncomputable def spPurse (K : PySem.W.Frag) : Sp := fun vs H Q _ => ∃ (a : Addr) (ns : List Int) (i : Int), vs = [.ref a, .int i] ∧ SqL K H a (ns.map V.int) ∧ 0 ≤ i ∧ i < 2 ^ 40 ∧
  ∀ p H', H p = none → Same H H' → Purse H' p (1000 * i) → Q (.ref p) H'
noncomputable def spDraw : Sp := fun vs H Q _ => ∃ (a : Addr) (n c : Int), vs = [.ref a, .int n] ∧ 0 < n ∧ n < 2 ^ 60 ∧ c < 2 ^ 50 ∧ Purse H a c ∧
  ∀ r H', 0 ≤ r → r < n → Keep a H H' → Purse H' a (c + 1) → Q (.int r) H'
theorem use_draw {H : Hp} {Q : VK} {E : XK} {a : Addr} {n c : Int} (p : Purse H a c) (n0 : 0 < n) (n1 : n < 2 ^ 60) (hc : c < 2 ^ 50) (q : ∀ r H', 0 ≤ r → r < n → Keep a H H' → Purse H' a (c + 1) → Q (.int r) H') :
    spDraw ([.ref a, .int n] ++ []) H Q E := ⟨a, n, c, rfl, n0, n1, hc, p, q⟩
noncomputable def spGreat : Sp := fun vs H Q _ => ∃ (a : Addr) (n c : Int), vs = [.ref a, .int n] ∧ 0 ≤ n ∧ n < 1000 ∧ c < 2 ^ 49 ∧ Purse H a c ∧
  ∀ r H', 0 ≤ r → r < 10 ^ n.toNat → Keep a H H' → Purse H' a (c + n) → Q (.int r) H'
theorem use_great {H : Hp} {Q : VK} {E : XK} {a : Addr} {n c : Int} (p : Purse H a c) (n0 : 0 ≤ n) (n1 : n < 1000) (hc : c < 2 ^ 49) (q : ∀ r H', 0 ≤ r → r < 10 ^ n.toNat → Keep a H H' → Purse H' a (c + n) → Q (.int r) H') :
    spGreat ([.ref a, .int n] ++ []) H Q E := ⟨a, n, c, rfl, n0, n1, hc, p, q⟩
noncomputable def spStyle : Sp := fun vs H Q _ => ∃ (a : Addr) (c : Int), vs = [.ref a] ∧ c < 2 ^ 48 ∧ Purse H a c ∧
  ∀ p H' (y : Sty), H p = none → Keep a H H' → Purse H' a (c + 34) → H' p = some (.lst [.bl y.low, .int y.shift, .bl y.lead]) → y.shift.natAbs < 10 ^ 31 → Q (.ref p) H'
noncomputable def spMarking (ca : CA) : Sp := fun vs H Q _ => ∃ (g : Addr) (y : Sty), vs = [.ref g] ∧ H g = some (.lst [.bl y.low, .int y.shift, .bl y.lead]) ∧ ∀ k H', H k = none → Same H H' → MkAt ca H' k y.low y.shift y.lead → Q (.ref k) H'
noncomputable def spRoot : Sp := fun vs H Q _ => ∃ (a : Addr) (n c : Int), vs = [.ref a, .int n] ∧ 0 < n ∧ c < 2 ^ 48 ∧ Purse H a c ∧
  ∀ (r : Int) H', r.natAbs ≤ n.natAbs + 10 ^ 40 → Keep a H H' → Purse H' a (c + 43) → Q (.int r) H'
theorem w_st {t : TS} {N : List Str} {vs : List V} {σ' : L2.St} {D : Ends} {H : Hp} (h : L2.start N vs = σ') (q : t D σ' H) : t D (L2.start N vs) H := by rw [h]; exact q
theorem w_setN {te : TE} {i : Nat} {σ : L2.St} {σ' : V → L2.St} {D : Ends} {H : Hp} (h : ∀ x, σ.set i (some x) = σ' x) (q : te σ H fun x H1 => D.nx (σ' x) H1) : tAsg te (gName i) D σ H := by
  have e : (fun x H1 => D.nx (σ' x) H1) = fun x H1 => gName i x σ H1 D.nx := by
    funext x H1
    rw [← h x]
    rfl
  show te σ H fun x H1 => gName i x σ H1 D.nx
  rw [← e]
  exact q
theorem w_nxD {D : Ends} {σ : L2.St} {H : Hp} (q : D.nx σ H) : D.nx σ H := q
theorem w_rtD {D : Ends} {v : V} {H : Hp} (q : D.rt v H) : D.rt v H := q
theorem w_ctD {D : Ends} {σ : L2.St} {H : Hp} (q : D.ct σ H) : D.ct σ H := q
theorem w_bkD {D : Ends} {σ : L2.St} {H : Hp} (q : D.bk σ H) : D.bk σ H := q
end Bc
namespace Bc
open PySem PySem.Spec PyProof.Rows L2
theorem sz {n : Nat} (h : n ≤ 100000) : n ≤ sizeLine := Nat.le_trans h (by decide)
noncomputable def spLaw (K : PySem.W.Frag) : Sp := fun vs H Q _ => ∃ (a : Addr) (ns : List Int), vs = [.ref a] ∧ SqL K H a (ns.map V.int) ∧ ns.length ≤ 63 ∧ ∀ H', Q (.bl true) H'
end Bc
namespace Bc
open PySem PySem.Spec PyProof.Rows L2
noncomputable def NotAt (a : Addr) : V → Prop
  | .ref p => p ≠ a
  | _ => True
end Bc
namespace Bc
open PySem PySem.Spec PyProof.Rows L2
section
variable {X : Cx} {k j : Nat} {C : Addr} {sp : Sp} {tf : TE} {t : TA} {fe e : Expr} {es : List Expr} {pos : Pos}
structure CalO (P : Program) (w : World) (K : PySem.W.Frag) (mg : Str → Option Value) (base : Heap) (k : Nat) (C : Addr) (sp : Sp) : Prop where
  ex : ∃ g : Addr, StX.CallO K C g ∧ FnR P w K mg base L2.CX0 k g sp
noncomputable def tCO (C : Addr) (sp : Sp) (E : XK) (tf : TE) (t : TA) : TE := fun σ H Q => tf σ H fun y H1 => ∃ a, y = V.ref a ∧ t σ H1 fun vs H2 => ((∃ dx vs, SlX.Slt H2 a C dx vs) ∨ ∃ dx fs, H2 a = some (.ins C dx fs)) ∧ sp (V.ref a :: vs) H2 Q E
theorem pe_cO (hf : PE X fe tf) (c : CalO X.prog X.w X.K X.mg X.base k C sp) (hr : Room j X.A) (hk : k ≤ j) (ha : PA X (e :: es) t)
    (ht : eval (.Call fe (e :: es) [] pos) X.env = (do callWith pos (← eval fe X.env) [] (backTo pos (starEach (e :: es) X.env)) (backToKw pos (keywordEach [] X.env))) := by rfl)
    (he : starEach (e :: es) X.env = (false, eval e X.env) :: starEach es X.env := by rfl) (hpl : (backTo pos (starEach es X.env)).any (·.1) = false := by rfl) : PE X (.Call fe (e :: es) [] pos) (tCO C sp L2.E0 tf t) := by
  obtain ⟨g, c1, F⟩ := c.ex
  exact StX.pe_callO hf c1 F (hr.mono hk) pass0 ha ht he hpl
theorem w_cO {σ : L2.St} {H : Hp} {Q : VK} {E : XK} (q : tf σ H fun y H1 => ∃ a, y = V.ref a ∧ t σ H1 fun vs H2 => ((∃ dx vs, SlX.Slt H2 a C dx vs) ∨ ∃ dx fs, H2 a = some (.ins C dx fs)) ∧ sp (V.ref a :: vs) H2 Q E) : tCO C sp E tf t σ H Q := q
theorem w_insC {H : Hp} {a dx : Addr} {fs : List (Str × V)} {P : Prop} (h : H a = some (.ins C dx fs)) (q : P) : ((∃ dx vs, SlX.Slt H a C dx vs) ∨ ∃ dx fs, H a = some (.ins C dx fs)) ∧ P := ⟨.inr ⟨dx, fs, h⟩, q⟩
end
theorem WayAt.pos {c : CA} {H : Hp} {x : Addr} {b : Int} {ps : List (Int × Int)} {y : Sty} (h : WayAt c H x b ps y) : 0 < num ps := by
  obtain ⟨_, _, _, _, _, _, h1, h2⟩ := h
  omega
end Bc
namespace Bc
open PySem PySem.Spec PyProof.Rows L2
/-- 1 + b + .. -/
noncomputable def geo (b : Int) (n : Nat) : Int := hv (List.replicate n 1) b
theorem geo_succ (b : Int) (n : Nat) : geo b (n + 1) = b ^ n + geo b n := by
  unfold geo
  rw [List.replicate_succ, hv_cons, List.length_replicate, Int.one_mul]
theorem hv_map (s b : Int) : ∀ ls : List Int, hv (ls.map (· + s)) b = hv ls b + s * geo b ls.length
  | [] => by simp [geo, hv]
  | l :: r => by
    rw [List.map_cons, hv_cons, hv_cons, hv_map s b r, List.length_map, List.length_cons, geo_succ]
    grind
/-- the mark, by the sum -/
theorem mark_hv (y : Sty) (b n : Int) (ls : List Int) : mark y b n ls = ((if y.lead then 1 else 0) * b ^ ls.length + hv (if y.low then ls.reverse else ls) b + y.shift * geo b ls.length) % n := by
  unfold mark hf
  rw [rest_hv, hv_cons]
  by_cases h : y.low = true
  · rw [if_pos h, if_pos h, ← List.map_reverse, hv_map, List.length_map, List.length_reverse, Int.add_assoc]
  · rw [if_neg h, if_neg h, hv_map, List.length_map, Int.add_assoc]
/-- the two rows of the search for an inverse -/
noncomputable def InvRow (r n one two f l : Int) : Prop := (one ≤ n ∧ two ≤ n) ∧ 0 < one ∧ 0 ≤ two ∧ (∃ u, f * r = one + n * u) ∧ (∃ v, l * r = two + n * v) ∧ Int.gcd one two = Int.gcd r n ∧ ∃ s F L : Int, (s = 1 ∨ s = -1) ∧ f = -s * F ∧ l = s * L ∧ 0 ≤ F ∧ 0 ≤ L ∧ L * one + F * two = n
theorem InvRow.start {r n : Int} (hn : 0 < n) : InvRow r n n (r % n) 0 1 := by
  have hlt := Int.emod_lt_of_pos r hn
  refine ⟨⟨by omega, by omega⟩, hn, Int.emod_nonneg _ (by omega), ⟨-1, by omega⟩, ⟨r / n, ?_⟩, ?_, 1, 0, 1, .inl rfl, rfl, rfl, by decide, by decide, by omega⟩
  · have := Int.emod_add_mul_ediv r n
    omega
  · have h := Int.gcd_mul_left_add_left n (r % n) (r / n)
    rw [Int.mul_ediv_add_emod] at h
    rw [Int.gcd_comm, h]
noncomputable def spRight : Sp := fun vs H Q _ => ∃ (a : Addr) (c : Int), vs = [.ref a] ∧ c < 2 ^ 46 ∧ Purse H a c ∧ ∀ H', Keep a H H' → Purse H' a (c + 10000) → Q (.bl true) H'
end Bc
namespace Bc
open PySem PySem.Spec PyProof.Rows L2
noncomputable def ld (y : Sty) : Int := if y.lead then 1 else 0
theorem cg {n x y : Int} : x % n = y % n ↔ ∃ k, x = y + n * k := by
  rw [Int.emod_eq_emod_iff_emod_sub_eq_zero, ← Int.dvd_iff_emod_eq_zero]
  constructor
  · rintro ⟨k, hk⟩
    exact ⟨k, by omega⟩
  · rintro ⟨k, hk⟩
    exact ⟨k, by omega⟩
theorem self_mod (n x : Int) : ∃ k, x % n = x + n * k := ⟨-(x / n), by rw [Int.emod_def]; grind⟩
/-- powers by halves -/
noncomputable def spPower : Sp := fun vs H Q _ => ∃ (b e n : Int) (B : Nat), vs = [.int b, .int e, .int n] ∧ 0 ≤ e ∧ e < 2 ^ 60 ∧ 0 < n ∧ n.natAbs < 2 ^ B ∧ B ≤ 100000 ∧ Q (.int (b ^ e.toNat % n)) H
theorem half_pow (f : Int) (x : Int) (h : 0 < x) : f ^ x.toNat = (if x % 2 = 1 then f else 1) * (f * f) ^ (x / 2).toNat := by
  have e : x.toNat = (x / 2).toNat + (x / 2).toNat + (x % 2).toNat := by omega
  have h2 : x % 2 = 0 ∨ x % 2 = 1 := by omega
  have hm : ∀ k : Nat, (f * f) ^ k = f ^ k * f ^ k := fun k => by
    induction k with
    | zero => simp
    | succ k ih => rw [Int.pow_succ, Int.pow_succ, ih]; grind
  rw [hm]
  rcases h2 with h2 | h2
  · rw [if_neg (by omega), e, h2, Int.pow_add, Int.pow_add]
    simp
  · rw [if_pos h2, e, h2, Int.pow_add, Int.pow_add]
    show f ^ _ * f ^ _ * f ^ 1 = _
    grind
noncomputable def spReqMark (c : CA) : Sp := fun vs H Q _ => ∃ (x : Addr) (m b : Int) (ps : List (Int × Int)) (y : Sty), vs = [.ref x, .int m] ∧ WayAt c H x b ps y ∧ 0 ≤ m ∧ m < num ps ∧ Q .non H
noncomputable def spReqLen : Sp := fun vs H Q _ => ∃ n : Int, vs = [.int n] ∧ 0 ≤ n ∧ Q .non H
theorem mark_range {y : Sty} {b n : Int} (hn : 0 < n) (ls : List Int) : 0 ≤ mark y b n ls ∧ mark y b n ls < n := rest_range hn _
end Bc
namespace Bc
open PySem PySem.Spec PyProof.Rows L2
noncomputable def rm (a : Addr) (H : Hp) : Hp := fun b => if b = a then none else H b
section
variable {a b p : Addr} {c d : Int} {H H' X : Hp} {o : HO} {Q : VK} {ca : CA} {K : PySem.W.Frag}
theorem rm_le : Same (rm a H) H := fun b o h => by
  unfold rm at h
  by_cases e : b = a
  · rw [if_pos e] at h; cases h
  · rwa [if_neg e] at h
theorem rm_of (n : b ≠ a) (h : H b = some o) : rm a H b = some o := by
  unfold rm
  rw [if_neg n]; exact h
theorem rm_none (h : H b = none) : rm a H b = none := by
  unfold rm
  by_cases e : b = a
  · rw [if_pos e]
  · rw [if_neg e]; exact h
theorem rm_self : rm a H a = none := by
  unfold rm
  rw [if_pos rfl]
theorem Keep.rm (k : Keep a H H') : Same (rm a H) (rm a H') := fun b o h => by
  by_cases e : b = a
  · rw [e, rm_self] at h; cases h
  · exact rm_of e (k b o e (rm_le _ _ h))
theorem _root_.L2.Same.rm (s : Same H H') : Same (rm a H) (rm a H') := Keep.rm (.of s)
theorem Keep.ofR (s : Same (Bc.rm a H) (Bc.rm a H')) : Keep a H H' := fun b o n h => rm_le _ _ (s b o (rm_of n h))
theorem rm_in (n : X a = none) (s : Same X H) : Same X (rm a H) := fun b o h => rm_of (fun e => by rw [e, n] at h; cases h) (s b o h)
theorem rm_upd (n : p ≠ a) : rm a (upd H p o) = upd (rm a H) p o := by
  funext b
  by_cases e : b = a
  · rw [e, rm_self, upd_ne n.symm, rm_self]
  · by_cases e2 : b = p
    · rw [e2, upd_same, rm_of n upd_same]
    · rw [upd_ne e2]
      unfold rm
      rw [if_neg e, if_neg e, upd_ne e2]
theorem rm_updS : rm a (upd H a o) = rm a H := by
  funext b
  by_cases e : b = a
  · rw [e, rm_self, rm_self]
  · unfold rm
    rw [if_neg e, if_neg e, upd_ne e]
theorem same_rm (s : Same X (rm a H)) : Same X H := s.trans rm_le
theorem hpL (h : X b = some o) (s : Same X H) : H b = some o := s _ _ h
theorem al (q : ∀ p H', H p = none → Same H H' → H' p = some o → atV Q (.ref p) H') : ∀ p, H p = none → atV Q (.ref p) (upd H p o) := fun p n => q p _ n (Same.new n) upd_same
theorem alR (pu : Purse H a c) (q : ∀ p H', Same (rm a H) (rm a H') → Purse H' a c → rm a H' p = some o → rm a H p = none → atV Q (.ref p) H') : ∀ p, H p = none → atV Q (.ref p) (upd H p o) := fun p n =>
  q p _ (Same.new n).rm (pu.same (Same.new n)) (rm_of (pu.fresh n) upd_same) (rm_none n)
theorem PrL.rm {l : Addr} {ps : List (Int × Int)} (h : PrL H l ps) (pu : Purse H a c) : PrL (rm a H) l ps := by
  obtain ⟨ts, h1, h2⟩ := h
  exact ⟨ts, rm_of (pu.ne h1 refs_ne) h1, paired_imp (fun _ _ z => rm_of (pu.ne z fun _ _ _ w => by cases w) z) h2⟩
theorem ModAt.rm {m : Addr} {ps : List (Int × Int)} (h : ModAt ca H m ps) (pu : Purse H a c) : ModAt ca (rm a H) m ps := by
  obtain ⟨dx, t, ts, h1, h2, h3, h4⟩ := h
  exact ⟨dx, t, ts, rm_of (pu.ne h1 fun _ _ _ w => by cases w) h1, rm_of (pu.ne h2 fun _ _ _ w => by cases w) h2, paired_imp (fun _ _ z => rm_of (pu.ne z fun _ _ _ w => by cases w) z) h3, h4⟩
theorem MkAt.rm {m : Addr} {l : Bool} {s : Int} {e : Bool} (h : MkAt ca H m l s e) (pu : Purse H a c) : MkAt ca (rm a H) m l s e := by
  obtain ⟨dx, h1⟩ := h
  exact ⟨dx, rm_of (pu.ne h1 fun _ _ _ w => by cases w) h1⟩
theorem WayAt.rm {m : Addr} {b : Int} {ps : List (Int × Int)} {y : Sty} (h : WayAt ca H m b ps y) (pu : Purse H a c) : WayAt ca (rm a H) m b ps y := by
  obtain ⟨dx, m1, k1, h1, h2, h3, h4⟩ := h
  exact ⟨dx, m1, k1, rm_of (pu.ne h1 fun _ _ _ w => by cases w) h1, h2.rm pu, h3.rm pu, h4⟩
theorem TextAt.rm {v : V} {ls : List Int} (t : TextAt H v ls) (n : NotAt a v) : TextAt (rm a H) v ls := by
  cases t with
  | str z h l => exact .str z h l
  | lst p _ h l => exact .lst p _ (rm_of n h) l
  | tup p _ h l => exact .tup p _ (rm_of n h) l
variable {x m k : Addr} {bb : Int} {ps : List (Int × Int)} {y : Sty} {mg : Str → Option Value} {P : V → Prop}
theorem w_wbase (X : Kx K mg ca) (h : WayAt ca H x bb ps y) (q : P (.int bb)) : ∃ a C dx fs v, V.ref x = .ref a ∧ H a = some (.ins C dx fs) ∧ Cls K C ∧ NoAttr K C "base" ∧ fs.lookup ("base" : Str) = some v ∧ P v := by
  obtain ⟨dx, m, k, hx, _⟩ := h
  exact w_fldi hx X.wy.cl X.base wy_base q
theorem w_wnum (X : Kx K mg ca) (h : WayAt ca H x bb ps y) (q : P (.int (num ps))) : ∃ a C dx fs v, V.ref x = .ref a ∧ H a = some (.ins C dx fs) ∧ Cls K C ∧ NoAttr K C "number" ∧ fs.lookup ("number" : Str) = some v ∧ P v := by
  obtain ⟨dx, m, k, hx, _⟩ := h
  exact w_fldi hx X.wy.cl X.wnumber wy_number q
theorem w_wmark (X : Kx K mg ca) (h : WayAt ca H x bb ps y) (q : ∀ k, MkAt ca H k y.low y.shift y.lead → P (.ref k)) : ∃ a C dx fs v, V.ref x = .ref a ∧ H a = some (.ins C dx fs) ∧ Cls K C ∧ NoAttr K C "marking" ∧ fs.lookup ("marking" : Str) = some v ∧ P v := by
  obtain ⟨dx, m, k, hx, hm, hk, _⟩ := h
  exact w_fldi hx X.wy.cl X.marking wy_marking (q k hk)
theorem w_wmod (X : Kx K mg ca) (h : WayAt ca H x bb ps y) (q : ∀ m, ModAt ca H m ps → P (.ref m)) : ∃ a C dx fs v, V.ref x = .ref a ∧ H a = some (.ins C dx fs) ∧ Cls K C ∧ NoAttr K C "modulus" ∧ fs.lookup ("modulus" : Str) = some v ∧ P v := by
  obtain ⟨dx, m, k, hx, hm, hk, _⟩ := h
  exact w_fldi hx X.wy.cl X.modulus wy_modulus (q m hm)
theorem w_mnum (X : Kx K mg ca) (h : ModAt ca H m ps) (q : P (.int (num ps))) : ∃ a C dx fs v, V.ref m = .ref a ∧ H a = some (.ins C dx fs) ∧ Cls K C ∧ NoAttr K C "number" ∧ fs.lookup ("number" : Str) = some v ∧ P v := by
  obtain ⟨dx, t, ts, hx, _⟩ := h
  exact w_fldi hx X.md.cl X.number md_number q
theorem w_mfac (X : Kx K mg ca) (h : ModAt ca H m ps) (q : ∀ t ts, H t = some (.tup (ts.map V.ref)) → Paired (Tp H) ps ts → P (.ref t)) : ∃ a C dx fs v, V.ref m = .ref a ∧ H a = some (.ins C dx fs) ∧ Cls K C ∧ NoAttr K C "factors" ∧ fs.lookup ("factors" : Str) = some v ∧ P v := by
  obtain ⟨dx, t, ts, hx, h1, h2, _⟩ := h
  exact w_fldi hx X.md.cl X.factors md_factors (q t ts h1 h2)
theorem w_klow (X : Kx K mg ca) {l e : Bool} {s : Int} (h : MkAt ca H k l s e) (q : P (.bl l)) : ∃ a C dx fs v, V.ref k = .ref a ∧ H a = some (.ins C dx fs) ∧ Cls K C ∧ NoAttr K C "low" ∧ fs.lookup ("low" : Str) = some v ∧ P v := by
  obtain ⟨dx, hx⟩ := h
  exact w_fldi hx X.kg.cl X.low mk_low q
theorem w_kshift (X : Kx K mg ca) {l e : Bool} {s : Int} (h : MkAt ca H k l s e) (q : P (.int s)) : ∃ a C dx fs v, V.ref k = .ref a ∧ H a = some (.ins C dx fs) ∧ Cls K C ∧ NoAttr K C "shift" ∧ fs.lookup ("shift" : Str) = some v ∧ P v := by
  obtain ⟨dx, hx⟩ := h
  exact w_fldi hx X.kg.cl X.shift mk_shift q
theorem w_klead (X : Kx K mg ca) {l e : Bool} {s : Int} (h : MkAt ca H k l s e) (q : P (.bl e)) : ∃ a C dx fs v, V.ref k = .ref a ∧ H a = some (.ins C dx fs) ∧ Cls K C ∧ NoAttr K C "lead" ∧ fs.lookup ("lead" : Str) = some v ∧ P v := by
  obtain ⟨dx, hx⟩ := h
  exact w_fldi hx X.kg.cl X.lead mk_lead q
variable {E : XK} {n : Int} {l g : Addr} {PP : Addr → Hp → Prop}
theorem use_drawR (pu : Purse H a c) (n0 : 0 < n) (n1 : n < 2 ^ 60) (hc : c < 2 ^ 50) (q : ∀ r H', 0 ≤ r → r < n → Same (rm a H) (rm a H') → Purse H' a (c + 1) → Q (.int r) H') : spDraw ([.ref a, .int n] ++ []) H Q E :=
  use_draw pu n0 n1 hc fun r H' h0 h1 k p => q r H' h0 h1 k.rm p
theorem use_styleR (pu : Purse H a c) (hc : c < 2 ^ 48) (q : ∀ p H' (y : Sty), Same (rm a H) (rm a H') → Purse H' a (c + 34) → rm a H' p = some (.lst [.bl y.low, .int y.shift, .bl y.lead]) → y.shift.natAbs < 10 ^ 31 → Q (.ref p) H') : spStyle ([.ref a] ++ []) H Q E :=
  ⟨a, c, rfl, hc, pu, fun p H' y _ k p2 h => q p H' y k.rm p2 (rm_of (p2.ne h (fun _ _ _ w => by cases w)) h)⟩
theorem use_markingR (pu : Purse H a c) (h : H g = some (.lst [.bl y.low, .int y.shift, .bl y.lead])) (q : ∀ k H', Same (rm a H) (rm a H') → Purse H' a c → MkAt ca (rm a H') k y.low y.shift y.lead → Q (.ref k) H') : spMarking ca ([.ref g] ++ []) H Q E :=
  ⟨g, y, rfl, h, fun k H' _ s hk => q k H' s.rm (pu.same s) (hk.rm (pu.same s))⟩
theorem use_rootR (pu : Purse H a c) (n0 : 0 < n) (hc : c < 2 ^ 48) (q : ∀ (r : Int) H', r.natAbs ≤ n.natAbs + 10 ^ 40 → Same (rm a H) (rm a H') → Purse H' a (c + 43) → Q (.int r) H') : spRoot ([.ref a, .int n] ++ []) H Q E :=
  ⟨a, n, c, rfl, n0, hc, pu, fun r H' h k p => q r H' h k.rm p⟩
theorem use_modR (pu : Purse H a c) (hl : PrL H l ps) (ha : Asc 0 ps) (hs : Small ps) (q : ∀ m H', Same (rm a H) (rm a H') → Purse H' a c → ModAt ca (rm a H') m ps → PP m H') :
    ∀ x dx, H x = none → H dx = none → dx ≠ x → spModInit ca (.ref x :: ([.ref l] ++ [])) (upd (upd H dx (.own x)) x (.ins ca.md dx [])) (fun v H2 => v = .non ∧ PP x H2) E := by
  obtain ⟨ts, h1, h2⟩ := hl
  exact use_mod h1 h2 ha hs fun m H' _ s hm => q m H' s.rm (pu.same s) (hm.rm (pu.same s))
theorem use_wayR (pu : Purse H a c) (hm : ModAt ca H m ps) (hk : MkAt ca H k y.low y.shift y.lead) (q : ∀ x H', Same (rm a H) (rm a H') → Purse H' a c → WayAt ca (rm a H') x (bb % num ps) ps y → PP x H') :
    ∀ x dx, H x = none → H dx = none → dx ≠ x → spWayInit ca [.ref x, .int bb, .ref m, .ref k] (upd (upd H dx (.own x)) x (.ins ca.wy dx [])) (fun v H2 => v = .non ∧ PP x H2) E :=
  use_way hm (.inr ⟨k, rfl, hk⟩) fun x H' _ s hw => q x H' s.rm (pu.same s) (hw.rm (pu.same s))
theorem w_insW {P : Prop} (h : WayAt ca H x bb ps y) (q : P) : ((∃ dx vs, SlX.Slt H x ca.wy dx vs) ∨ ∃ dx fs, H x = some (.ins ca.wy dx fs)) ∧ P := by
  obtain ⟨dx, m, k, hx, _⟩ := h
  exact w_insC hx q
theorem use_mark {v : V} {ls : List Int} (h : WayAt ca H x bb ps y) (t : TextAt H v ls) (q : ∀ H', Same H H' → Q (.int (mark y bb (num ps) ls)) H') : spMarkOf ca [.ref x, v] H Q E :=
  ⟨x, v, bb, ps, y, ls, rfl, h, t, q⟩
theorem use_reqway (h : WayAt ca H x bb ps y) (q : Q .non H) : spReqWay ca ([.ref x] ++ []) H Q E := by
  obtain ⟨dx, m, k, hx, _⟩ := h
  exact ⟨x, dx, _, rfl, hx, q⟩
end
end Bc
namespace Bc
open PySem PySem.Spec PyProof.Rows L2
end Bc
namespace Bc
open PySem PySem.Spec PyProof.Rows L2
section
variable {σ : L2.St} {H : Hp} {Q : VK} {ta tb : TE} {tr : L2.St → Hp → (Int → Int → Hp → Prop) → Prop} {R : Int → Int → Hp → Prop} {i j : Int} {P : Prop}
theorem w_lstRg (q : tr σ H fun a b H1 => RgOk a b ∧ ∀ q, H1 q = none → atV Q (.ref q) (upd H1 q (.lst (rgV a b)))) : tLstRg tr σ H Q := q
theorem w_rg1 (q : ta σ H fun x H1 => ∃ n, x = .int n ∧ R 0 n H1) : tRg1 ta σ H R := q
theorem w_rg2 (q : ta σ H fun x H1 => tb σ H1 fun y H2 => ∃ i j, x = .int i ∧ y = .int j ∧ R i j H2) : tRg2 ta tb σ H R := q
theorem w_rg2i {P : Int → Int → Prop} (q : P i j) : ∃ a b, V.int i = .int a ∧ V.int j = .int b ∧ P a b := ⟨i, j, rfl, rfl, q⟩
theorem w_rgok (h : -(2 ^ 62) ≤ i ∧ i < 2 ^ 62 ∧ -(2 ^ 62) ≤ j ∧ j < 2 ^ 62 ∧ (j - i).toNat ≤ 2 ^ 24) (q : P) : RgOk i j ∧ P := ⟨h, q⟩
end
section
variable {c : TT} {tb : TS} {D : Ends} {σ : L2.St} {H : Hp}
theorem while_m (Pv : Nat → L2.St → Hp → Prop) (m : Nat) (h0 : Pv m σ H) (hs : ∀ m σ H, Pv m σ H → c σ H fun b H1 => if b = true then (∃ N : L2.St → Hp → Prop, (∀ σ' H', N σ' H' → ∃ m', m' < m ∧ Pv m' σ' H') ∧
      tb { D with nx := N, ct := N, bk := D.nx } σ H1) else D.nx σ H1) : tWhile c tb D σ H := ⟨Pv, ⟨m, h0⟩, hs⟩
theorem while_nm {Pv : Nat → L2.St → Hp → Prop} {m : Nat} (q : tb { D with nx := fun σ' H' => ∃ m', m' < m ∧ Pv m' σ' H', ct := fun σ' H' => ∃ m', m' < m ∧ Pv m' σ' H', bk := D.nx } σ H) :
    ∃ N : L2.St → Hp → Prop, (∀ σ' H', N σ' H' → ∃ m', m' < m ∧ Pv m' σ' H') ∧ tb { D with nx := N, ct := N, bk := D.nx } σ H := ⟨_, fun _ _ h => h, q⟩
end
theorem w_unl {K : PySem.W.Frag} {H : Hp} {σ : L2.St} {tg : TGs} {p : Addr} {xs : List V} {k : Nat} {Qs : L2.St → Hp → Prop} (h : SqL K H p xs) (l : xs.length = k) (q : tg xs σ H Qs) : gUnl K k tg (.ref p) σ H Qs := ⟨p, xs, rfl, h, l, q⟩
end Bc
namespace Bc
open PySem PySem.Spec PyProof.Rows L2
noncomputable def LL (H : Hp) (r : Addr) (cuts : List (List Int)) : Prop := ∃ as : List Addr, H r = some (.lst (as.map V.ref)) ∧ Paired (fun c p => H p = some (.lst (c.map V.int))) cuts as
noncomputable def PM (y : Sty) (b n : Int) (H : Hp) (r : Addr) (us : List (List Int)) : Prop := ∃ qs : List Addr, H r = some (.lst (qs.map V.ref)) ∧ Paired (fun c q => H q = some (.lst [.int (mark y b n c), .int c.length])) us qs
theorem LL.same {H H' : Hp} {r : Addr} {cuts : List (List Int)} (h : LL H r cuts) (s : Same H H') : LL H' r cuts := by
  obtain ⟨as, h1, h2⟩ := h
  exact ⟨as, s _ _ h1, paired_imp (fun _ _ z => s _ _ z) h2⟩
theorem PM.same {y : Sty} {b n : Int} {H H' : Hp} {r : Addr} {us : List (List Int)} (h : PM y b n H r us) (s : Same H H') : PM y b n H' r us := by
  obtain ⟨as, h1, h2⟩ := h
  exact ⟨as, s _ _ h1, paired_imp (fun _ _ z => s _ _ z) h2⟩
section
variable {a p : Addr} {c : Int} {H : Hp} {Q : VK} {v : V} {xs : List V}
theorem w_appendR (pu : Purse H a c) (h : rm a H p = some (.lst xs)) (l : xs.length < sizeLine) (q : ∀ H', Same (rm p (rm a H)) (rm p (rm a H')) → Purse H' a c → rm a H' p = some (.lst (xs ++ [v])) → Q .non H') : rAppend (.ref p) [v] H Q := by
  have np : p ≠ a := fun e => by rw [e, rm_self] at h; cases h
  refine w_append (rm_le _ _ h) l (q _ ?_ ?_ ?_)
  · rw [rm_upd np, rm_updS]
    exact Same.refl _
  · obtain ⟨x1, y1, z1, e1, r1⟩ := pu
    exact ⟨x1, y1, z1, by rw [upd_ne np.symm]; exact e1, r1⟩
  · exact rm_of np upd_same
end
theorem ints_inj {a b : List Int} (h : a.map V.int = b.map V.int) : a = b := by
  induction a generalizing b with
  | nil => cases b with | nil => rfl | cons => cases h
  | cons x r ih => cases b with
    | nil => cases h
    | cons z t =>
      injection h with h1 h2
      injection h1 with h1
      rw [h1, ih h2]
theorem atI_map {α : Type} {f : α → V} {ls : List α} {i : Int} {x : α} (h0 : 0 ≤ i) (h : ls[i.toNat]? = some x) : atI (ls.map f) i = some (f x) := atI_get h0 (by rw [List.getElem?_map, h]; rfl)
end Bc
namespace Bc
open PySem PySem.Spec PyProof.Rows L2
section
variable {X : Cx} {k j : Nat} {x f : Str} {C : Addr} {sp : Sp} {dvs : List V} {p pos pos2 : Pos} {e : Expr} {es : List Expr} {ta t : TA} {W : WX}
theorem w_mkO {σ : L2.St} {H : Hp} {Q : XK} {dvs : List V} (q : ta σ H fun vs H1 => vs.length ≤ 1000 ∧ ∀ a, H1 a = none → sp (.ref a :: (vs ++ dvs)) (upd H1 a (exo a C none))
  (fun v H2 => v = .non ∧ ∃ (d : Addr) (fs : List (Str × V)), H2 a = some (exo a C (some d)) ∧ H2 d = some (exd d fs) ∧ H1 d = none ∧ Q (.ref C) (some d) (upd (del H2 a) d (.xd fs))) (fun _ _ _ => False)) : tMkO C sp dvs ta σ H Q := q
theorem w_callX {σ : L2.St} {H : Hp} {Q : VK} (q : t σ H fun vs H1 => sp (vs ++ dvs) H1 Q fun cls d H2 => W cls d σ H2) : tCallSD sp dvs (WE W) t σ H Q := q
end
theorem w_xf {a C : Addr} {cls : Value} {d : Option Addr} {f : Str} {te : TE} {σ : L2.St} {H : Hp} {Q : VK} (q : te σ H fun x H1 => x = .ref a ∧ cls = .ref C ∧ ∃ (dd : Addr) (fs : List (Str × V)) (v : V), d = some dd ∧ H1 dd = some (.xd fs) ∧ fs.lookup f = some v ∧ Q v H1) : tXf a cls d C f te σ H Q := q
end Bc
namespace Bc
open PySem PySem.Spec PyProof.Rows L2
theorem gcd_mod (x n : Int) : Int.gcd (x % n) n = Int.gcd x n := by
  have h := Int.gcd_mul_left_add_left n (x % n) (x / n)
  rw [Int.mul_ediv_add_emod] at h
  exact h.symm
end Bc
namespace Bc
open PySem PySem.Spec PyProof.Rows L2
/-- what the Euclidean steps keep -/
noncomputable def InvOk (u n one other first second : Int) : Prop := 0 ≤ one ∧ 0 ≤ other ∧ other < one + 1 + n ∧ Int.gcd one other = Int.gcd n u ∧ (∃ k, first * u = one + n * k) ∧ (∃ k, second * u = other + n * k) ∧ ((0 ≤ second ∧ first ≤ 0 ∧ -first * other + second * one = n) ∨ (second ≤ 0 ∧ 0 ≤ first ∧ first * other + -second * one = n))
theorem InvOk.start {u n : Int} (hn : 0 < n) : InvOk u n n (u % n) 0 1 := by
  have h0 := Int.emod_nonneg u (show n ≠ 0 by omega)
  have h1 := Int.emod_lt_of_pos u hn
  refine ⟨by omega, h0, by omega, ?_, ⟨-1, by omega⟩, ⟨u / n, ?_⟩, .inl ⟨by decide, by decide, by omega⟩⟩
  · rw [Int.gcd_comm n (u % n), Int.gcd_comm n u]
    exact gcd_mod u n
  · rw [Int.one_mul]
    have := Int.mul_ediv_add_emod u n
    omega
theorem InvOk.le {u n one other first second : Int} (h : InvOk u n one other first second) (hn : 0 < n) (ho : 0 < other) : first.natAbs ≤ n.natAbs ∧ (0 < one → second.natAbs ≤ n.natAbs) ∧ one / other ≤ one ∧ 0 ≤ one / other := by
  obtain ⟨h1, h2, h3, h4, _, _, h5⟩ := h
  have hdiv : one / other ≤ one := Int.ediv_le_self _ h1
  have hdiv0 : 0 ≤ one / other := Int.ediv_nonneg h1 (by omega)
  have key : ∀ a b c d : Int, 0 ≤ a → 0 ≤ b → 0 ≤ c → 0 ≤ d → a * b + c * d = n → (0 < b → a ≤ n) ∧ (0 < d → c ≤ n) := fun a b c d ha hb hc hd e => by
    have p1 := Int.mul_nonneg ha hb
    have p2 := Int.mul_nonneg hc hd
    constructor
    · intro z
      have := Int.mul_le_mul_of_nonneg_left (show 1 ≤ b from z) ha
      omega
    · intro z
      have := Int.mul_le_mul_of_nonneg_left (show 1 ≤ d from z) hc
      omega
  rcases h5 with ⟨a1, a2, a3⟩ | ⟨a1, a2, a3⟩
  · obtain ⟨x1, x2⟩ := key (-first) other second one (by omega) h2 a1 h1 a3
    have := x1 ho
    exact ⟨by omega, fun z => by have := x2 z; omega, hdiv, hdiv0⟩
  · obtain ⟨x1, x2⟩ := key first other (-second) one a2 h2 (by omega) h1 a3
    have := x1 ho
    exact ⟨by omega, fun z => by have := x2 z; omega, hdiv, hdiv0⟩
end Bc
namespace Bc
open PySem PySem.Spec PyProof.Rows L2
/-- what is told of a part: its mark, or that it is open -/
noncomputable def DE (op : Prop) (m len : Int) (e : V) (G : Hp) : Prop := (¬ op ∧ e = .int m) ∨ (op ∧ ∃ p, e = .ref p ∧ G p = some (.lst [.str "open", .int len]))
theorem DE.same {op : Prop} {m len : Int} {e : V} {G G' : Hp} (h : DE op m len e G) (s : Same G G') : DE op m len e G' := by
  rcases h with h | ⟨h, p, e1, e2⟩
  · exact .inl h
  · exact .inr ⟨h, p, e1, s _ _ e2⟩
end Bc
namespace Bc
open PySem PySem.Spec PyProof.Rows L2
end Bc
namespace Bc
open PySem PySem.Spec PyProof.Rows L2
section
variable {X : Cx} {pins : List (Addr × Obj)} {σ : L2.St} {H : Hp} {s : Shared}
theorem paired_at {α β : Type} {F : α → β → Prop} : ∀ {l : List α} {m : List β}, Paired F l m → ∀ j (h1 : j < l.length) (h2 : j < m.length), F l[j] m[j]
  | _, _, .cons h _, 0, _, _ => h
  | _, _, .cons _ r, j + 1, h1, h2 => paired_at r j (Nat.lt_of_succ_lt_succ h1) (Nat.lt_of_succ_lt_succ h2)
theorem rc_lists {F : V → V → Prop} {A : Around} {p q : Addr} {xs ys : List V} (I : Inv X pins σ H s) (hx : SqL X.K H p xs) (hy : SqL X.K H q ys) (hp : Paired F xs ys) (hu : A.units < cLine)
    (hF : ∀ x y v u, F x y → RelV x v → RelV y u → PySem.SeqAt.EqAt A.in1 s v u true) : PySem.SeqAt.RcAt A s (.ref p) (.ref q) true := by
  obtain ⟨is, r1, ⟨o1, n1, e1, c1, _, d1⟩, _⟩ := I.list hx
  obtain ⟨js, r2, ⟨o2, n2, e2, c2, _, d2⟩, _⟩ := I.list hy
  have l0 := hp.length
  have l1 := r1.length
  have l2 := r2.length
  have h := PySem.SeqAt.RcAt.lists (A := A) (e := fun _ => true) ⟨o1, e1, c1, n1, d1⟩ ⟨o2, e2, c2, n2, d2⟩ (by simp only [List.size_toArray]; omega) hu (fun j h1 h2 => by
    simp only [List.size_toArray] at h1 h2
    simp only [List.getElem_toArray]
    exact hF _ _ _ _ (paired_at hp j (by omega) (by omega)) (paired_at r1 j (by omega) h1) (paired_at r2 j (by omega) h2))
  rwa [show ((List.range is.toArray.size).all fun _ => true) = true from List.all_eq_true.mpr fun _ _ => rfl] at h
end
end Bc
namespace Bc
open PySem PySem.Spec PyProof.Rows L2
theorem w_dnew {σ : L2.St} {H : Hp} {Q : VK} (q : ∀ p, H p = none → atV Q (.ref p) (upd H p (.dK []))) : tDNewK σ H Q := q
theorem w_isB {a b : Bool} {H : Hp} {Q : VK} (q : Q (.bl (decide (a = b))) H) : rIsB (.bl a) (.bl b) H Q := ⟨a, b, rfl, rfl, q⟩
end Bc
namespace Bc
open PySem PySem.Spec PyProof.Rows L2
section
variable {X : Cx} {k j : Nat} {x : Str} {sp : Sp} {e : Expr} {es : List Expr} {t : TA} {p pos : Pos}
/-- str of a bool -/
noncomputable def rStrB : List V → Hp → VK → Prop := fun xs H Q => ∃ b, xs = [.bl b] ∧ Q (.str (if b = true then "True" else "False")) H
end
end Bc
namespace Bc
open PySem PySem.Spec PyProof.Rows L2
end Bc
namespace Bc
open PySem PySem.Spec PyProof.Rows L2
theorem w_strB {b : Bool} {H : Hp} {Q : VK} (q : Q (.str (if b = true then "True" else "False")) H) : rStrB [.bl b] H Q := ⟨b, rfl, q⟩
theorem w_rep {l : Addr} {k : Int} {xs : List V} {H : Hp} {Q : VK} (h : H l = some (.lst xs)) (h1 : -(2 ^ 63) ≤ k ∧ k < 2 ^ 63 ∧ xs.length * k.toNat ≤ sizeLine) (q : ∀ p, H p = none → atV Q (.ref p) (upd H p (.lst (List.replicate k.toNat xs).flatten))) : rRep (.ref l) (.int k) H Q := ⟨l, k, xs, rfl, rfl, h, h1.1, h1.2.1, h1.2.2, q⟩
end Bc
namespace Bc
open PySem PySem.Spec PyProof.Rows L2
noncomputable def optV : Option Nat → V
  | none => .non
  | some e => .int (e : Int)
/-- f, f b, f b b .. modulo n -/
noncomputable def FS (b n f : Int) : Nat → Int
  | 0 => f
  | e + 1 => FS b n f e * b % n
noncomputable def Pmiss (b n f A : Int) (e : Nat) : Prop := n / (Int.gcd (FS b n f e) n : Int) < A
noncomputable def steps (W n A : Int) : List Int := ((List.range (A - 1).toNat).filter fun i : Nat => decide ((1 + (i : Int)) * W % n = 0)).map fun i : Nat => 1 + (i : Int)
theorem FS_eq (b n f : Int) : ∀ e, FS b n f e % n = f * b ^ e % n
  | 0 => by show f % n = _; simp
  | e + 1 => by
    show FS b n f e * b % n % n = _
    rw [Int.emod_emod_of_dvd _ (Int.dvd_refl n), Int.mul_emod, FS_eq b n f e, ← Int.mul_emod, Int.pow_succ, Int.mul_assoc]
end Bc
namespace Bc
open PySem PySem.Spec PyProof.Rows L2
/-- the base to the power of a distance, less 1 -/
noncomputable def far (b n : Int) (t : Nat) : Int := FS b n b (t - 1)
noncomputable def facX (b n : Int) (t : Nat) : Int := (far b n t - 1) % n
/-- the first distance and exponent -/
noncomputable def Ex (b n A : Int) (N : Nat) (t e : Nat) : Prop := 1 ≤ t ∧ Fst (Pmiss b n (facX b n t) A) N (some e) ∧ ∀ s, 1 ≤ s → s < t → Fst (Pmiss b n (facX b n s) A) N none
noncomputable def PL2 : List Int := [2, 3, 5, 7, 11, 13, 31, 97, 331, 997]
theorem PL2_pr (i : Fin 10) : Pr (PL2.getD i.val 0) ∧ 2 ≤ PL2.getD i.val 0 ∧ PL2.getD i.val 0 < 1024 ∧ PL2.getD i.val 0 < PL2.getD (i.val + 1) 10000 := by
  revert i; decide +kernel
noncomputable def spMod2 : Sp := fun vs H Q _ => ∃ (a : Addr) (n c : Int), vs = [.ref a, .int n] ∧ 1 ≤ n ∧ n ≤ 2000 ∧ c < 2 ^ 48 ∧ Purse H a c ∧
  ∀ r l H' ps, Same (rm a H) (rm a H') → Purse H' a (c + 2010) → rm a H' r = some (.lst [.ref l, .int (num ps)]) → PrL (rm a H') l ps → Asc 0 ps → Small ps → num ps ≤ n → Q (.ref r) H'
theorem pow_small {p n x : Int} {k : Nat} (hp : 2 ≤ p) (hx : 1 ≤ x) (h : x * p ^ k ≤ n) (hn : n ≤ 2000) : k ≤ 10 := by
  refine Nat.le_of_not_lt fun z => ?_
  have h1 : (2 : Int) ^ 11 ≤ p ^ 11 := by
    have := Nat.pow_le_pow_left (show 2 ≤ p.toNat by omega) 11
    have e : p ^ 11 = ((p.toNat ^ 11 : Nat) : Int) := by rw [Int.natCast_pow, Int.toNat_of_nonneg (by omega)]
    rw [e]
    exact Int.ofNat_le.mpr this
  have h2 : p ^ 11 ≤ p ^ k := by
    have := Nat.pow_le_pow_right (show 0 < p.toNat by omega) z
    have e : ∀ m : Nat, p ^ m = ((p.toNat ^ m : Nat) : Int) := fun m => by rw [Int.natCast_pow, Int.toNat_of_nonneg (by omega)]
    rw [e, e]
    exact Int.ofNat_le.mpr this
  have h3 : 1 * p ^ k ≤ x * p ^ k := Int.mul_le_mul_of_nonneg_right hx (by omega)
  omega
theorem pick2 {x y lo hi r : Int} (r0 : 0 ≤ r) (r1 : r < 2) (hx : lo ≤ x ∧ x ≤ hi) (hy : lo ≤ y ∧ y ≤ hi) : ∃ z, ([x, y] : List Int).getD r.toNat 0 = z ∧ lo ≤ z ∧ z ≤ hi := by
  have hr : r = 0 ∨ r = 1 := by omega
  rcases hr with rfl | rfl
  · exact ⟨x, rfl, hx⟩
  · exact ⟨y, rfl, hy⟩
noncomputable instance (b n f A : Int) (e : Nat) : Decidable (Pmiss b n f A e) := inferInstanceAs (Decidable (_ < _))
noncomputable def exB (b n A : Int) (N t e : Nat) : Bool := decide (1 ≤ t) && decide (e < N) && decide (Pmiss b n (facX b n t) A e) && (List.range e).all (fun j => !decide (Pmiss b n (facX b n t) A j)) && (List.range t).all (fun s => s == 0 || (List.range N).all fun j => !decide (Pmiss b n (facX b n s) A j))
theorem Ex.of {b n A : Int} {N t e : Nat} (h : exB b n A N t e = true) : Ex b n A N t e := by
  unfold exB at h
  simp only [Bool.and_eq_true, decide_eq_true_eq, List.all_eq_true, List.mem_range, Bool.or_eq_true, beq_iff_eq, Bool.not_eq_true', decide_eq_false_iff_not] at h
  obtain ⟨⟨⟨⟨h1, h2⟩, h3⟩, h4⟩, h5⟩ := h
  exact ⟨h1, ⟨h2, h3, h4⟩, fun s s1 s2 => by
    rcases h5 s s2 with z | z
    · omega
    · exact z⟩
end Bc
namespace Bc
open PySem PySem.Spec PyProof.Rows L2
noncomputable def vcap (x p : Int) : Nat → Nat
  | 0 => 0
  | m + 1 => if x % p = 0 then vcap (x / p) p m + 1 else 0
theorem vcap_le (p : Int) : ∀ (m : Nat) (x : Int), vcap x p m ≤ m
  | 0, _ => Nat.le_refl _
  | m + 1, x => by
    unfold vcap
    have := vcap_le p m (x / p)
    split <;> omega
theorem vcap_dvd {p : Int} (hp : 2 ≤ p) : ∀ (m : Nat) (x : Int) (i : Nat), i ≤ m → (p ^ i ∣ x ↔ i ≤ vcap x p m)
  | m, x, 0, _ => by simp
  | 0, x, i + 1, h => by omega
  | m + 1, x, i + 1, h => by
    unfold vcap
    by_cases hx : x % p = 0
    · rw [if_pos hx]
      obtain ⟨y, rfl⟩ := Int.dvd_of_emod_eq_zero hx
      rw [Int.mul_ediv_cancel_left _ (by omega), Int.pow_succ, Int.mul_comm (p ^ i) p]
      rw [Int.mul_dvd_mul_iff_left (by omega), vcap_dvd hp m y i (by omega)]
      omega
    · rw [if_neg hx]
      constructor
      · intro z
        exfalso
        refine hx (Int.emod_eq_zero_of_dvd (Int.dvd_trans ?_ z))
        rw [Int.pow_succ]
        exact Int.dvd_mul_left _ _
      · intro z; omega
noncomputable def metF (be al k : Nat) : Option Nat := if k ≤ al then some 1 else if 1 ≤ be ∧ be ≤ al then some (1 + (k - al + be - 1) / be) else none
noncomputable def metR (r A : Int) (q : Int × Int) : Option Nat := metF (vcap r q.1 q.2.toNat) (vcap A q.1 q.2.toNat) q.2.toNat
theorem num_dvd : ∀ {ps : List (Int × Int)} {q : Int × Int}, q ∈ ps → q.1 ^ q.2.toNat ∣ num ps
  | [], _, h => by cases h
  | r :: ps, q, h => by
    rw [num_cons]
    rcases List.mem_cons.mp h with e | e
    · rw [e]; exact Int.dvd_mul_right _ _
    · exact Int.dvd_trans (num_dvd e) (Int.dvd_mul_left _ _)
theorem ppow_dvd (p : Int) {i j : Nat} (h : i ≤ j) : p ^ i ∣ p ^ j := ⟨p ^ (j - i), by rw [← Int.pow_add]; congr 1; omega⟩
/-- what the law asks at an exponent -/
noncomputable def Pm (P r A : Int) (e : Nat) : Prop := 1 < P / (Int.gcd (FS r P (1 % P) e) P : Int) ∧ A % (P / (Int.gcd (FS r P (1 % P) e) P : Int)) = 0
noncomputable instance (P r A : Int) (e : Nat) : Decidable (Pm P r A e) := inferInstanceAs (Decidable (_ ∧ _))
theorem pow_gcd {p r : Int} (hp : Pr p) {k j : Nat} (hj : j ≤ k) (e : Nat) : Int.gcd (FS r (p ^ j) (1 % p ^ j) e) (p ^ j) = p.natAbs ^ min (e * vcap r p k) j := by
  have h2 : 2 ≤ p := by have := hp.1; omega
  have e1 : Int.gcd (FS r (p ^ j) (1 % p ^ j) e) (p ^ j) = Nat.gcd (r.natAbs ^ e) (p.natAbs ^ j) := by
    rw [← gcd_mod, FS_eq, Int.mul_emod, Int.emod_emod_of_dvd _ (Int.dvd_refl _), ← Int.mul_emod, Int.one_mul, gcd_mod]
    show Nat.gcd (r ^ e).natAbs (p ^ j).natAbs = _
    rw [Int.natAbs_pow, Int.natAbs_pow]
  rw [e1]
  have hv := vcap_le p k r
  have hd : p.natAbs ^ vcap r p k ∣ r.natAbs := by
    have := (vcap_dvd h2 k r _ hv).mpr (Nat.le_refl _)
    have h3 := Int.natAbs_dvd_natAbs.mpr this
    rwa [Int.natAbs_pow] at h3
  by_cases c : vcap r p k < k
  · obtain ⟨u, hu⟩ := hd
    have hnu : ¬ p.natAbs ∣ u := fun z => by
      have h4 : p.natAbs ^ (vcap r p k + 1) ∣ r.natAbs := by
        rw [hu, Nat.pow_succ]
        exact Nat.mul_dvd_mul_left _ z
      have h5 : p ^ (vcap r p k + 1) ∣ r := by
        refine Int.natAbs_dvd_natAbs.mp ?_
        rwa [Int.natAbs_pow]
      have := (vcap_dvd h2 k r _ (by omega)).mp h5
      omega
    have hc : Nat.Coprime u p.natAbs := (cop_or hp u).resolve_left hnu
    rw [hu, Nat.mul_pow, Nat.Coprime.gcd_mul_right_cancel _ (Nat.Coprime.pow e j hc), ← Nat.pow_mul, Nat.mul_comm (vcap r p k) e]
    by_cases c2 : e * vcap r p k ≤ j
    · rw [Nat.min_eq_left c2]
      exact Nat.gcd_eq_left (Nat.pow_dvd_pow _ c2)
    · rw [Nat.min_eq_right (by omega)]
      exact Nat.gcd_eq_right (Nat.pow_dvd_pow _ (by omega))
  · have ek : vcap r p k = k := by omega
    rw [ek] at hd ⊢
    rcases Nat.eq_zero_or_pos e with z | z
    · rw [z]
      simp
    · have hm : min (e * k) j = j := Nat.min_eq_right (Nat.le_trans hj (Nat.le_mul_of_pos_left k z))
      rw [hm]
      refine Nat.gcd_eq_right ?_
      refine Nat.dvd_trans (Nat.pow_dvd_pow _ hj) (Nat.dvd_trans hd ?_)
      have h7 := Nat.pow_dvd_pow r.natAbs (show 1 ≤ e from z)
      rwa [Nat.pow_one] at h7
theorem Pm_iff {p r A : Int} (hp : Pr p) {k j : Nat} (hj : j ≤ k) (e : Nat) : Pm (p ^ j) r A e ↔ e * vcap r p k < j ∧ j - e * vcap r p k ≤ vcap A p k := by
  have h2 : 2 ≤ p := by have := hp.1; omega
  unfold Pm
  rw [pow_gcd hp hj e]
  have e1 : p ^ j / ((p.natAbs ^ min (e * vcap r p k) j : Nat) : Int) = p ^ (j - e * vcap r p k) := by
    rw [Int.natCast_pow, Int.natAbs_of_nonneg (by omega)]
    have : p ^ j = p ^ (j - e * vcap r p k) * p ^ min (e * vcap r p k) j := by rw [← Int.pow_add]; congr 1; omega
    rw [this, Int.mul_ediv_cancel _ (by have : 0 < p ^ min (e * vcap r p k) j := Int.pow_pos (by omega); omega)]
  rw [e1, ← Int.dvd_iff_emod_eq_zero, vcap_dvd h2 k A _ (by omega)]
  have e2 : 1 < p ^ (j - e * vcap r p k) ↔ e * vcap r p k < j := by
    constructor
    · intro z
      refine Nat.lt_of_not_le fun w => ?_
      rw [show j - e * vcap r p k = 0 by omega, Int.pow_zero] at z
      omega
    · intro z
      obtain ⟨m, hm⟩ : ∃ m, j - e * vcap r p k = m + 1 := ⟨j - e * vcap r p k - 1, by omega⟩
      rw [hm, Int.pow_succ]
      have : 0 < p ^ m := Int.pow_pos (by omega)
      have := Int.mul_le_mul_of_nonneg_left h2 (show 0 ≤ p ^ m by omega)
      omega
  rw [e2]
/-- the first exponent, plus 1 -/
noncomputable def MetL (P r A : Int) (res : Option Nat) : Prop := ∃ f, Fst (Pm P r A) 64 f ∧ res = f.map (· + 1)
theorem met_some {p r A : Int} (hp : Pr p) {k L : Nat} (hk : k ≤ 60) (h : metF (vcap r p k) (vcap A p k) k = some L) {j : Nat} (h1 : 1 ≤ j) (hj : j ≤ k) : ∃ L', MetL (p ^ j) r A (some L') ∧ L' ≤ L ∧ (j = k → L' = L) := by
  unfold metF at h
  generalize hbe : vcap r p k = be at h
  generalize hal : vcap A p k = al at h
  have key : ∀ e, Pm (p ^ j) r A e ↔ e * be < j ∧ j - e * be ≤ al := fun e => by rw [← hbe, ← hal]; exact Pm_iff hp hj e
  by_cases c : j ≤ al
  · refine ⟨1, ⟨some 0, ⟨by decide, (key 0).mpr (by omega), fun i hi => by omega⟩, rfl⟩, ?_, ?_⟩
    · split at h
      · cases h; exact Nat.le_refl _
      · split at h
        · cases h; exact Nat.le_add_right _ _
        · cases h
    · intro e
      rw [if_pos (by omega)] at h
      cases h; rfl
  · rw [if_neg (by omega)] at h
    split at h
    · rename_i hb
      cases h
      obtain ⟨hb1, hb2⟩ := hb
      have hdiv : ∀ x : Nat, be * ((x + be - 1) / be) ≤ x + be - 1 ∧ x ≤ be * ((x + be - 1) / be) := fun x => by
        have a1 := Nat.div_add_mod (x + be - 1) be
        have a2 := Nat.mod_lt (x + be - 1) (show be > 0 by omega)
        omega
      have hle : (j - al + be - 1) / be ≤ (k - al + be - 1) / be := Nat.div_le_div_right (by omega)
      have hj2 := hdiv (j - al)
      rw [Nat.mul_comm] at hj2
      have hlt : (j - al + be - 1) / be < 64 := by
        refine Nat.lt_of_le_of_lt (Nat.div_le_div_right (c := be) (show j - al + be - 1 ≤ be * 60 + (be - 1) from ?_)) ?_
        · have : 60 ≤ be * 60 := Nat.le_mul_of_pos_left _ hb1
          omega
        · have : (be * 60 + (be - 1)) / be = 60 := by
            rw [Nat.mul_add_div (by omega), Nat.div_eq_of_lt (by omega)]
          omega
      refine ⟨1 + (j - al + be - 1) / be, ⟨some ((j - al + be - 1) / be), ⟨hlt, (key _).mpr ⟨by omega, by omega⟩, fun i hi hP => ?_⟩, by show some _ = some ((j - al + be - 1) / be + 1); rw [Nat.add_comm]⟩, by omega, fun e => by rw [e]⟩
      have := (key i).mp hP
      have h3 : (i + 1) * be ≤ (j - al + be - 1) / be * be := Nat.mul_le_mul_right _ hi
      rw [Nat.add_mul, Nat.one_mul] at h3
      omega
    · cases h
theorem met_none {p r A : Int} (hp : Pr p) {k : Nat} (h : metF (vcap r p k) (vcap A p k) k = none) : vcap A p k + 1 ≤ k ∧ MetL (p ^ (vcap A p k + 1)) r A none := by
  unfold metF at h
  by_cases c : k ≤ vcap A p k
  · rw [if_pos c] at h; cases h
  · rw [if_neg c] at h
    split at h
    · cases h
    · rename_i hb
      refine ⟨by omega, none, fun e _ hP => ?_, rfl⟩
      have := (Pm_iff hp (k := k) (j := vcap A p k + 1) (by omega) e).mp hP
      refine hb ?_
      have h3 : 1 ≤ e * vcap r p k := by omega
      have h4 : e ≠ 0 := fun z => by rw [z, Nat.zero_mul] at h3; omega
      have h5 : vcap r p k ≠ 0 := fun z => by rw [z, Nat.mul_zero] at h3; omega
      have h6 : vcap r p k ≤ e * vcap r p k := Nat.le_mul_of_pos_left _ (by omega)
      omega
/-- the lengths of all, and the least power unmet -/
noncomputable def evenF (ls : List (Option Nat)) : Option Nat := if none ∈ ls then none else some (ls.foldl (fun m l => max m (l.getD 0)) 0)
end Bc
namespace Bc
open PySem PySem.Spec PyProof.Rows L2
section
variable {J : It} {G : Hp → Prop} {K : PySem.W.Frag} {tt : TT} {te : TE} {vs : List Nat} {σ : L2.St} {H : Hp} {D : Addr} {Qd : Hp → Prop} {i j : Nat}
theorem lc_pairs (us : List (V × V)) (ts : List Addr) (p : V × V → Bool) (f : V × V → V) (w : Walk J (ts.map V.ref).length G (YAt (ts.map V.ref))) (hp : Paired (fun q t => H t = some (.tup [q.1, q.2])) us ts) (hD : H D = none) (hG : ∀ H', Same H H' → G H') (sz : us.length ≤ 100000)
    (wp : ∀ u v, wipe (((wipe σ vs).set i u).set j v) vs = wipe σ vs)
    (tst : ∀ (n : Nat) (q : V × V) (H' : Hp), us[n]? = some q → Same H H' → ∀ Q' : Bool → Hp → Prop, (∀ H'', Same H' H'' → Q' (p q) H'') → tt (((wipe σ vs).set i (some q.1)).set j (some q.2)) H' Q')
    (step : ∀ (n : Nat) (q : V × V) (H' : Hp), us[n]? = some q → p q = true → Same H H' → ∀ Q' : VK, (∀ H'', Same H' H'' → Q' (f q) H'') → te (((wipe σ vs).set i (some q.1)).set j (some q.2)) H' Q')
    (q : ∀ H', Same H H' → H' D = some (.lst ((us.filter p).map f)) → Qd H') :
    ∃ W : Nat → Nat → Hp → Prop, (∃ m, W 0 m (upd H D (.lst []))) ∧ ∀ n m H, W n m H →
      (J.stop n H ∧ Qd H) ∨ (J.go n H ∧ ∃ Nx : Hp → Prop, (∀ H', Nx H' → ∃ m', m' < m ∧ W (n + 1) m' H') ∧ ∀ x H', J.yld n H x H' → gTup K 2 (gCons (gName i) (gCons (gName j) gNil)) x (wipe σ vs) H' fun σ2 H2 => wipe σ2 vs = wipe σ vs ∧ tt σ2 H2 fun b H3 =>
        if b = true then te σ2 H3 fun y H4 => ∃ acc, H4 D = some (.lst acc) ∧ acc.length < sizeLine ∧ Nx (upd H4 D (.lst (acc ++ [y]))) else Nx H3) := by
  have hl := hp.length
  refine lc_it w (fun n H' => H' D = some (.lst (((us.take n).filter p).map f)) ∧ Same H H') ⟨upd_same, Same.new hD⟩ (fun n H' _ h => hG H' h.2) ?_ ?_
  · rintro n x H1 H' hn ⟨h1, h2⟩ ⟨rfl, hx⟩
    obtain ⟨t, ht, rfl⟩ := get_map hx
    obtain ⟨pr, hpr, htp⟩ := paired_get hp ht
    have hn' : n < us.length := (List.getElem?_eq_some_iff.mp hpr).1
    have e : us[n] = pr := by rw [List.getElem?_eq_getElem hn'] at hpr; exact Option.some.inj hpr
    have tk : us.take (n + 1) = us.take n ++ [pr] := by rw [List.take_succ_eq_append_getElem hn', e]
    refine w_gtup (sqt (h2 _ _ htp)) rfl (w_gcons (w_name (w_gcons (w_name (w_gnil ⟨wp _ _, ?_⟩)))))
    refine tst n pr H' hpr h2 _ fun H2 s2 => ?_
    by_cases hq : p pr = true
    · rw [hq]
      refine iteT ?_
      refine step n pr H2 hpr hq (h2.trans s2) _ fun H3 s3 => ?_
      refine ⟨_, s3 _ _ (s2 _ _ h1), ?_, ?_, ?_⟩
      · rw [List.length_map]
        have h5 := List.length_filter_le p (us.take n)
        rw [List.length_take] at h5
        have : (100000 : Nat) < sizeLine := by decide
        omega
      · rw [upd_same, tk, List.filter_append, List.map_append, List.filter_cons, if_pos hq]
        rfl
      · exact fun b o e => by
          rw [upd_ne (ne_of_none e hD)]
          exact s3 _ _ (s2 _ _ (h2 _ _ e))
    · have hq' : p pr = false := by simpa using hq
      rw [hq']
      refine iteF ?_
      refine ⟨?_, h2.trans s2⟩
      rw [s2 _ _ h1, tk, List.filter_append, List.map_append, List.filter_cons, if_neg hq]
      simp
  · rintro H' ⟨h1, h2⟩
    refine q H' h2 ?_
    rw [h1]
    rw [List.length_map, ← hl, List.take_length]
end
theorem opt_flat (ls : List (Option Nat)) : (ls.map optV).all flatV = true := by
  induction ls with
  | nil => rfl
  | cons a r ih =>
    rw [List.map_cons, List.all_cons, ih]
    cases a <;> rfl
theorem opt_in (ls : List (Option Nat)) : inV .non (ls.map optV) = decide (none ∈ ls) := by
  unfold inV
  induction ls with
  | nil => rfl
  | cons a r ih =>
    rw [List.map_cons, List.any_cons, ih]
    cases a with
    | none => simp [optV, eqV]
    | some e =>
      have : eqV (optV (some e)) .non = false := rfl
      rw [this, Bool.false_or]
      simp
theorem w_inN {K : PySem.W.Frag} {H : Hp} {p : Addr} {ls : List (Option Nat)} {Q : VK} (h : SqL K H p (ls.map optV)) (q : Q (.bl (decide (none ∈ ls))) H) : rIn K false .non (.ref p) H Q :=
  ⟨p, _, rfl, .inl h, rfl, opt_flat ls, by rw [if_neg (by decide), opt_in]; exact q⟩
noncomputable def spExpIn : Sp := fun vs H Q _ => ∃ (x p m : Int), vs = [.int x, .int p, .int m] ∧ 2 ≤ p ∧ p < 2 ^ 60 ∧ 0 ≤ m ∧ Q (.int (vcap x p m.toNat)) H
noncomputable def spMetFrom (c : CA) : Sp := fun vs H Q _ => ∃ (x : Addr) (A b : Int) (q : Int × Int) (ps : List (Int × Int)) (y : Sty), vs = [.ref x, .int q.1, .int q.2, .int A] ∧ WayAt c H x b ps y ∧ 2 ≤ q.1 ∧ q.1 < 1024 ∧ 0 < q.2 ∧ q.2 ≤ 100 ∧ Q (optV (metR b A q)) H
noncomputable def spEvenFrom (c : CA) : Sp := fun vs H Q _ => ∃ (x : Addr) (A b : Int) (ps : List (Int × Int)) (y : Sty), vs = [.ref x, .int A] ∧ WayAt c H x b ps y ∧ 1 ≤ A ∧ ∀ H', Same H H' → Q (optV (evenF (ps.map (metR b A)))) H'
theorem WayAt.facs {c : CA} {H : Hp} {x : Addr} {b : Int} {ps : List (Int × Int)} {y : Sty} (h : WayAt c H x b ps y) : Asc 0 ps ∧ Small ps := by
  obtain ⟨_, _, _, _, ⟨_, _, _, _, _, _, h1, h2⟩, _⟩ := h
  exact ⟨h1, h2⟩
theorem two_of {ps : List (Int × Int)} {q : Int × Int} (ha : Asc 0 ps) (hq : q ∈ ps) : 2 ≤ q.1 := by
  have := ((ha.lt q hq).2.2).1
  omega
theorem foldl_take {α β : Type} {f : β → α → β} {b : β} {xs : List α} {i : Nat} {x : α} (h : xs[i]? = some x) : (xs.take (i + 1)).foldl f b = f ((xs.take i).foldl f b) x := by
  obtain ⟨hi, e⟩ := List.getElem?_eq_some_iff.mp h
  rw [List.take_succ_eq_append_getElem hi, List.foldl_append, e]
  rfl
theorem vcap_succ (x p : Int) (m : Nat) : vcap x p (m + 1) = if x % p = 0 then vcap (x / p) p m + 1 else 0 := rfl
theorem vcap_zero (x p : Int) : vcap x p 0 = 0 := rfl
theorem paired_map {H : Hp} : ∀ {ps : List (Int × Int)} {ts : List Addr}, Paired (Tp H) ps ts → Paired (fun q t => H t = some (.tup [q.1, q.2])) (ps.map fun q => ((V.int q.1, V.int q.2) : V × V)) ts
  | _, _, .nil => .nil
  | _, _, .cons r t => .cons r (paired_map t)
theorem get_map' {α β : Type} {f : α → β} {l : List α} {i : Nat} {y : β} (h : (l.map f)[i]? = some y) : ∃ x, l[i]? = some x ∧ f x = y := get_map h
end Bc
namespace Bc
open PySem PySem.Spec PyProof.Rows L2
theorem gmax_le {M : Nat} : ∀ {ls : List (Option Nat)} {m : Nat}, m ≤ M → (∀ l ∈ ls, l.getD 0 ≤ M) → ls.foldl (fun m l => max m (l.getD 0)) m ≤ M
  | [], _, h, _ => h
  | l :: r, m, h, h2 => gmax_le (ls := r) (Nat.max_le.mpr ⟨h, h2 l (List.mem_cons_self ..)⟩) fun x hx => h2 x (List.mem_cons_of_mem _ hx)
theorem fold_ge : ∀ (ls : List (Option Nat)) (m : Nat), m ≤ ls.foldl (fun m l => max m (l.getD 0)) m
  | [], m => Nat.le_refl _
  | l :: r, m => Nat.le_trans (Nat.le_max_left _ _) (fold_ge r _)
theorem le_gmax : ∀ {ls : List (Option Nat)} {m : Nat} {l : Option Nat}, l ∈ ls → l.getD 0 ≤ ls.foldl (fun m l => max m (l.getD 0)) m
  | x :: r, m, l, h => by
    rcases List.mem_cons.mp h with e | e
    · rw [e]
      exact Nat.le_trans (Nat.le_max_right _ _) (fold_ge r _)
    · exact le_gmax (ls := r) e
theorem Asc.mono {l l' : Int} {ps : List (Int × Int)} (h : Asc l ps) (hl : l' ≤ l) : Asc l' ps := by
  cases ps with
  | nil => trivial
  | cons q r => exact ⟨by have := h.1; omega, h.2.1, h.2.2.1, h.2.2.2⟩
theorem Asc.take {ps : List (Int × Int)} : ∀ (n : Nat) {l : Int}, Asc l ps → Asc l (ps.take n) := by
  induction ps with
  | nil => intro n l _; rw [List.take_nil]; trivial
  | cons q r ih =>
    intro n l h
    cases n with
    | zero => trivial
    | succ n => exact ⟨h.1, h.2.1, h.2.2.1, ih n h.2.2.2⟩
theorem Asc.drop {ps : List (Int × Int)} : ∀ (n : Nat) {l : Int}, 0 ≤ l → Asc l ps → Asc 0 (ps.drop n) := by
  induction ps with
  | nil => intro n l _ _; rw [List.drop_nil]; trivial
  | cons q r ih =>
    intro n l h0 h
    cases n with
    | zero => exact h.mono h0
    | succ n => exact ih n (by have := h.1; omega) h.2.2.2
end Bc
namespace Bc
open PySem PySem.Spec PyProof.Rows L2
noncomputable def sig : Nat → (Nat → Int) → Int
  | 0, _ => 0
  | n + 1, f => sig n f + f n
theorem sig_congr : ∀ {n : Nat} {f g : Nat → Int}, (∀ i, i < n → f i = g i) → sig n f = sig n g
  | 0, _, _, _ => rfl
  | n + 1, f, g, h => by rw [sig, sig, sig_congr (fun i hi => h i (Nat.lt_succ_of_lt hi)), h n (Nat.lt_succ_self n)]
theorem sig_zero : ∀ n : Nat, sig n (fun _ => 0) = 0
  | 0 => rfl
  | n + 1 => by rw [sig, sig_zero n]; rfl
theorem sig_add (f g : Nat → Int) : ∀ n : Nat, sig n (fun i => f i + g i) = sig n f + sig n g
  | 0 => rfl
  | n + 1 => by rw [sig, sig, sig, sig_add f g n]; omega
theorem sig_sub (f g : Nat → Int) : ∀ n : Nat, sig n (fun i => f i - g i) = sig n f - sig n g
  | 0 => rfl
  | n + 1 => by rw [sig, sig, sig, sig_sub f g n]; omega
theorem sig_mul (c : Int) (f : Nat → Int) : ∀ n : Nat, sig n (fun i => c * f i) = c * sig n f
  | 0 => (Int.mul_zero c).symm
  | n + 1 => by rw [sig, sig, sig_mul c f n, Int.mul_add]
theorem sig_const (c : Int) : ∀ n : Nat, sig n (fun _ => c) = n * c
  | 0 => by simp [sig]
  | n + 1 => by rw [sig, sig_const c n, Int.natCast_succ, Int.add_mul, Int.one_mul]
theorem sig_swap (f : Nat → Nat → Int) (m : Nat) : ∀ n : Nat, sig n (fun i => sig m (fun j => f i j)) = sig m (fun j => sig n (fun i => f i j))
  | 0 => (sig_zero m).symm
  | n + 1 => by
    show sig n _ + sig m (fun j => f n j) = sig m (fun j => sig n (fun i => f i j) + f n j)
    rw [sig_add, sig_swap f m n]
theorem sig_tel (f : Nat → Int) : ∀ n : Nat, sig n (fun i => f (i + 1)) - sig n f = f n - f 0
  | 0 => by simp [sig]
  | n + 1 => by
    have := sig_tel f n
    rw [sig, sig]
    omega
theorem sig_pick (f : Nat → Int) {k : Nat} : ∀ n : Nat, sig n (fun i => if i = k then f i else 0) = if k < n then f k else 0
  | 0 => by simp [sig]
  | n + 1 => by
    rw [sig, sig_pick f n]
    by_cases h : n = k
    · rw [if_pos h, h, if_neg (Nat.lt_irrefl _), if_pos (Nat.lt_succ_self _)]
      omega
    · rw [if_neg h]
      by_cases h2 : k < n
      · rw [if_pos h2, if_pos (by omega)]
        omega
      · rw [if_neg h2, if_neg (by omega)]
        omega
theorem sig_nonneg {f : Nat → Int} : ∀ {n : Nat}, (∀ i, i < n → 0 ≤ f i) → 0 ≤ sig n f
  | 0, _ => Int.le_refl _
  | n + 1, h => Int.add_nonneg (sig_nonneg fun i hi => h i (Nat.lt_succ_of_lt hi)) (h n (Nat.lt_succ_self n))
noncomputable def Per (h : Int → Int) (t : Int) : Prop := ∀ y, h (y + t) = h y
section
variable {h : Int → Int} {t u : Int}
theorem Per.neg (p : Per h t) : Per h (-t) := fun y => by
  have := p (y + -t)
  rw [show y + -t + t = y by omega] at this
  exact this.symm
theorem Per.add (p : Per h t) (q : Per h u) : Per h (t + u) := fun y => by rw [← Int.add_assoc, q, p]
theorem Per.nmul (p : Per h t) : ∀ c : Nat, Per h (t * c)
  | 0 => fun y => by rw [show t * ((0 : Nat) : Int) = 0 from Int.mul_zero t, Int.add_zero]
  | c + 1 => by
    rw [Int.natCast_succ, Int.mul_add, Int.mul_one]
    exact (p.nmul c).add p
theorem Per.mul (p : Per h t) (c : Int) : Per h (t * c) := by
  obtain ⟨n, e | e⟩ := c.eq_nat_or_neg
  · rw [e]; exact p.nmul n
  · rw [e, Int.mul_neg]; exact (p.nmul n).neg
theorem Per.dvd (p : Per h t) (d : t ∣ u) : Per h u := by
  obtain ⟨c, rfl⟩ := d
  exact p.mul c
theorem Per.gcd (a b : Nat) : Per h a → Per h b → Per h (Nat.gcd a b : Nat) := by
  refine Nat.gcd.induction (P := fun a b => Per h a → Per h b → Per h (Nat.gcd a b : Nat)) a b (fun n _ q => ?_) (fun m n _ ih p q => ?_)
  · rw [Nat.gcd_zero_left]; exact q
  · rw [Nat.gcd_rec]
    refine ih ?_ p
    have : ((n % m : Nat) : Int) = n + (m : Int) * (-((n / m : Nat) : Int)) := by
      have := Nat.div_add_mod n m
      have e : ((n : Nat) : Int) = (m : Int) * ((n / m : Nat) : Int) + ((n % m : Nat) : Int) := by exact_mod_cast this.symm
      rw [Int.mul_neg]
      omega
    rw [this]
    exact q.add (p.mul _)
end
/-- a function summed over the places that m letters, the first with the weight b^j, lead to -/
noncomputable def Qs (b : Int) (A : Nat) (s : Int) : Nat → Nat → (Int → Int) → Int → Int
  | 0, _, g, y => g y
  | m + 1, j, g, y => sig A fun l => Qs b A s m (j + 1) g (y + b ^ j * ((l : Int) + s))
section
variable {b : Int} {A : Nat} {s : Int}
theorem Qs_shift (g : Int → Int) (t : Int) : ∀ (m j : Nat) (y : Int), Qs b A s m j (fun x => g (x + t)) y = Qs b A s m j g (y + t)
  | 0, _, _ => rfl
  | m + 1, j, y => sig_congr fun l _ => by
    rw [Qs_shift g t m (j + 1)]
    congr 1
    omega
theorem Qs_congr {g g' : Int → Int} (h : ∀ x, g x = g' x) (m j : Nat) (y : Int) : Qs b A s m j g y = Qs b A s m j g' y := by rw [show g = g' from funext h]
theorem Qs_per {g : Int → Int} {t : Int} (p : Per g t) (m j : Nat) : Per (Qs b A s m j g) t := fun y => by
  rw [← Qs_shift g t m j y]
  exact Qs_congr p m j y
theorem Qs_sub (g g' : Int → Int) : ∀ (m j : Nat) (y : Int), Qs b A s m j (fun x => g x - g' x) y = Qs b A s m j g y - Qs b A s m j g' y
  | 0, _, _ => rfl
  | m + 1, j, y => by
    rw [Qs, Qs, Qs, ← sig_sub]
    exact sig_congr fun l _ => Qs_sub g g' m (j + 1) _
theorem Qs_sig (k : Nat) (g : Nat → Int → Int) : ∀ (m j : Nat) (y : Int), Qs b A s m j (fun x => sig k fun i => g i x) y = sig k fun i => Qs b A s m j (g i) y
  | 0, _, _ => rfl
  | m + 1, j, y => by
    rw [Qs]
    show _ = sig k fun i => sig A fun l => Qs b A s m (j + 1) (g i) (y + b ^ j * ((l : Int) + s))
    rw [sig_swap]
    exact sig_congr fun l _ => Qs_sig k g m (j + 1) _
theorem Qs_U (g : Int → Int) : ∀ (m j : Nat) (y : Int), Qs b A s m j (fun x => sig A fun l => g (x * b + l + s)) y = sig A fun l => Qs b A s m (j + 1) g (y * b + l + s)
  | 0, _, _ => rfl
  | m + 1, j, y => by
    rw [Qs]
    show _ = sig A fun l => sig A fun l' => Qs b A s m (j + 1 + 1) g (y * b + l + s + b ^ (j + 1) * ((l' : Int) + s))
    rw [sig_swap]
    refine sig_congr fun l' _ => ?_
    rw [Qs_U g m (j + 1)]
    refine sig_congr fun l _ => ?_
    congr 1
    rw [Int.add_mul, Int.pow_succ, Int.mul_right_comm]
    omega
/-- enough powers met: what is summed has the step b^j -/
theorem Qs_inv {N : Int} {n : Nat} {g : Int → Int} (pN : Per g N) (h1 : N ∣ A * b ^ (n - 1)) (h2 : ∀ j, j + 1 < n → ∀ h : Int → Int, Per h N → Per h (b ^ (j + 1)) → Per h (A * b ^ j)) : ∀ (m j : Nat), 1 ≤ m → j + m = n → Per (Qs b A s m j g) (b ^ j)
  | 0, _, h, _ => by omega
  | m + 1, j, _, e => fun y => by
    have key : Per (Qs b A s m (j + 1) g) (A * b ^ j) := by
      by_cases c : m = 0
      · subst c
        have : j = n - 1 := by omega
        rw [this]
        exact pN.dvd h1
      · exact h2 j (by omega) _ (Qs_per pN _ _) (Qs_inv pN h1 h2 m (j + 1) (by omega) (by omega))
    have t := sig_tel (fun l => Qs b A s m (j + 1) g (y + b ^ j * ((l : Int) + s))) A
    have e0 : y + b ^ j * ((A : Int) + s) = (y + b ^ j * (((0 : Nat) : Int) + s)) + A * b ^ j := by
      rw [Int.mul_add, Int.mul_add, Int.mul_comm (A : Int), show ((0 : Nat) : Int) = 0 from rfl, Int.mul_zero]
      omega
    have z : (fun l : Nat => Qs b A s m (j + 1) g (y + b ^ j * ((l : Int) + s))) A - (fun l : Nat => Qs b A s m (j + 1) g (y + b ^ j * ((l : Int) + s))) 0 = 0 := by
      show Qs b A s m (j + 1) g (y + b ^ j * ((A : Int) + s)) - Qs b A s m (j + 1) g (y + b ^ j * (((0 : Nat) : Int) + s)) = 0
      rw [e0, key]
      omega
    rw [z] at t
    have e1 : Qs b A s (m + 1) j g (y + b ^ j) = sig A fun l => Qs b A s m (j + 1) g (y + b ^ j * (((l + 1 : Nat) : Int) + s)) := by
      rw [Qs]
      refine sig_congr fun l _ => ?_
      congr 1
      rw [Int.natCast_succ, Int.mul_add, Int.mul_add, Int.mul_add, Int.mul_one]
      omega
    rw [e1]
    show _ = sig A fun l => Qs b A s m (j + 1) g (y + b ^ j * ((l : Int) + s))
    omega
/-- without the sums over cosets -/
structure Vz (p : Nat) (q : Int) (h : Int → Int) : Prop where
  per : Per h (q * p)
  z : ∀ y, sig p (fun i => h (y + q * i)) = 0
theorem Vz.L {p : Nat} {q : Int} {h : Int → Int} (v : Vz p q h) (w : Int) : Vz p q (fun x => sig A fun l => h (x + w * ((l : Int) + s))) := by
  refine ⟨fun y => sig_congr fun l _ => ?_, fun y => ?_⟩
  · rw [show y + q * p + w * ((l : Int) + s) = y + w * ((l : Int) + s) + q * p by omega]
    exact v.per _
  · rw [sig_swap]
    rw [sig_congr (g := fun _ => 0) fun l _ => ?_, sig_zero]
    rw [← v.z (y + w * ((l : Int) + s))]
    refine sig_congr fun i _ => ?_
    congr 1
    omega
theorem Vz.per_zero {p : Nat} {q : Int} {h : Int → Int} (v : Vz p q h) (hp : 0 < p) (r : Per h q) (y : Int) : h y = 0 := by
  have := v.z y
  rw [sig_congr (g := fun _ => h y) fun i _ => r.mul _ y, sig_const] at this
  rcases Int.mul_eq_zero.mp this with e | e
  · omega
  · exact e
theorem Qs_inj {p : Nat} {q : Int} (hA : 0 < A) (hp : 0 < p) (step : ∀ (h : Int → Int) (x : Int), ¬ q * p ∣ x → Per h (q * p) → Per h x → Per h q) : ∀ (m e : Nat) (h : Int → Int), Vz p q h → (∀ e', e ≤ e' → e' < e + m → q * p ∣ b ^ e' ∨ ¬ q * p ∣ A * b ^ e') → (∀ y, Qs b A s m e h y = 0) → ∀ y, h y = 0
  | 0, _, h, _, _, z => z
  | m + 1, e, h, v, c, z => by
    have zL : ∀ y, (fun x => sig A fun l => h (x + b ^ e * ((l : Int) + s))) y = 0 := by
      refine Qs_inj hA hp step m (e + 1) _ (v.L (b ^ e)) (fun e' h1 h2 => c e' (by omega) (by omega)) fun y => ?_
      rw [Qs_sig A (fun l x => h (x + b ^ e * ((l : Int) + s))), ← z y, Qs]
      exact sig_congr fun l _ => Qs_shift h _ m (e + 1) y
    rcases c e (Nat.le_refl _) (by omega) with d | d
    · intro y
      have := zL y
      try dsimp only at this
      rw [sig_congr (g := fun _ => h y) fun l _ => (v.per.dvd d).mul _ y, sig_const] at this
      rcases Int.mul_eq_zero.mp this with w | w
      · omega
      · exact w
    · refine v.per_zero hp (step h _ d v.per fun y => ?_)
      have t := sig_tel (fun l => h (y - b ^ e * s + b ^ e * ((l : Int) + s))) A
      have z1 := zL (y - b ^ e * s)
      have z2 := zL (y - b ^ e * s + b ^ e)
      try dsimp only at z1 z2
      rw [z1] at t
      rw [sig_congr (g := fun l => h (y - b ^ e * s + b ^ e * (((l + 1 : Nat) : Int) + s))) fun l _ => ?_] at z2
      · rw [z2] at t
        try dsimp only at t
        have e1 : y - b ^ e * s + b ^ e * ((A : Int) + s) = y + A * b ^ e := by rw [Int.mul_add, Int.mul_comm (A : Int)]; omega
        have e2 : y - b ^ e * s + b ^ e * (((0 : Nat) : Int) + s) = y := by rw [Int.mul_add, show ((0 : Nat) : Int) = 0 from rfl, Int.mul_zero]; omega
        rw [e1, e2] at t
        omega
      · congr 1
        rw [Int.natCast_succ, Int.mul_add, Int.mul_add, Int.mul_add, Int.mul_one]
        omega
end
/-- 1 at the multiples of N -/
noncomputable def chi (N : Int) (x : Int) : Int := if x % N = 0 then 1 else 0
theorem chi_per (N : Int) : Per (chi N) N := fun y => by
  unfold chi
  rw [Int.add_emod_right]
theorem chi_nonneg (N x : Int) : 0 ≤ chi N x := by
  unfold chi
  split <;> decide
theorem gcd_pred {p : Int} (hp : Pr p) : ∀ (j x : Nat), ¬ p.natAbs ^ (j + 1) ∣ x → Nat.gcd x (p.natAbs ^ (j + 1)) ∣ p.natAbs ^ j
  | j, x, h => by
    rcases cop_or hp x with d | d
    · obtain ⟨y, rfl⟩ := d
      cases j with
      | zero => exact absurd (by rw [Nat.zero_add, Nat.pow_one]; exact Nat.dvd_mul_right _ _) h
      | succ j =>
        have e1 : p.natAbs ^ (j + 1 + 1) = p.natAbs * p.natAbs ^ (j + 1) := by rw [Nat.pow_succ, Nat.mul_comm]
        have e2 : p.natAbs ^ (j + 1) = p.natAbs * p.natAbs ^ j := by rw [Nat.pow_succ, Nat.mul_comm]
        have e3 : Nat.gcd (p.natAbs * y) (p.natAbs ^ (j + 1 + 1)) = p.natAbs * Nat.gcd y (p.natAbs ^ (j + 1)) := by rw [e1, Nat.gcd_mul_left]
        rw [e3]
        refine Nat.dvd_trans (Nat.mul_dvd_mul_left _ (gcd_pred hp j y fun z => h ?_)) (by rw [e2]; exact Nat.dvd_refl _)
        rw [e1]
        exact Nat.mul_dvd_mul_left _ z
    · rw [show Nat.gcd x (p.natAbs ^ (j + 1)) = 1 from Nat.Coprime.pow_right _ d]
      exact Nat.one_dvd _
/-- the indicator of the multiples of a divisor, as a sum -/
theorem chi_sum {P : Int} (hP : 0 < P) {c : Nat} (hc : 0 < c) (x : Int) : sig c (fun i => chi (P * c) (x + P * i)) = chi P x := by
  have hPc : 0 < P * c := Int.mul_pos hP (by omega)
  by_cases h : x % P = 0
  · obtain ⟨z, rfl⟩ := Int.dvd_of_emod_eq_zero h
    have h1 := Int.emod_nonneg (-z) (show (c : Int) ≠ 0 by omega)
    have h2 := Int.emod_lt_of_pos (-z) (show 0 < (c : Int) by omega)
    obtain ⟨k, hk⟩ := Int.eq_ofNat_of_zero_le h1
    rw [sig_congr (g := fun i => if i = k then 1 else 0) fun i hi => ?_, sig_pick (fun _ => 1) c, if_pos (by omega), chi, if_pos h]
    unfold chi
    rw [← Int.mul_add, Int.mul_emod_mul_of_pos _ _ hP]
    have e : P * ((z + i) % c) = 0 ↔ i = k := by
      rw [Int.mul_eq_zero]
      constructor
      · intro w
        have w : (z + i) % c = 0 := w.resolve_left (by omega)
        have w2 : (c : Int) ∣ (i : Int) - (-z) := by
          have := Int.dvd_of_emod_eq_zero w
          rwa [show (i : Int) - (-z) = z + i by omega]
        have w3 : (i : Int) % c = (-z) % c := (Int.emod_eq_emod_iff_emod_sub_eq_zero).mpr (Int.emod_eq_zero_of_dvd w2)
        rw [Int.emod_eq_of_lt (by omega) (by omega), hk] at w3
        exact Int.ofNat.inj w3
      · intro w
        right
        have w3 : (i : Int) % c = (-z) % c := by rw [w, ← show (-z) % (c : Int) = ((k : Nat) : Int) from hk, Int.emod_emod_of_dvd _ (Int.dvd_refl _)]
        have w2 := (Int.emod_eq_emod_iff_emod_sub_eq_zero).mp w3
        rwa [show (i : Int) - (-z) = z + i by omega] at w2
    by_cases w : i = k
    · rw [if_pos w, if_pos (e.mpr w)]
    · rw [if_neg w, if_neg (fun z => w (e.mp z))]
  · rw [chi, if_neg h, sig_congr (g := fun _ => 0) fun i _ => ?_, sig_zero]
    unfold chi
    rw [if_neg fun w => h ?_]
    have w1 : P ∣ x + P * i := Int.dvd_trans (Int.dvd_mul_right P c) (Int.dvd_of_emod_eq_zero w)
    have w2 := Int.dvd_sub w1 (Int.dvd_mul_right P (i : Int))
    rw [show x + P * i - P * i = x by omega] at w2
    exact Int.emod_eq_zero_of_dvd w2
theorem all_dvd {X : Nat} : ∀ {l : Int} {ps : List (Int × Int)}, Asc l ps → (∀ q ∈ ps, q.1.natAbs ^ q.2.toNat ∣ X) → numN ps ∣ X
  | _, [], _, _ => Nat.one_dvd _
  | l, q :: r, a, h => by
    rw [numN_cons]
    exact Nat.Coprime.mul_dvd_of_dvd_of_dvd (cop_num a.2.2.1 _ (Asc.lt a.2.2.2)) (h q (List.mem_cons_self ..)) (all_dvd a.2.2.2 fun z hz => h z (List.mem_cons_of_mem _ hz))
theorem gcd_all {X B : Nat} : ∀ {l : Int} {ps : List (Int × Int)}, Asc l ps → (∀ q ∈ ps, Nat.gcd B (q.1.natAbs ^ q.2.toNat) ∣ X) → Nat.gcd B (numN ps) ∣ X
  | _, [], _, _ => by rw [show numN [] = 1 from rfl, Nat.gcd_one_right]; exact Nat.one_dvd _
  | l, q :: r, a, h => by
    have hc : Nat.Coprime (q.1.natAbs ^ q.2.toNat) (numN r) := cop_num a.2.2.1 _ (Asc.lt a.2.2.2)
    rw [numN_cons, Nat.Coprime.gcd_mul _ hc]
    refine Nat.Coprime.mul_dvd_of_dvd_of_dvd ?_ (h q (List.mem_cons_self ..)) (gcd_all a.2.2.2 fun z hz => h z (List.mem_cons_of_mem _ hz))
    exact Nat.Coprime.coprime_dvd_left (Nat.gcd_dvd_right _ _) (Nat.Coprime.coprime_dvd_right (Nat.gcd_dvd_right _ _) hc)
end Bc
namespace Bc
open PySem PySem.Spec PyProof.Rows L2
theorem gcd_pow_dvd (a c : Nat) : ∀ e : Nat, Nat.gcd (a ^ e) c ∣ Nat.gcd a c ^ e
  | 0 => by rw [Nat.pow_zero, Nat.pow_zero, Nat.gcd_one_left]; exact Nat.one_dvd _
  | e + 1 => by
    rw [Nat.pow_succ, Nat.pow_succ]
    exact Nat.dvd_trans (Nat.gcd_mul_left_dvd_mul_gcd _ _ _) (Nat.mul_dvd_mul_right (gcd_pow_dvd a c e) _)
theorem pow_dvd_up {a c : Nat} (h : a ∣ c) (n : Nat) : a ^ n ∣ c ^ n := by
  obtain ⟨d, rfl⟩ := h
  rw [Nat.mul_pow]
  exact Nat.dvd_mul_right _ _
theorem metF_pos {be al k L : Nat} (h : metF be al k = some L) : 1 ≤ L := by
  unfold metF at h
  split at h
  · cases h; exact Nat.le_refl _
  · split at h
    · cases h; exact Nat.le_add_right _ _
    · cases h
/-- what a met prime gives -/
theorem met_gives {b A : Nat} {q : Int × Int} (hp : Pr q.1) {L n : Nat} (h : metR b A q = some L) (hn : L ≤ n) : q.1.natAbs ^ q.2.toNat ∣ A * b ^ (n - 1) ∧ ∀ j, Nat.gcd (b ^ (j + 1)) (q.1.natAbs ^ q.2.toNat) ∣ A * b ^ j := by
  obtain ⟨p, kk⟩ := q
  dsimp only at hp h ⊢
  unfold metR at h
  dsimp only at h
  generalize hk : kk.toNat = k at h ⊢
  have h2 : 2 ≤ p := by have := hp.1; omega
  have hpn : ((p.natAbs : Nat) : Int) = p := Int.natAbs_of_nonneg (by omega)
  have hv1 := vcap_le p k b
  have hv2 := vcap_le p k A
  have dA : ∀ i, i ≤ k → (p.natAbs ^ i ∣ A ↔ i ≤ vcap A p k) := fun i hi => by
    rw [← vcap_dvd h2 k A i hi, ← hpn, ← Int.natCast_pow, Int.natCast_dvd_natCast]
    rw [hpn]
  have dB : ∀ i, i ≤ k → (p.natAbs ^ i ∣ b ↔ i ≤ vcap b p k) := fun i hi => by
    rw [← vcap_dvd h2 k b i hi, ← hpn, ← Int.natCast_pow, Int.natCast_dvd_natCast]
    rw [hpn]
  have hn1 : 1 ≤ n := Nat.le_trans (metF_pos h) hn
  unfold metF at h
  split at h
  · rename_i c
    have d := (dA k (Nat.le_refl _)).mpr c
    exact ⟨Nat.dvd_trans d (Nat.dvd_mul_right _ _), fun j => Nat.dvd_trans (Nat.gcd_dvd_right _ _) (Nat.dvd_trans d (Nat.dvd_mul_right _ _))⟩
  · rename_i c
    split at h
    · rename_i hb
      cases h
      obtain ⟨hb1, hb2⟩ := hb
      have d1 := (dA _ hv2).mpr (Nat.le_refl _)
      have d2 := (dB _ hv1).mpr (Nat.le_refl _)
      generalize vcap (b : Int) p k = be at *
      generalize vcap (A : Int) p k = al at *
      constructor
      · have d3 : p.natAbs ^ al * (p.natAbs ^ be) ^ (n - 1) ∣ A * b ^ (n - 1) := Nat.mul_dvd_mul d1 (pow_dvd_up d2 _)
        refine Nat.dvd_trans ?_ d3
        rw [← Nat.pow_mul, ← Nat.pow_add]
        refine Nat.pow_dvd_pow _ ?_
        have a1 := Nat.div_add_mod (k - al + be - 1) be
        have a2 := Nat.mod_lt (k - al + be - 1) (show be > 0 by omega)
        have a3 : be * ((k - al + be - 1) / be) ≤ be * (n - 1) := Nat.mul_le_mul_left _ (by omega)
        omega
      · intro j
        have g1 : Nat.gcd b (p.natAbs ^ k) ∣ p.natAbs ^ be := by
          by_cases c2 : be = k
          · rw [c2]; exact Nat.gcd_dvd_right _ _
          · obtain ⟨u, hu⟩ := d2
            have hnu : ¬ p.natAbs ∣ u := fun z => by
              have h4 : p.natAbs ^ (be + 1) ∣ b := by
                rw [hu, Nat.pow_succ]
                exact Nat.mul_dvd_mul_left _ z
              have := (dB _ (by omega)).mp h4
              omega
            have hc : Nat.Coprime u p.natAbs := (cop_or hp u).resolve_left hnu
            rw [hu, Nat.Coprime.gcd_mul_right_cancel _ (Nat.Coprime.pow_right _ hc)]
            exact Nat.gcd_dvd_left _ _
        refine Nat.dvd_trans (gcd_pow_dvd b _ (j + 1)) ?_
        rw [Nat.pow_succ, Nat.mul_comm A]
        refine Nat.mul_dvd_mul (pow_dvd_up (Nat.gcd_dvd_left _ _) j) (Nat.dvd_trans g1 (Nat.dvd_trans (Nat.pow_dvd_pow _ hb2) d1))
    · cases h
theorem notPm {P b A e : Nat} (hP : 0 < P) (h : ¬ Pm (P : Int) (b : Int) (A : Int) e) : P ∣ b ^ e ∨ ¬ P ∣ A * b ^ e := by
  by_cases d : P ∣ A * b ^ e
  · left
    have e1 : Int.gcd (FS (b : Int) (P : Int) (1 % P) e) (P : Int) = Nat.gcd (b ^ e) P := by
      rw [← gcd_mod, FS_eq, Int.mul_emod, Int.emod_emod_of_dvd _ (Int.dvd_refl _), ← Int.mul_emod, Int.one_mul, gcd_mod]
      show Nat.gcd ((b : Int) ^ e).natAbs (P : Int).natAbs = _
      rw [Int.natAbs_pow]
      rfl
    unfold Pm at h
    rw [e1] at h
    have hg : 0 < Nat.gcd (b ^ e) P := Nat.gcd_pos_of_pos_right _ hP
    have hgP := Nat.gcd_dvd_right (b ^ e) P
    have hgb := Nat.gcd_dvd_left (b ^ e) P
    have h1 : P / Nat.gcd (b ^ e) P ∣ A := by
      have hc : Nat.Coprime (P / Nat.gcd (b ^ e) P) (b ^ e / Nat.gcd (b ^ e) P) := (Nat.coprime_div_gcd_div_gcd hg).symm
      refine hc.dvd_of_dvd_mul_right ?_
      obtain ⟨t, ht⟩ := d
      refine ⟨t, Nat.eq_of_mul_eq_mul_right hg ?_⟩
      rw [Nat.mul_assoc, Nat.div_mul_cancel hgb, ht, Nat.mul_right_comm, Nat.div_mul_cancel hgP]
    have h2 : ¬ 1 < P / Nat.gcd (b ^ e) P := fun z => h ⟨by exact_mod_cast z, by
      refine Int.emod_eq_zero_of_dvd ?_
      rw [← Int.natCast_ediv]
      exact Int.natCast_dvd_natCast.mpr h1⟩
    have h3 := Nat.div_mul_cancel hgP
    have h4 : 0 < P / Nat.gcd (b ^ e) P := Nat.div_pos (Nat.le_of_dvd hP hgP) hg
    rw [show P / Nat.gcd (b ^ e) P = 1 by omega, Nat.one_mul] at h3
    rw [h3] at hgb
    exact hgb
  · exact .inr d
theorem not_even {b A : Nat} {s : Int} {n : Nat} {l : Int} {ps : List (Int × Int)} {q : Int × Int} (hA : 0 < A) (h0 : 0 ≤ l) (ha : Asc l ps) (hq : q ∈ ps) {j : Nat} (hj : j + 1 ≤ q.2.toNat) (hm : ∀ e, e < n → ¬ Pm (q.1 ^ (j + 1)) (b : Int) (A : Int) e) (hc : ∀ y, Qs b A s n 0 (chi (num ps)) y = Qs b A s n 0 (chi (num ps)) 0) : False := by
  have hpr := (ha.lt q hq).2.2
  have h2 : 2 ≤ q.1 := by have := hpr.1; omega
  have hpn : ((q.1.natAbs : Nat) : Int) = q.1 := Int.natAbs_of_nonneg (by omega)
  have hdiv : q.1 ^ (j + 1) ∣ num ps := Int.dvd_trans (ppow_dvd q.1 hj) (num_dvd hq)
  have hN0 : 0 < num ps := by
    rw [num_cast h0 ha]
    have := fun z => Nat.ne_of_gt (show 0 < 1 from Nat.one_pos) z
    have hpos : ∀ {l : Int} {ps : List (Int × Int)}, Asc l ps → 0 ≤ l → 0 < numN ps := by
      intro l ps
      induction ps generalizing l with
      | nil => exact fun _ _ => Nat.one_pos
      | cons z r ih =>
        intro a hl
        rw [numN_cons]
        have := a.1
        exact Nat.mul_pos (Nat.pow_pos (by omega)) (ih a.2.2.2 (by omega))
    exact_mod_cast hpos ha h0
  obtain ⟨p, kk⟩ := q
  dsimp only at hj hm hpr h2 hpn hdiv
  have hP : 0 < p ^ (j + 1) := Int.pow_pos (by omega)
  have hq0 : 0 < p ^ j := Int.pow_pos (by omega)
  obtain ⟨c, hcN⟩ := hdiv
  have hc0 : 0 < c := by
    refine Int.not_le.mp fun z => ?_
    have : p ^ (j + 1) * c ≤ 0 := Int.mul_nonpos_of_nonneg_of_nonpos (by omega) z
    omega
  obtain ⟨c, rfl⟩ := Int.eq_ofNat_of_zero_le (Int.le_of_lt hc0)
  have hc1 : 0 < c := by omega
  have cP : ∀ y, Qs b A s n 0 (chi (p ^ (j + 1))) y = c * Qs b A s n 0 (chi (num ps)) 0 := fun y => by
    rw [← Qs_congr (fun x => chi_sum hP hc1 x), Qs_sig c (fun i x => chi (p ^ (j + 1) * c) (x + p ^ (j + 1) * i))]
    rw [sig_congr (g := fun _ => Qs b A s n 0 (chi (num ps)) 0) fun i _ => ?_, sig_const]
    rw [Qs_shift, ← hcN]
    exact hc _
  have e0 : p ^ (j + 1) = p ^ j * (p.natAbs : Nat) := by rw [hpn, Int.pow_succ]
  have v : Vz p.natAbs (p ^ j) (fun x => chi (p ^ (j + 1)) x - chi (p ^ (j + 1)) (x + p ^ j)) := by
    refine ⟨fun y => ?_, fun y => ?_⟩
    · rw [← e0]
      try dsimp only
      rw [show y + p ^ (j + 1) + p ^ j = y + p ^ j + p ^ (j + 1) by omega, chi_per, chi_per]
    · have t := sig_tel (fun i => chi (p ^ (j + 1)) (y + p ^ j * i)) p.natAbs
      try dsimp only at t
      rw [show y + p ^ j * ((p.natAbs : Nat) : Int) = y + p ^ (j + 1) by rw [e0], chi_per, show y + p ^ j * ((0 : Nat) : Int) = y by rw [show ((0 : Nat) : Int) = 0 from rfl, Int.mul_zero, Int.add_zero]] at t
      rw [sig_sub]
      rw [sig_congr (f := fun i => chi (p ^ (j + 1)) (y + p ^ j * ((i : Nat) : Int) + p ^ j)) (g := fun i => chi (p ^ (j + 1)) (y + p ^ j * ((i + 1 : Nat) : Int))) fun i _ => ?_]
      · omega
      · rw [Int.natCast_succ, Int.mul_add, Int.mul_one, Int.add_assoc]
  have z := Qs_inj (b := b) (A := A) (s := s) hA (by omega) ?_ n 0 _ v ?_ ?_ 0
  · try dsimp only at z
    rw [Int.zero_add] at z
    unfold chi at z
    rw [if_pos (by simp)] at z
    have h3 : p ^ j % p ^ (j + 1) = p ^ j := Int.emod_eq_of_lt (by omega) (by
      rw [Int.pow_succ]
      have := Int.mul_le_mul_of_nonneg_left h2 (Int.le_of_lt hq0)
      omega)
    rw [h3, if_neg (by omega)] at z
    omega
  · intro h x d p1 p2
    rw [← e0] at d p1
    have p3 : Per h (x.natAbs : Nat) := by
      rcases Int.natAbs_eq x with w | w
      · rw [← w]; exact p2
      · have := p2.neg
        rw [w, Int.neg_neg] at this
        exact this
    have p4 : Per h ((p.natAbs ^ (j + 1) : Nat) : Int) := by rw [Int.natCast_pow, hpn]; exact p1
    have g := Per.gcd _ _ p3 p4
    have d2 := gcd_pred hpr j x.natAbs fun w => d (Int.natAbs_dvd_natAbs.mp (by rw [Int.natAbs_pow]; exact w))
    refine g.dvd ?_
    have := Int.natCast_dvd_natCast.mpr d2
    rwa [Int.natCast_pow p.natAbs j, hpn] at this
  · intro e _ he
    rw [← e0]
    have hP2 : p ^ (j + 1) = ((p.natAbs ^ (j + 1) : Nat) : Int) := by rw [Int.natCast_pow, hpn]
    have h5 := hm e (by omega)
    rw [hP2] at h5 ⊢
    have := notPm (Nat.pow_pos (by omega)) h5
    rw [← Int.natCast_pow b e, ← Int.natCast_mul, Int.natCast_dvd_natCast, Int.natCast_dvd_natCast]
    exact this
  · intro y
    rw [Qs_sub, Qs_shift, cP, cP]
    omega
theorem numN_pos : ∀ {l : Int} {ps : List (Int × Int)}, Asc l ps → 0 ≤ l → 0 < numN ps
  | _, [], _, _ => Nat.one_pos
  | l, z :: r, a, hl => by
    rw [numN_cons]
    have := a.1
    exact Nat.mul_pos (Nat.pow_pos (by omega)) (numN_pos a.2.2.2 (by omega))
theorem even_iff {b A : Nat} {s : Int} {n : Nat} {ps : List (Int × Int)} (hA : 0 < A) (ha : Asc 0 ps) (hk : ∀ q ∈ ps, q.2 ≤ 60) (hn : n ≤ 63) : (∀ y, Qs b A s n 0 (chi (num ps)) y = Qs b A s n 0 (chi (num ps)) 0) ↔ ∃ e, evenF (ps.map (metR b A)) = some e ∧ e ≤ n := by
  constructor
  · intro hc
    unfold evenF
    by_cases hno : none ∈ ps.map (metR b A)
    · exfalso
      obtain ⟨q, hq, e⟩ := List.mem_map.mp hno
      obtain ⟨h1, f, h2, h3⟩ := met_none (ha.lt q hq).2.2 e
      cases f with
      | some f => cases h3
      | none => exact not_even hA (Int.le_refl _) ha hq h1 (fun e he => h2 e (by omega)) hc
    · rw [if_neg hno]
      refine ⟨_, rfl, ?_⟩
      by_cases hle : ∀ l ∈ ps.map (metR b A), l.getD 0 ≤ n
      · exact gmax_le (Nat.zero_le _) hle
      · exfalso
        refine hle fun l hl => ?_
        obtain ⟨q, hq, rfl⟩ := List.mem_map.mp hl
        cases hm : metR b A q with
        | none => exact absurd (List.mem_map.mpr ⟨q, hq, hm⟩) hno
        | some L =>
          refine Nat.le_of_not_lt fun hL => ?_
          have hL : n < L := hL
          have hq0 := (ha.lt q hq).2.1
          obtain ⟨L', ⟨f, h2, h3⟩, _, h4⟩ := met_some (ha.lt q hq).2.2 (by have := hk q hq; omega) hm (show 1 ≤ q.2.toNat by omega) (Nat.le_refl _)
          cases f with
          | none => cases h3
          | some f =>
            have h3 : some L' = some (f + 1) := h3
            cases h3
            have := h4 rfl
            obtain ⟨j, hj⟩ : ∃ j, q.2.toNat = j + 1 := ⟨q.2.toNat - 1, by omega⟩
            rw [hj] at h2
            exact not_even hA (Int.le_refl _) ha hq (j := j) (by omega) (fun e he => h2.2.2 e (by omega)) hc
  · rintro ⟨e, he, hen⟩
    unfold evenF at he
    by_cases hno : none ∈ ps.map (metR b A)
    · rw [if_pos hno] at he; cases he
    rw [if_neg hno] at he
    have hall : ∀ q ∈ ps, ∃ L, metR b A q = some L ∧ L ≤ n := fun q hq => by
      cases hm : metR b A q with
      | none => exact absurd (List.mem_map.mpr ⟨q, hq, hm⟩) hno
      | some L =>
        refine ⟨L, rfl, ?_⟩
        have := le_gmax (m := 0) (List.mem_map.mpr ⟨q, hq, rfl⟩ : metR b A q ∈ ps.map (metR b A))
        rw [hm] at this
        have h5 : L ≤ _ := this
        cases he
        omega
    have hcast := num_cast (Int.le_refl _) ha
    by_cases h0 : n = 0
    · subst h0
      cases ps with
      | nil =>
        intro y
        show chi 1 y = chi 1 0
        unfold chi
        rw [Int.emod_one, Int.emod_one]
      | cons q r =>
        obtain ⟨L, h1, h2⟩ := hall q (List.mem_cons_self ..)
        have := metF_pos h1
        omega
    · have hb : ∀ j : Nat, (b : Int) ^ j = ((b ^ j : Nat) : Int) := fun j => (Int.natCast_pow b j).symm
      have p := Qs_inv (b := b) (A := A) (s := s) (N := num ps) (n := n) (chi_per _) ?_ ?_ n 0 (by omega) (by omega)
      · rw [Int.pow_zero] at p
        intro y
        have := p.mul y 0
        rwa [Int.zero_add, Int.one_mul] at this
      · rw [hcast, hb, ← Int.natCast_mul]
        refine Int.natCast_dvd_natCast.mpr (all_dvd ha fun q hq => ?_)
        obtain ⟨L, h1, h2⟩ := hall q hq
        exact (met_gives (ha.lt q hq).2.2 h1 h2).1
      · intro j _ h p1 p2
        rw [hcast] at p1
        rw [hb] at p2 ⊢
        refine (Per.gcd _ _ p2 p1).dvd ?_
        rw [← Int.natCast_mul]
        refine Int.natCast_dvd_natCast.mpr (gcd_all ha fun q hq => ?_)
        obtain ⟨L, h1, h2⟩ := hall q hq
        exact (met_gives (ha.lt q hq).2.2 h1 h2).2 j
end Bc
namespace Bc
open PySem PySem.Spec PyProof.Rows L2
theorem same_apC {t : Addr} {H H' : Hp} {o : HO} (n : H t = none) (s : Same H H') : Same H (upd H' t o) := fun b o hb => by
  rw [upd_ne (ne_of_none hb n)]
  exact s _ _ hb
section
variable {X : Cx}
theorem get_list : PGet X (rIxL X.K) := by
  intro pins s σ H o i ov iv Q I ro ri h
  obtain ⟨p, xs, k, z, rfl, rfl, hq, he, q⟩ := h
  cases ro
  obtain ⟨t, rfl⟩ := ri
  obtain ⟨its, r, pl, hz⟩ := I.list hq
  obtain ⟨j, h1, h2, h3, h4, h5⟩ := L2.atI_get he
  obtain ⟨w, ew, rw'⟩ := r.get h2
  have hl := r.length
  have hn := line63
  have fin : EP X pins σ Q w s := ⟨z, H, I, rw', q⟩
  by_cases h0 : 0 ≤ k
  · have hj : k.toNat = j := by
      rw [seqIndex_of h0 h5] at h1
      exact Option.some.inj h1
    exact wpAny_getItem_list pl.isList h0 (by omega) (by rw [hj]; simpa using ew) fin
  · have hj : (k + (its.toArray.size : Int)).toNat = j := by
      rw [seqIndex_neg (by omega) h4] at h1
      rw [List.size_toArray, ← hl]
      exact Option.some.inj h1
    exact wpAny_getItem_list_neg pl.isList (by omega) (by rw [List.size_toArray] <;> omega) (by omega) (by rw [hj]; simpa using ew) fin
theorem w_augS {to ti te : TE} {tget : V → V → Hp → VK → Prop} {tip : TIp} {tset : TSet} {D : Ends} {σ : L2.St} {H : Hp}
    (q : to σ H fun o H1 => ti σ H1 fun i H2 => tget o i H2 fun x H3 => te σ H3 fun y H4 => tip x y H4 fun z H5 => tset o i z H5 fun H6 => D.nx σ H6) : tAugS to ti te tget tip tset D σ H := q
end
theorem dd_ge : ∀ (l σ : List Int), σ.length ≤ (l.foldl step_dedup σ).length
  | [], _ => Nat.le_refl _
  | k :: r, σ => by
    rw [List.foldl_cons]
    refine Nat.le_trans ?_ (dd_ge r _)
    unfold step_dedup
    split
    · exact Nat.le_refl _
    · rw [List.length_append]; exact Nat.le_add_right _ _
theorem dd_one (k : Int) : ∀ l : List Int, (l.foldl step_dedup [k]).length = 1 ↔ ∀ x ∈ l, x = k
  | [] => ⟨fun _ x h => (by cases h), fun _ => rfl⟩
  | y :: r => by
    rw [List.foldl_cons]
    by_cases h : y = k
    · have e : step_dedup [k] y = [k] := by
        unfold step_dedup
        rw [if_pos (List.any_eq_true.mpr ⟨k, List.mem_cons_self .., by simp [h]⟩)]
      rw [e, dd_one k r]
      exact ⟨fun z x hx => (List.mem_cons.mp hx).elim (fun w => w.trans h) (z x), fun z x hx => z x (List.mem_cons_of_mem _ hx)⟩
    · have e : step_dedup [k] y = [k, y] := by
        unfold step_dedup
        rw [if_neg fun z => by
          obtain ⟨x, hx, hx2⟩ := List.any_eq_true.mp z
          have e1 : x = y := by simpa using hx2
          have e2 : x = k := by simpa using hx
          exact h (e1.symm.trans e2)]
        rfl
      rw [e]
      have := dd_ge r [k, y]
      constructor
      · intro z
        rw [z] at this
        simp at this
      · intro z
        exact absurd (z y (List.mem_cons_self ..)) h
/-- all alike -/
noncomputable def Flat (ns : List Int) : Prop := ∀ x ∈ ns, x = ns.getD 0 0
noncomputable instance (ns : List Int) : Decidable (Flat ns) := inferInstanceAs (Decidable (∀ x ∈ ns, _))
theorem met_one {ns : List Int} (h : ns ≠ []) : (firstMet (fun i => ns.getD i 0) ns.length).length = 1 ↔ Flat ns := by
  have e : (List.range ns.length).map (fun i => ns.getD i 0) = ns := by
    apply List.ext_getElem
    · rw [List.length_map, List.length_range]
    · intro i h1 h2
      rw [List.getElem_map, List.getElem_range, List.getD_eq_getElem?_getD, List.getElem?_eq_getElem h2]
      rfl
  unfold firstMet
  rw [e]
  cases ns with
  | nil => exact absurd rfl h
  | cons k r =>
    rw [List.foldl_cons, show step_dedup [] k = [k] from rfl, dd_one]
    unfold Flat
    exact ⟨fun z x hx => (List.mem_cons.mp hx).elim (fun w => w) (z x), fun z x hx => z x (List.mem_cons_of_mem _ hx)⟩
noncomputable def tLenSet1 (K : PySem.W.Frag) (ta : TE) : TE := fun σ H Q => ta σ H fun x H1 => ∃ (l : Addr) (ns : List Int), x = V.ref l ∧ SqL K H1 l (ns.map V.int) ∧ ns.length ≤ 4000 ∧ ns ≠ [] ∧ ∀ n : Nat, (n = 1 ↔ Flat ns) → Q (.int n) H1
theorem pe_lenSet1 {X : Cx} {a : Expr} {ta : TE} {p p2 q pos : Pos} (hc : X.calm = true) (hg : Gl X "len") (hm : X.mg "len" = none) (hg2 : Gl X "set") (hm2 : X.mg "set" = none) (ha : PE X a ta)
    (na : starEach [a] X.env = (false, eval a X.env) :: starEach [] X.env := by rfl) : PE X (.Call (.Name "len" p) [.Call (.Name "set" p2) [a] [] q] [] pos) (tLenSet1 X.K ta) := by
  refine ⟨fun pins s σ H Q I h => ?_⟩
  refine Call_ (ld_blt I hg hm PySem.boot_len ?_)
  refine PyProof.Rows.callWith_builtin1 (PyProof.Rows.args_cons ?_ rfl) rfl rfl
  refine Call_ (ld_blt I hg2 hm2 PyProof.Rows.boot_set ?_)
  refine PyProof.Rows.callWith_type1 (PyProof.Rows.args_cons (thn (ha.run pins s σ H _ I h) fun v s1 ⟨x, H1, I1, r1, q1⟩ => PyProof.Rows.args_nil ?_) na) na rfl
  obtain ⟨l, ns, rfl, hq, h1, h2, q1⟩ := q1
  cases r1
  obtain ⟨its, r, pl, hz⟩ := I1.list hq
  have hl : its.toArray.size = ns.length := by rw [List.size_toArray, ← r.length, List.length_map]
  have ml := met_one h2
  have mle := firstMet_length_le (fun i => ns.getD i 0) ns.length
  refine call_set_list (I1.ok.hd hc) pl.isList (ns := ns) (by simpa using r.ints) (by unfold scanBound; omega) fun h' tk hS hk => ?_
  rw [hl] at hS
  refine PyProof.Rows.args_nil ?_
  obtain ⟨o, es, ep, t, ho, hex, hd, _, _, _, hf, hn⟩ := hS
  have I2 : Inv X pins σ H1 { s1 with heap := h', toks := tk } := I1.kept fun b o e => hk b o (Heap.lt_size e) e
  exact call_len_set ho hex hd hf (by rw [hn]; omega) ⟨.int ((firstMet (fun i => ns.getD i 0) ns.length).length : Nat), H1, I2.tok _, ⟨_, by rw [hn]⟩, q1 _ ml⟩
theorem w_lenSet1 {K : PySem.W.Frag} {ta : TE} {σ : L2.St} {H : Hp} {Q : VK} (q : ta σ H fun x H1 => ∃ (l : Addr) (ns : List Int), x = V.ref l ∧ SqL K H1 l (ns.map V.int) ∧ ns.length ≤ 4000 ∧ ns ≠ [] ∧ ∀ n : Nat, (n = 1 ↔ Flat ns) → Q (.int n) H1) : tLenSet1 K ta σ H Q := q
noncomputable def bump (ys : List Int) (i : Nat) (v : Int) : List Int := ys.set i (ys.getD i 0 + v)
theorem bump_len (ys : List Int) (i : Nat) (v : Int) : (bump ys i v).length = ys.length := by unfold bump; rw [List.length_set]
theorem bump_get {ys : List Int} {i : Nat} (h : i < ys.length) (v : Int) (x : Nat) : (bump ys i v).getD x 0 = ys.getD x 0 + if i = x then v else 0 := by
  unfold bump
  rw [List.getD_eq_getElem?_getD, List.getElem?_set]
  by_cases e : i = x
  · rw [if_pos e, if_pos e, if_pos h, e]
    rfl
  · rw [if_neg e, if_neg e, Int.add_zero, List.getD_eq_getElem?_getD]
noncomputable def cIn (N b s r c : Int) (m : Nat) (ys : List Int) : List Int := (List.range m).foldl (fun ys (l : Nat) => bump ys ((r * b + l + s) % N).toNat c) ys
theorem cIn_zero (N b s r c : Int) (ys : List Int) : cIn N b s r c 0 ys = ys := rfl
theorem cIn_succ (N b s r c : Int) (m : Nat) (ys : List Int) : cIn N b s r c (m + 1) ys = bump (cIn N b s r c m ys) ((r * b + m + s) % N).toNat c := by
  unfold cIn
  rw [List.range_succ, List.foldl_append]
  rfl
theorem cIn_len (N b s r c : Int) (ys : List Int) : ∀ m : Nat, (cIn N b s r c m ys).length = ys.length
  | 0 => rfl
  | m + 1 => by rw [cIn_succ, bump_len, cIn_len N b s r c ys m]
theorem ix_lt {N : Int} (hN : 0 < N) (z : Int) : (z % N).toNat < N.toNat := by
  have h1 := Int.emod_nonneg z (show N ≠ 0 by omega)
  have h2 := Int.emod_lt_of_pos z hN
  omega
theorem cIn_get {N : Int} (hN : 0 < N) (b s r c : Int) {ys : List Int} (hy : ys.length = N.toNat) (x : Nat) : ∀ m : Nat, (cIn N b s r c m ys).getD x 0 = ys.getD x 0 + sig m fun l => if ((r * b + l + s) % N).toNat = x then c else 0
  | 0 => by rw [cIn_zero, sig, Int.add_zero]
  | m + 1 => by
    rw [cIn_succ, bump_get (by rw [cIn_len, hy]; exact ix_lt hN _), cIn_get hN b s r c hy x m, sig, Int.add_assoc]
noncomputable def cOut (N b s : Int) (A : Nat) (xs : List Int) (k : Nat) : List Int := (List.range k).foldl (fun ys (r : Nat) => cIn N b s r (xs.getD r 0) A ys) (List.replicate N.toNat 0)
theorem cOut_zero (N b s : Int) (A : Nat) (xs : List Int) : cOut N b s A xs 0 = List.replicate N.toNat 0 := rfl
theorem cOut_succ (N b s : Int) (A : Nat) (xs : List Int) (k : Nat) : cOut N b s A xs (k + 1) = cIn N b s k (xs.getD k 0) A (cOut N b s A xs k) := by
  unfold cOut
  rw [List.range_succ, List.foldl_append]
  rfl
theorem cOut_len (N b s : Int) (A : Nat) (xs : List Int) : ∀ k : Nat, (cOut N b s A xs k).length = N.toNat
  | 0 => by rw [cOut_zero, List.length_replicate]
  | k + 1 => by rw [cOut_succ, cIn_len, cOut_len N b s A xs k]
theorem getD_rep (n x : Nat) : (List.replicate n (0 : Int)).getD x 0 = 0 := by
  rw [List.getD_eq_getElem?_getD, List.getElem?_replicate]
  split <;> rfl
theorem cOut_get {N : Int} (hN : 0 < N) (b s : Int) (A : Nat) (xs : List Int) (x : Nat) : ∀ k : Nat, (cOut N b s A xs k).getD x 0 = sig k fun r => sig A fun l => if (((r : Int) * b + l + s) % N).toNat = x then xs.getD r 0 else 0
  | 0 => by rw [cOut_zero, getD_rep]; rfl
  | k + 1 => by rw [cOut_succ, cIn_get hN _ _ _ _ (cOut_len ..), cOut_get hN b s A xs x k, sig]
/-- how many texts of n letters have the marks 0, 1, .. : d is the lead -/
noncomputable def cnt (N b s d : Int) (A : Nat) : Nat → List Int
  | 0 => (List.replicate N.toNat 0).set (d % N).toNat 1
  | n + 1 => cOut N b s A (cnt N b s d A n) N.toNat
theorem cnt_len (N b s d : Int) (A : Nat) : ∀ n : Nat, (cnt N b s d A n).length = N.toNat
  | 0 => by rw [cnt, List.length_set, List.length_replicate]
  | n + 1 => by rw [cnt, cOut_len]
theorem per_mod {g : Int → Int} {N : Int} (p : Per g N) (z : Int) : g (z % N) = g z := by
  have h := p.mul (z / N) (z % N)
  rw [Int.add_comm, Int.mul_ediv_add_emod] at h
  exact h.symm
theorem cnt_pair {N b s d : Int} {A : Nat} (hN : 0 < N) : ∀ (n : Nat) (g : Int → Int), Per g N → (sig N.toNat fun r => (cnt N b s d A n).getD r 0 * g r) = Qs b A s n 0 g (d * b ^ n)
  | 0, g, p => by
    have hk := ix_lt hN d
    rw [sig_congr (g := fun r => if r = (d % N).toNat then g r else 0) fun r hr => ?_, sig_pick, if_pos hk, Qs, Int.pow_zero, Int.mul_one]
    · rw [Int.toNat_of_nonneg (Int.emod_nonneg _ (by omega)), per_mod p]
    · rw [cnt, List.getD_eq_getElem?_getD, List.getElem?_set, List.length_replicate, if_pos hk]
      by_cases e : (d % N).toNat = r
      · rw [if_pos e, if_pos e.symm, Option.getD_some, Int.one_mul]
      · rw [if_neg e, if_neg (fun w => e w.symm), List.getElem?_replicate, if_pos hr, Option.getD_some, Int.zero_mul]
  | n + 1, g, p => by
    have pU : Per (fun x => sig A fun l => g (x * b + l + s)) N := fun x => sig_congr fun l _ => by
      rw [show (x + N) * b + (l : Int) + s = x * b + l + s + N * b by rw [Int.add_mul]; omega]
      exact p.mul b _
    have ih := cnt_pair (b := b) (s := s) (d := d) (A := A) hN n _ pU
    rw [Qs_U] at ih
    have e2 : Qs b A s (n + 1) 0 g (d * b ^ (n + 1)) = sig A fun l => Qs b A s n (0 + 1) g (d * b ^ n * b + l + s) := by
      rw [Qs]
      refine sig_congr fun l _ => ?_
      congr 1
      rw [Int.pow_zero, Int.one_mul, Int.pow_succ, ← Int.mul_assoc]
      omega
    rw [e2, ← ih]
    rw [sig_congr (g := fun x => sig N.toNat fun r => sig A fun l => if x = (((r : Int) * b + l + s) % N).toNat then (cnt N b s d A n).getD r 0 * g x else 0) fun x _ => ?_]
    · rw [sig_swap]
      refine sig_congr fun r _ => ?_
      rw [sig_swap, ← sig_mul]
      refine sig_congr fun l _ => ?_
      rw [sig_pick (fun x => (cnt N b s d A n).getD r 0 * g x), if_pos (ix_lt hN _), Int.toNat_of_nonneg (Int.emod_nonneg _ (by omega)), per_mod p]
    · rw [cnt, cOut_get hN, Int.mul_comm, ← sig_mul]
      refine sig_congr fun r _ => ?_
      rw [← sig_mul]
      refine sig_congr fun l _ => ?_
      by_cases e : (((r : Int) * b + l + s) % N).toNat = x
      · rw [if_pos e, if_pos e.symm, Int.mul_comm]
      · rw [if_neg e, if_neg (fun w => e w.symm), Int.mul_zero]
theorem cnt_get {N b s d : Int} {A : Nat} (hN : 0 < N) (n : Nat) {x : Nat} (hx : x < N.toNat) : (cnt N b s d A n).getD x 0 = Qs b A s n 0 (chi N) (d * b ^ n - x) := by
  have p : Per (fun z => chi N (z + -(x : Int))) N := fun z => by
    show chi N (z + N + -(x : Int)) = _
    rw [show z + N + -(x : Int) = z + -x + N by omega]
    exact chi_per N _
  have h := cnt_pair (b := b) (s := s) (d := d) (A := A) hN n _ p
  rw [Qs_shift] at h
  rw [show d * b ^ n - (x : Int) = d * b ^ n + -x by omega, ← h]
  rw [sig_congr (g := fun r => if r = x then (cnt N b s d A n).getD r 0 else 0) fun r hr => ?_, sig_pick (fun r => (cnt N b s d A n).getD r 0), if_pos hx]
  unfold chi
  by_cases e : r = x
  · rw [if_pos e, e, show (x : Int) + -x = 0 by omega, Int.zero_emod, if_pos rfl, Int.mul_one]
  · rw [if_neg e, if_neg fun w => e ?_, Int.mul_zero]
    have h2 := (Int.emod_eq_emod_iff_emod_sub_eq_zero (m := (r : Int)) (n := N) (k := (x : Int))).mpr (by rw [show (r : Int) - x = r + -x by omega]; exact w)
    rw [Int.emod_eq_of_lt (by omega) (by omega), Int.emod_eq_of_lt (by omega) (by omega)] at h2
    exact Int.ofNat.inj h2
theorem cnt_flat {N b s d : Int} {A : Nat} (hN : 0 < N) (n : Nat) : Flat (cnt N b s d A n) ↔ ∀ y, Qs b A s n 0 (chi N) y = Qs b A s n 0 (chi N) 0 := by
  have hl := cnt_len N b s d A n
  have per := Qs_per (b := b) (A := A) (s := s) (chi_per N) n 0
  constructor
  · intro h
    have key : ∀ y, Qs b A s n 0 (chi N) y = (cnt N b s d A n).getD 0 0 := fun y => by
      have hx := ix_lt hN (d * b ^ n - y)
      have e := cnt_get (b := b) (s := s) (d := d) (A := A) hN n hx
      rw [Int.toNat_of_nonneg (Int.emod_nonneg _ (by omega))] at e
      have e3 : d * b ^ n - (d * b ^ n - y) % N = y + N * ((d * b ^ n - y) / N) := by
        have := Int.mul_ediv_add_emod (d * b ^ n - y) N
        omega
      rw [e3, per.mul] at e
      rw [← e]
      refine h _ ?_
      rw [List.getD_eq_getElem?_getD, List.getElem?_eq_getElem (by omega)]
      exact List.getElem_mem _
    exact fun y => (key y).trans (key 0).symm
  · intro h x hx
    obtain ⟨i, hi, rfl⟩ := List.getElem_of_mem hx
    have e1 := cnt_get (b := b) (s := s) (d := d) (A := A) hN n (x := i) (by omega)
    have e2 := cnt_get (b := b) (s := s) (d := d) (A := A) hN n (x := 0) (by omega)
    rw [List.getD_eq_getElem?_getD, List.getElem?_eq_getElem hi] at e1
    rw [e2, h, ← h (d * b ^ n - (i : Int)), ← e1]
    rfl
end Bc
namespace Bc
open PySem PySem.Spec PyProof.Rows L2
theorem rep00 (n : Nat) : (List.replicate n [V.int 0]).flatten = (List.replicate n (0 : Int)).map V.int := by
  induction n with
  | zero => rfl
  | succ n ih => rw [List.replicate_succ, List.flatten_cons, ih, List.replicate_succ, List.map_cons]; rfl
noncomputable def spCounts (c : CA) : Sp := fun vs H Q _ => ∃ (x : Addr) (A n b : Int) (ps : List (Int × Int)) (y : Sty), vs = [.ref x, .int A, .int n] ∧ WayAt c H x b ps y ∧ num ps ≤ 2000 ∧ 1 ≤ A ∧ A ≤ 1000 ∧ 0 ≤ n ∧ n ≤ 1000 ∧
  ∀ H' l, H l = none → Same H H' → H' l = some (.lst ((cnt (num ps) b y.shift (ld y) A.toNat n.toNat).map V.int)) → Q (.ref l) H'
theorem two_pow_le {q : Int × Int} (h2 : 2 ≤ q.1) {M : Nat} (hM : q.1 ^ q.2.toNat ≤ (M : Int)) : 2 ^ q.2.toNat ≤ M := by
  have h : (2 : Nat) ^ q.2.toNat ≤ q.1.toNat ^ q.2.toNat := Nat.pow_le_pow_left (by omega) _
  have e : ((q.1.toNat ^ q.2.toNat : Nat) : Int) = q.1 ^ q.2.toNat := by rw [Int.natCast_pow, Int.toNat_of_nonneg (by omega)]
  omega
theorem pow_le_num {ps : List (Int × Int)} (ha : Asc 0 ps) {q : Int × Int} (hq : q ∈ ps) : q.1 ^ q.2.toNat ≤ num ps := by
  have hd := num_dvd hq
  have hc := num_cast (Int.le_refl _) ha
  have hp := numN_pos ha (Int.le_refl _)
  exact Int.le_of_dvd (by omega) hd
theorem exp_le {ps : List (Int × Int)} (ha : Asc 0 ps) {m : Nat} (h : num ps < ((2 ^ (m + 1) : Nat) : Int)) {q : Int × Int} (hq : q ∈ ps) : q.2.toNat ≤ m := by
  have h1 := two_pow_le (two_of ha hq) (M := 2 ^ (m + 1) - 1) (by have := pow_le_num ha hq; have : 0 < 2 ^ (m + 1) := Nat.pow_pos (by decide); omega)
  refine Nat.le_of_not_lt fun z => ?_
  have h2 : 2 ^ (m + 1) ≤ 2 ^ q.2.toNat := Nat.pow_le_pow_right (by decide) z
  have : 0 < 2 ^ (m + 1) := Nat.pow_pos (by decide)
  omega
theorem metF_le {be al k L : Nat} (hk : 1 ≤ k) (h : metF be al k = some L) : L ≤ k := by
  unfold metF at h
  split at h
  · cases h; exact hk
  · rename_i c
    split at h
    · rename_i hb
      cases h
      have : (k - al + be - 1) / be ≤ k - al := by
        rw [Nat.div_le_iff_le_mul_add_pred (by omega)]
        have : k - al ≤ be * (k - al) := Nat.le_mul_of_pos_left _ hb.1
        omega
      omega
    · cases h
theorem even_le {r A : Int} {ps : List (Int × Int)} (ha : Asc 0 ps) {m e : Nat} (hk : ∀ q ∈ ps, q.2.toNat ≤ m) (h : evenF (ps.map (metR r A)) = some e) : e ≤ m := by
  unfold evenF at h
  split at h
  · cases h
  · cases h
    refine gmax_le (Nat.zero_le _) fun l hl => ?_
    obtain ⟨q, hq, rfl⟩ := List.mem_map.mp hl
    cases hm : metR r A q with
    | none => exact Nat.zero_le _
    | some L =>
      have h0 := (ha.lt q hq).2.1
      exact Nat.le_trans (metF_le (by omega) hm) (hk q hq)
/-- even just where all marks are counted alike -/
theorem flat_iff {ps : List (Int × Int)} {b A s d : Int} {n : Nat} (ha : Asc 0 ps) (hN : num ps ≤ 2000) (hb : 0 ≤ b) (hA : 1 ≤ A) (hn : n ≤ 63) : Flat (cnt (num ps) b s d A.toNat n) ↔ ∃ e, evenF (ps.map (metR b A)) = some e ∧ e ≤ n := by
  have hc := num_cast (Int.le_refl _) ha
  have hp := numN_pos ha (Int.le_refl _)
  rw [cnt_flat (by omega)]
  obtain ⟨b, rfl⟩ := Int.eq_ofNat_of_zero_le hb
  obtain ⟨A, rfl⟩ := Int.eq_ofNat_of_zero_le (show 0 ≤ A by omega)
  exact even_iff (by omega) ha (fun q hq => by have := exp_le ha (m := 10) (by omega) hq; omega) hn
end Bc
namespace Bc
open PySem PySem.Spec PyProof.Rows L2
noncomputable def Gw (N : Int) (A : Nat) (s : Int) : List Int → Int → Int
  | [], z => chi N z
  | w :: ws, z => sig A fun l => Gw N A s ws (z - ((l : Int) + s) * w)
section
variable {N s b : Int} {A : Nat}
theorem Gw_per : ∀ ws : List Int, Per (Gw N A s ws) N
  | [] => chi_per N
  | w :: ws => fun y => sig_congr fun l _ => by
    rw [show y + N - ((l : Int) + s) * w = y - ((l : Int) + s) * w + N by omega]
    exact Gw_per ws _
theorem Gw_nonneg : ∀ (ws : List Int) (z : Int), 0 ≤ Gw N A s ws z
  | [], z => chi_nonneg N z
  | _ :: ws, _ => sig_nonneg fun _ _ => Gw_nonneg ws _
theorem Gw_perm {ws ws' : List Int} (h : ws.Perm ws') : ∀ z, Gw N A s ws z = Gw N A s ws' z := by
  induction h with
  | nil => exact fun _ => rfl
  | cons x _ ih => exact fun z => sig_congr fun l _ => ih _
  | swap x y l =>
    intro z
    show (sig A fun i => sig A fun j => _) = sig A fun i => sig A fun j => _
    rw [sig_swap]
    refine sig_congr fun i _ => sig_congr fun j _ => ?_
    congr 1
    omega
  | trans _ _ ih1 ih2 => exact fun z => (ih1 z).trans (ih2 z)
theorem Gw_mod : ∀ (ws : List Int) (z : Int), Gw N A s (ws.map (· % N)) z = Gw N A s ws z
  | [], _ => rfl
  | w :: ws, z => by
    show (sig A fun l => Gw N A s (ws.map (· % N)) (z - ((l : Int) + s) * (w % N))) = sig A fun l => Gw N A s ws (z - ((l : Int) + s) * w)
    refine sig_congr fun l _ => ?_
    rw [Gw_mod ws]
    have e : z - ((l : Int) + s) * (w % N) = z - ((l : Int) + s) * w + N * (((l : Int) + s) * (w / N)) := by
      have := Int.mul_ediv_add_emod w N
      have h2 : ((l : Int) + s) * w = ((l : Int) + s) * (N * (w / N) + w % N) := by rw [this]
      rw [Int.mul_add, Int.mul_left_comm] at h2
      omega
    rw [e]
    exact (Gw_per ws).mul _ _
theorem chi_neg (z : Int) : chi N (-z) = chi N z := by
  unfold chi
  have : (-z) % N = 0 ↔ z % N = 0 := by
    rw [← Int.dvd_iff_emod_eq_zero, ← Int.dvd_iff_emod_eq_zero, Int.dvd_neg]
  by_cases h : z % N = 0
  · rw [if_pos h, if_pos (this.mpr h)]
  · rw [if_neg h, if_neg fun w => h (this.mp w)]
theorem Gw_Qs : ∀ (n j : Nat) (z : Int), Gw N A s ((List.range n).map fun i => b ^ (j + i)) z = Qs b A s n j (chi N) (-z)
  | 0, _, z => by
    show chi N z = chi N (-z)
    rw [chi_neg]
  | n + 1, j, z => by
    rw [List.range_succ_eq_map, List.map_cons, List.map_map]
    show (sig A fun l => Gw N A s ((List.range n).map ((fun i => b ^ (j + i)) ∘ Nat.succ)) (z - ((l : Int) + s) * b ^ (j + 0))) = _
    rw [Qs]
    refine sig_congr fun l _ => ?_
    rw [show ((fun i => b ^ (j + i)) ∘ Nat.succ) = fun i => b ^ (j + 1 + i) from funext fun i => by show b ^ (j + (i + 1)) = _; congr 1; omega, Gw_Qs n (j + 1)]
    congr 1
    rw [Nat.add_zero, Int.mul_comm]
    omega
end
/-- the weights of the places -/
noncomputable def wts (b N : Int) (low : Bool) (n : Nat) : List Int := if low then (List.range n).map fun i => b ^ i % N else ((List.range n).map fun i => b ^ i % N).reverse
theorem wts_len (b N : Int) (low : Bool) (n : Nat) : (wts b N low n).length = n := by
  unfold wts
  cases low <;> simp
theorem wts_lt {b N : Int} (hN : 0 < N) (low : Bool) (n : Nat) : ∀ w ∈ wts b N low n, 0 ≤ w ∧ w < N := fun w hw => by
  have h : w ∈ (List.range n).map fun i => b ^ i % N := by
    unfold wts at hw
    cases low with
    | true => exact hw
    | false => exact List.mem_reverse.mp hw
  obtain ⟨i, _, rfl⟩ := List.mem_map.mp h
  exact ⟨Int.emod_nonneg _ (by omega), Int.emod_lt_of_pos _ hN⟩
theorem cnt_Gw {N b s d : Int} {A : Nat} (hN : 0 < N) (low : Bool) (n : Nat) {x : Nat} (hx : x < N.toNat) : (cnt N b s d A n).getD x 0 = Gw N A s (wts b N low n) (x - d * b ^ n) := by
  rw [cnt_get hN n hx]
  have h1 : Gw N A s (wts b N low n) (x - d * b ^ n) = Gw N A s ((List.range n).map fun i => b ^ i % N) (x - d * b ^ n) := by
    unfold wts
    cases low with
    | true => rfl
    | false => exact Gw_perm (List.reverse_perm _) _
  rw [h1, show ((List.range n).map fun i => b ^ i % N) = ((List.range n).map fun i => b ^ (0 + i)).map (· % N) by rw [List.map_map]; refine List.map_congr_left fun i _ => ?_; show _ = b ^ (0 + i) % N; rw [Nat.zero_add], Gw_mod, Gw_Qs]
  congr 1
  omega
noncomputable def wsum (s : Int) : List Int → List Int → Int
  | w :: ws, l :: ls => (l + s) * w + wsum s ws ls
  | _, _ => 0
theorem wsum_app (s : Int) : ∀ {ws ls : List Int} (vs ms : List Int), ws.length = ls.length → wsum s (ws ++ vs) (ls ++ ms) = wsum s ws ls + wsum s vs ms
  | [], [], vs, ms, _ => by simp [wsum]
  | w :: ws, l :: ls, vs, ms, h => by
    rw [List.cons_append, List.cons_append, wsum, wsum, wsum_app s vs ms (by simpa using h)]
    omega
theorem wsum_rev (s : Int) : ∀ {ws ls : List Int}, ws.length = ls.length → wsum s ws.reverse ls.reverse = wsum s ws ls
  | [], [], _ => rfl
  | w :: ws, l :: ls, h => by
    have h' : ws.length = ls.length := by simpa using h
    rw [List.reverse_cons, List.reverse_cons, wsum_app s _ _ (by simpa using h'), wsum_rev s h', show wsum s [w] [l] = (l + s) * w + 0 by simp [wsum], wsum]
    omega
theorem wsum_mod (s N : Int) : ∀ ws ls : List Int, ∃ k, wsum s (ws.map (· % N)) ls = wsum s ws ls + N * k
  | [], _ => ⟨0, by simp [wsum]⟩
  | _ :: _, [] => ⟨0, by simp [wsum]⟩
  | w :: ws, l :: ls => by
    obtain ⟨k, hk⟩ := wsum_mod s N ws ls
    refine ⟨k - (l + s) * (w / N), ?_⟩
    rw [List.map_cons, wsum, wsum, hk, Int.mul_sub]
    have := Int.mul_ediv_add_emod w N
    have h2 : (l + s) * w = (l + s) * (N * (w / N) + w % N) := by rw [this]
    rw [Int.mul_add, Int.mul_left_comm] at h2
    omega
theorem wsum_high (s b : Int) : ∀ ls : List Int, wsum s ((List.range ls.length).map fun i => b ^ i).reverse ls = hv (ls.map (· + s)) b
  | [] => rfl
  | l :: ls => by
    rw [List.length_cons, List.range_succ, List.map_append, List.reverse_append]
    show wsum s (b ^ ls.length :: ((List.range ls.length).map fun i => b ^ i).reverse) (l :: ls) = hv ((l + s) :: ls.map (· + s)) b
    rw [hv_cons, List.length_map, ← wsum_high s b ls]
    rfl
theorem mark_wsum {y : Sty} {b N : Int} (ls : List Int) : ∃ k, mark y b N ls = ld y * b ^ ls.length + wsum y.shift (wts b N y.low ls.length) ls + N * k := by
  have e0 : ((List.range ls.length).map fun i => b ^ i % N) = ((List.range ls.length).map fun i => b ^ i).map (· % N) := by rw [List.map_map]; rfl
  have key : ∃ k, wsum y.shift (wts b N y.low ls.length) ls = hv (if y.low then (ls.map (· + y.shift)).reverse else ls.map (· + y.shift)) b + N * k := by
    unfold wts
    cases y.low with
    | true =>
      obtain ⟨k, hk⟩ := wsum_mod y.shift N ((List.range ls.length).map fun i => b ^ i) ls
      refine ⟨k, ?_⟩
      rw [if_pos rfl, if_pos rfl, e0, hk]
      congr 1
      have h := wsum_high y.shift b ls.reverse
      rw [List.length_reverse] at h
      rw [← wsum_rev y.shift (ws := (List.range ls.length).map fun i => b ^ i) (ls := ls) (by simp), h, List.map_reverse]
    | false =>
      obtain ⟨k, hk⟩ := wsum_mod y.shift N ((List.range ls.length).map fun i => b ^ i).reverse ls
      refine ⟨k, ?_⟩
      rw [if_neg (by decide), if_neg (by decide), e0, ← List.map_reverse, hk, wsum_high]
  obtain ⟨k, hk⟩ := key
  have e1 : mark y b N ls = hv (hf y ls) b % N := rest_hv _ _ _
  have e2 : hv (hf y ls) b = ld y * b ^ ls.length + hv (if y.low then (ls.map (· + y.shift)).reverse else ls.map (· + y.shift)) b := by
    unfold hf
    rw [hv_cons]
    congr 2
    cases y.low <;> simp
  have e3 := Int.mul_ediv_add_emod (hv (hf y ls) b) N
  refine ⟨-(hv (hf y ls) b / N) - k, ?_⟩
  rw [e1, hk, Int.mul_sub, Int.mul_neg]
  omega
/-- the letters lead from z to a multiple of N -/
structure Gd (N : Int) (A : Nat) (s : Int) (ws : List Int) (z : Int) (ts : List Int) : Prop where
  len : ts.length = ws.length
  let' : ∀ t ∈ ts, 0 ≤ t ∧ t < A
  sum : (z - wsum s ws ts) % N = 0
noncomputable def Rk (N : Int) (A : Nat) (s : Int) : List Int → Int → List Int → Int
  | w :: ws, z, l :: ls => (sig l.toNat fun i => Gw N A s ws (z - ((i : Int) + s) * w)) + Rk N A s ws (z - (l + s) * w) ls
  | _, _, _ => 0
theorem sig_mono {f : Nat → Int} (h : ∀ i, 0 ≤ f i) : ∀ {m n : Nat}, m ≤ n → sig m f ≤ sig n f
  | m, n, e => by
    induction n with
    | zero => rw [show m = 0 by omega]; exact Int.le_refl _
    | succ n ih =>
      by_cases c : m = n + 1
      · rw [c]; exact Int.le_refl _
      · rw [sig]
        have := ih (by omega)
        have := h n
        omega
section
variable {N s : Int} {A : Nat}
theorem Gd.tail {w l z : Int} {ws ls : List Int} (g : Gd N A s (w :: ws) z (l :: ls)) : Gd N A s ws (z - (l + s) * w) ls := by
  refine ⟨by simpa using g.len, fun t ht => g.let' t (List.mem_cons_of_mem _ ht), ?_⟩
  have := g.sum
  rw [wsum] at this
  rwa [show z - (l + s) * w - wsum s ws ls = z - ((l + s) * w + wsum s ws ls) by omega]
theorem Gd.cons {w l z : Int} {ws ls : List Int} (h0 : 0 ≤ l) (h1 : l < A) (g : Gd N A s ws (z - (l + s) * w) ls) : Gd N A s (w :: ws) z (l :: ls) := by
  refine ⟨by simpa using g.len, fun t ht => ?_, ?_⟩
  · rcases List.mem_cons.mp ht with e | e
    · rw [e]; exact ⟨h0, h1⟩
    · exact g.let' t e
  · have := g.sum
    rw [wsum]
    rwa [show z - ((l + s) * w + wsum s ws ls) = z - (l + s) * w - wsum s ws ls by omega]
theorem Rk_lt : ∀ {ws : List Int} {z : Int} {ts : List Int}, Gd N A s ws z ts → 0 ≤ Rk N A s ws z ts ∧ Rk N A s ws z ts < Gw N A s ws z
  | [], z, ts, g => by
    have h := g.sum
    rw [show wsum s [] ts = 0 by simp [wsum], Int.sub_zero] at h
    rw [show Rk N A s [] z ts = 0 by simp [Rk], Gw, chi, if_pos h]
    decide
  | w :: ws, z, [], g => by have := g.len; simp at this
  | w :: ws, z, l :: ls, g => by
    obtain ⟨l0, l1⟩ := g.let' l (List.mem_cons_self ..)
    obtain ⟨h1, h2⟩ := Rk_lt g.tail
    have hn : ∀ i : Nat, 0 ≤ (fun i : Nat => Gw N A s ws (z - ((i : Int) + s) * w)) i := fun i => Gw_nonneg _ _
    have h3 := sig_nonneg (n := l.toNat) fun i _ => hn i
    have h4 := sig_mono hn (show l.toNat + 1 ≤ A by omega)
    rw [sig] at h4
    try dsimp only at h4
    try dsimp only at h3
    rw [Int.toNat_of_nonneg l0] at h4
    rw [Rk, Gw]
    omega
theorem Rk_mono : ∀ {ws : List Int} {z : Int} {ts us : List Int}, Gd N A s ws z ts → Gd N A s ws z us → HT.lexLt ts us = true → Rk N A s ws z ts < Rk N A s ws z us
  | [], z, ts, us, g, g', h => by
    have e1 : ts = [] := List.length_eq_zero_iff.mp g.len
    have e2 : us = [] := List.length_eq_zero_iff.mp g'.len
    rw [e1, e2] at h
    exact absurd h (by decide)
  | w :: ws, z, [], us, g, _, _ => by have := g.len; simp at this
  | w :: ws, z, _ :: _, [], _, g', _ => by have := g'.len; simp at this
  | w :: ws, z, l :: ls, m :: ms, g, g', h => by
    obtain ⟨l0, l1⟩ := g.let' l (List.mem_cons_self ..)
    obtain ⟨m0, m1⟩ := g'.let' m (List.mem_cons_self ..)
    rw [HT.lexLt] at h
    by_cases e : l = m
    · subst e
      rw [if_pos rfl] at h
      have := Rk_mono g.tail g'.tail h
      rw [Rk, Rk]
      omega
    · rw [if_neg e] at h
      have h := of_decide_eq_true h
      obtain ⟨h1, h2⟩ := Rk_lt g.tail
      obtain ⟨h3, h4⟩ := Rk_lt g'.tail
      have hn : ∀ i : Nat, 0 ≤ (fun i : Nat => Gw N A s ws (z - ((i : Int) + s) * w)) i := fun i => Gw_nonneg _ _
      have h5 := sig_mono hn (show l.toNat + 1 ≤ m.toNat by omega)
      rw [sig] at h5
      try dsimp only at h5
      rw [Int.toNat_of_nonneg l0] at h5
      rw [Rk, Rk]
      omega
end
theorem lex_tot : ∀ {ts us : List Int}, ts.length = us.length → ts ≠ us → HT.lexLt ts us = true ∨ HT.lexLt us ts = true
  | [], [], _, h => absurd rfl h
  | l :: ls, m :: ms, e, h => by
    rw [HT.lexLt, HT.lexLt]
    by_cases c : l = m
    · subst c
      rw [if_pos rfl, if_pos rfl]
      exact lex_tot (by simpa using e) fun z => h (by rw [z])
    · rw [if_neg c, if_neg (fun z => c z.symm)]
      by_cases d : l < m
      · exact .inl (decide_eq_true d)
      · exact .inr (decide_eq_true (by omega))
section
variable {N s : Int} {A : Nat}
theorem Rk_inj {ws : List Int} {z : Int} {ts us : List Int} (g : Gd N A s ws z ts) (g' : Gd N A s ws z us) (h : Rk N A s ws z ts = Rk N A s ws z us) : ts = us := by
  refine Classical.byContradiction fun c => ?_
  rcases lex_tot (g.len.trans g'.len.symm) c with e | e
  · have := Rk_mono g g' e
    omega
  · have := Rk_mono g' g e
    omega
theorem Rk_per : ∀ (ws : List Int) (z k : Int) (ts : List Int), Rk N A s ws (z + N * k) ts = Rk N A s ws z ts
  | [], _, _, _ => by simp [Rk]
  | _ :: _, _, _, [] => by simp [Rk]
  | w :: ws, z, k, l :: ls => by
    rw [Rk, Rk, show z + N * k - (l + s) * w = z - (l + s) * w + N * k by omega, Rk_per ws]
    congr 1
    refine sig_congr fun i _ => ?_
    rw [show z + N * k - ((i : Int) + s) * w = z - ((i : Int) + s) * w + N * k by omega]
    exact (Gw_per ws).mul _ _
theorem Gd.move {ws : List Int} {z : Int} {ts : List Int} (g : Gd N A s ws z ts) (k : Int) : Gd N A s ws (z + N * k) ts := by
  refine ⟨g.len, g.let', ?_⟩
  rw [show z + N * k - wsum s ws ts = z - wsum s ws ts + N * k by omega, Int.add_mul_emod_self_left]
  exact g.sum
/-- the marks of the texts that are counted -/
theorem gd_mark {y : Sty} {b m : Int} {ts : List Int} (hm : 0 ≤ m ∧ m < N) (hl : ∀ t ∈ ts, 0 ≤ t ∧ t < A) : Gd N A y.shift (wts b N y.low ts.length) (m - ld y * b ^ ts.length) ts ↔ mark y b N ts = m := by
  obtain ⟨k, hk⟩ := mark_wsum (y := y) (b := b) (N := N) ts
  have hr := rest_range (b := b) (show 0 < N by omega) (hf y ts)
  have hr : 0 ≤ mark y b N ts ∧ mark y b N ts < N := hr
  constructor
  · intro g
    have h := g.sum
    have e : m - ld y * b ^ ts.length - wsum y.shift (wts b N y.low ts.length) ts = m - mark y b N ts + N * k := by omega
    rw [e, Int.add_mul_emod_self_left] at h
    have h2 := (Int.emod_eq_emod_iff_emod_sub_eq_zero).mpr h
    rw [Int.emod_eq_of_lt hm.1 hm.2, Int.emod_eq_of_lt hr.1 hr.2] at h2
    exact h2.symm
  · intro e
    refine ⟨(wts_len ..).symm, hl, ?_⟩
    rw [show m - ld y * b ^ ts.length - wsum y.shift (wts b N y.low ts.length) ts = 0 + N * k by omega, Int.add_mul_emod_self_left, Int.zero_emod]
end
end Bc
namespace Bc
open PySem PySem.Spec PyProof.Rows L2
structure Ks (K : PySem.W.Frag) (mg : Str → Option Value) (Cs : Addr) : Prop where
  cl : ClsF K Cs
  mgS : mg "Sorted" = some (.ref Cs)
  way : NoAttr K Cs "way"
  stock : NoAttr K Cs "stock"
  scales : NoAttr K Cs "scales"
  lead : NoAttr K Cs "lead"
  counts : NoAttr K Cs "counts"
noncomputable def srF (x : Addr) (A : Int) (sc : Addr) (L : Int) (ct : Addr) : List (Str × V) := [("way", .ref x), ("stock", .int A), ("scales", .ref sc), ("lead", .int L), ("counts", .ref ct)]
section
variable {x sc ct : Addr} {A L : Int}
theorem sr_way : (srF x A sc L ct).lookup ("way" : Str) = some (.ref x) := lk0
theorem sr_stock : (srF x A sc L ct).lookup ("stock" : Str) = some (.int A) := (lkS (by decide +kernel)).trans lk0
theorem sr_scales : (srF x A sc L ct).lookup ("scales" : Str) = some (.ref sc) := (lkS (by decide +kernel)).trans ((lkS (by decide +kernel)).trans lk0)
theorem sr_lead : (srF x A sc L ct).lookup ("lead" : Str) = some (.int L) := (lkS (by decide +kernel)).trans ((lkS (by decide +kernel)).trans ((lkS (by decide +kernel)).trans lk0))
theorem sr_counts : (srF x A sc L ct).lookup ("counts" : Str) = some (.ref ct) := (lkS (by decide +kernel)).trans ((lkS (by decide +kernel)).trans ((lkS (by decide +kernel)).trans ((lkS (by decide +kernel)).trans lk0)))
theorem sr_no {m : Str} (h1 : m ≠ ("way" : Str)) (h2 : m ≠ ("stock" : Str)) (h3 : m ≠ ("scales" : Str)) (h4 : m ≠ ("lead" : Str)) (h5 : m ≠ ("counts" : Str)) : (srF x A sc L ct).lookup m = none := (lkS h1).trans ((lkS h2).trans ((lkS h3).trans ((lkS h4).trans ((lkS h5).trans rfl))))
theorem sr_put {ct' : Addr} : putF ("counts" : Str) (.ref ct') (srF x A sc L ct) = srF x A sc L ct' := by
  unfold srF
  rw [putS (by decide +kernel), putS (by decide +kernel), putS (by decide +kernel), putS (by decide +kernel)]
  congr 4
end
/-- a row of counts -/
noncomputable def RowAt (N : Int) (A : Nat) (s : Int) (H : Hp) (ws : List Int) (p : Addr) : Prop := ∃ xs : List Int, H p = some (.lst (xs.map V.int)) ∧ xs.length = N.toNat ∧ ∀ i, i < N.toNat → xs.getD i 0 = Gw N A s ws i
theorem RowAt.same {N s : Int} {A : Nat} {H H' : Hp} {ws : List Int} {p : Addr} (h : RowAt N A s H ws p) (e : Same H H') : RowAt N A s H' ws p := by
  obtain ⟨xs, h1, h2⟩ := h
  exact ⟨xs, e _ _ h1, h2⟩
theorem ints_refs {xs : List Int} {cs : List Addr} (h : cs ≠ []) : xs.map V.int ≠ cs.map V.ref := fun e => by
  cases cs with
  | nil => exact h rfl
  | cons c r =>
    cases xs with
    | nil => cases e
    | cons x t =>
      rw [List.map_cons, List.map_cons] at e
      injection e with e1
      cases e1
theorem lst_ne {H : Hp} {p q : Addr} {xs : List Int} {cs : List Addr} (h : cs ≠ []) (h1 : H p = some (.lst (xs.map V.int))) (h2 : H q = some (.lst (cs.map V.ref))) : p ≠ q := fun e => by
  rw [e, h2] at h1
  have := Option.some.inj h1
  injection this with this
  exact ints_refs h this.symm
theorem RowAt.up {N s : Int} {A : Nat} {H : Hp} {ws : List Int} {p q : Addr} {cs : List Addr} {o : HO} (h : RowAt N A s H ws p) (hc : cs ≠ []) (hq : H q = some (.lst (cs.map V.ref))) : RowAt N A s (upd H q o) ws p := by
  obtain ⟨xs, h1, h2⟩ := h
  exact ⟨xs, by rw [upd_ne (lst_ne hc h1 hq)]; exact h1, h2⟩
theorem RowAt.ins {N s : Int} {A : Nat} {H : Hp} {ws : List Int} {p q C dx : Addr} {fs : List (Str × V)} {o : HO} (h : RowAt N A s H ws p) (hq : H q = some (.ins C dx fs)) : RowAt N A s (upd H q o) ws p := by
  obtain ⟨xs, h1, h2⟩ := h
  exact ⟨xs, by rw [upd_ne (fun e => by rw [e, hq] at h1; cases h1)]; exact h1, h2⟩
theorem WayAt.out {c : CA} {H : Hp} {o C dx x : Addr} {b : Int} {ps : List (Int × Int)} {y : Sty} (h : WayAt c H x b ps y) (ho : H o = some (.ins C dx [])) : WayAt c (Bc.rm o H) x b ps y := by
  obtain ⟨d, m, k, h1, ⟨dm, t, ts, h2, h3, h4, h5⟩, ⟨dk, h6⟩, h7⟩ := h
  have ni : ∀ {a C' d' : Addr} {f : Str} {v : V} {r : List (Str × V)}, H a = some (.ins C' d' ((f, v) :: r)) → a ≠ o := fun {a C' d' f v r} e z => by
    rw [z, ho] at e
    have := Option.some.inj e
    injection this with _ _ w
    cases w
  have nt : ∀ {a : Addr} {xs : List V}, H a = some (.tup xs) → a ≠ o := fun {a xs} e z => by rw [z, ho] at e; cases e
  exact ⟨d, m, k, rm_of (ni h1) h1, ⟨dm, t, ts, rm_of (ni h2) h2, rm_of (nt h3) h3, paired_imp (fun _ _ z => rm_of (nt z) z) h4, h5⟩, ⟨dk, rm_of (ni h6) h6⟩, h7⟩
/-- a Sorted of a way -/
noncomputable def SrAt (c : CA) (Cs : Addr) (H : Hp) (o x : Addr) (A : Int) (n : Nat) (b : Int) (ps : List (Int × Int)) (y : Sty) : Prop := ∃ (dx sc ct : Addr) (cs : List Addr) (k : Int), H o = some (.ins Cs dx (srF x A sc (ld y * b ^ n + num ps * k) ct)) ∧ WayAt c H x b ps y ∧ H sc = some (.lst ((wts b (num ps) y.low n).map V.int)) ∧ H ct = some (.lst (cs.map V.ref)) ∧ cs.length = n + 1 ∧
  ∀ (i : Nat) (p : Addr), cs[i]? = some p → RowAt (num ps) A.toNat y.shift H ((wts b (num ps) y.low n).drop i) p
theorem SrAt.same {c : CA} {Cs : Addr} {H H' : Hp} {o x : Addr} {A : Int} {n : Nat} {b : Int} {ps : List (Int × Int)} {y : Sty} (h : SrAt c Cs H o x A n b ps y) (e : Same H H') : SrAt c Cs H' o x A n b ps y := by
  obtain ⟨dx, sc, ct, cs, k, h1, h2, h3, h4, h5, h6⟩ := h
  exact ⟨dx, sc, ct, cs, k, e _ _ h1, h2.same e, e _ _ h3, e _ _ h4, h5, fun i p z => (h6 i p z).same e⟩
noncomputable def spWts (c : CA) : Sp := fun vs H Q _ => ∃ (x : Addr) (n : Nat) (b : Int) (ps : List (Int × Int)) (y : Sty), vs = [.ref x, .int n] ∧ WayAt c H x b ps y ∧ num ps ≤ 2000 ∧ n ≤ 1000 ∧ ∀ H' l, Same H H' → H' l = some (.lst ((wts b (num ps) y.low n).map V.int)) → Q (.ref l) H'
noncomputable def spSummand (c : CA) (Cs : Addr) : Sp := fun vs H Q _ => ∃ (o dx x : Addr) (fs : List (Str × V)) (w l b : Int) (ps : List (Int × Int)) (y : Sty), vs = [.ref o, .int w, .int l] ∧ H o = some (.ins Cs dx fs) ∧ fs.lookup ("way" : Str) = some (.ref x) ∧ WayAt c H x b ps y ∧ num ps ≤ 2000 ∧ 0 ≤ w ∧ w < num ps ∧ Q (.int ((l + y.shift) * w % num ps)) H
noncomputable def spAhead (c : CA) (Cs : Addr) : Sp := fun vs H Q _ => ∃ (o dx x p : Addr) (fs : List (Str × V)) (w A b : Int) (ps : List (Int × Int)) (y : Sty) (ws : List Int), vs = [.ref o, .int w, .ref p] ∧ H o = some (.ins Cs dx fs) ∧ fs.lookup ("way" : Str) = some (.ref x) ∧ fs.lookup ("stock" : Str) = some (.int A) ∧ fs.lookup ("summand" : Str) = none ∧ WayAt c H x b ps y ∧ num ps ≤ 2000 ∧ 1 ≤ A ∧ A ≤ 1000 ∧ 0 ≤ w ∧ w < num ps ∧ RowAt (num ps) A.toNat y.shift H ws p ∧
  ∀ H' l, H l = none → Same H H' → RowAt (num ps) A.toNat y.shift H' (w :: ws) l → Q (.ref l) H'
noncomputable def spSrInit (c : CA) (Cs : Addr) : Sp := fun vs H Q _ => ∃ (o dx x : Addr) (A b : Int) (n : Nat) (ps : List (Int × Int)) (y : Sty), vs = [.ref o, .ref x, .int A, .int n] ∧ H o = some (.ins Cs dx []) ∧ WayAt c H x b ps y ∧ num ps ≤ 2000 ∧ 1 ≤ A ∧ A ≤ 1000 ∧ n ≤ 1000 ∧
  ∀ H', (∀ b o', b ≠ o → H b = some o' → H' b = some o') → SrAt c Cs H' o x A n b ps y → Q .non H'
theorem use_sr {c : CA} {Cs : Addr} {H : Hp} {PP : Addr → Hp → Prop} {E : XK} {x : Addr} {A b : Int} {n : Nat} {ps : List (Int × Int)} {y : Sty} (hw : WayAt c H x b ps y) (hN : num ps ≤ 2000) (A1 : 1 ≤ A) (A2 : A ≤ 1000) (hn : n ≤ 1000) (q : ∀ o H', H o = none → Same H H' → SrAt c Cs H' o x A n b ps y → PP o H') :
    ∀ o dx, H o = none → H dx = none → dx ≠ o → spSrInit c Cs [.ref o, .ref x, .int A, .int n] (upd (upd H dx (.own o)) o (.ins Cs dx [])) (fun v H2 => v = .non ∧ PP o H2) E := fun o dx nx nd ne => by
  have up : Same H (upd (upd H dx (.own o)) o (.ins Cs dx [])) := fun b o' e => by rw [upd_ne (ne_of_none e nx), upd_ne (ne_of_none e nd)]; exact e
  exact ⟨o, dx, x, A, b, n, ps, y, rfl, upd_same, hw.same up, hN, A1, A2, hn, fun H' k h => ⟨rfl, q o H' nx (mk_same nx nd k) h⟩⟩
noncomputable def spTextAt (c : CA) (Cs : Addr) : Sp := fun vs H Q _ => ∃ (o x : Addr) (m k A b : Int) (n : Nat) (ps : List (Int × Int)) (y : Sty), vs = [.ref o, .int m, .int k] ∧ SrAt c Cs H o x A n b ps y ∧ num ps ≤ 2000 ∧ 1 ≤ A ∧ A ≤ 1000 ∧ n ≤ 1000 ∧ 0 ≤ k ∧ k < Gw (num ps) A.toNat y.shift (wts b (num ps) y.low n) (m - ld y * b ^ n) ∧
  ∀ H' p ts, H p = none → Same H H' → H' p = some (.tup (ts.map V.int)) → Gd (num ps) A.toNat y.shift (wts b (num ps) y.low n) (m - ld y * b ^ n) ts → Rk (num ps) A.toNat y.shift (wts b (num ps) y.low n) (m - ld y * b ^ n) ts = k → Q (.ref p) H'
noncomputable def spNumM (c : CA) (Cs : Addr) : Sp := fun vs H Q _ => ∃ (o x p : Addr) (A b : Int) (ts : List Int) (ps : List (Int × Int)) (y : Sty), vs = [.ref o, .ref p] ∧ SrAt c Cs H o x A ts.length b ps y ∧ num ps ≤ 2000 ∧ 1 ≤ A ∧ A ≤ 1000 ∧ ts.length ≤ 1000 ∧ H p = some (.tup (ts.map V.int)) ∧ (∀ t ∈ ts, 0 ≤ t ∧ t < A) ∧
  ∀ H', Same H H' → Q (.int (Rk (num ps) A.toNat y.shift (wts b (num ps) y.low ts.length) (mark y b (num ps) ts - ld y * b ^ ts.length) ts)) H'
noncomputable def spCountM (c : CA) : Sp := fun vs H Q _ => ∃ (x : Addr) (A m b : Int) (n : Nat) (ps : List (Int × Int)) (y : Sty), vs = [.ref x, .int A, .int n, .int m] ∧ WayAt c H x b ps y ∧ num ps ≤ 2000 ∧ 1 ≤ A ∧ A ≤ 1000 ∧ n ≤ 1000 ∧ 0 ≤ m ∧ m < num ps ∧ ∀ H', Same H H' → Q (.int ((cnt (num ps) b y.shift (ld y) A.toNat n).getD m.toNat 0)) H'
/-- the text with the number k among those with the mark m -/
noncomputable def NthT (N : Int) (A : Nat) (y : Sty) (b : Int) (n : Nat) (m k : Int) (ts : List Int) : Prop := Gd N A y.shift (wts b N y.low n) (m - ld y * b ^ n) ts ∧ Rk N A y.shift (wts b N y.low n) (m - ld y * b ^ n) ts = k
noncomputable def spMarkedT (c : CA) : Sp := fun vs H Q _ => ∃ (x : Addr) (A m k b : Int) (n : Nat) (ps : List (Int × Int)) (y : Sty), vs = [.ref x, .int A, .int n, .int m, .int k] ∧ WayAt c H x b ps y ∧ num ps ≤ 2000 ∧ 1 ≤ A ∧ A ≤ 1000 ∧ n ≤ 1000 ∧ 0 ≤ m ∧ m < num ps ∧ 0 ≤ k ∧ k < (cnt (num ps) b y.shift (ld y) A.toNat n).getD m.toNat 0 ∧
  ∀ H' p ts, H p = none → Same H H' → H' p = some (.tup (ts.map V.int)) → NthT (num ps) A.toNat y b n m k ts → Q (.ref p) H'
noncomputable def spNumberOf (c : CA) : Sp := fun vs H Q _ => ∃ (x : Addr) (v : V) (A b : Int) (ts : List Int) (ps : List (Int × Int)) (y : Sty), vs = [.ref x, .int A, v] ∧ WayAt c H x b ps y ∧ num ps ≤ 2000 ∧ 1 ≤ A ∧ A ≤ 1000 ∧ TextAt H v ts ∧ ts.length ≤ 1000 ∧ (∀ t ∈ ts, 0 ≤ t ∧ t < A) ∧
  ∀ H', Same H H' → Q (.int (Rk (num ps) A.toNat y.shift (wts b (num ps) y.low ts.length) (mark y b (num ps) ts - ld y * b ^ ts.length) ts)) H'
/-- where a sum over the rests below N picks one -/
theorem sig_row {N : Int} (hN : 0 < N) (xs : List Int) (d : Int) {x : Nat} (hx : x < N.toNat) : (sig N.toNat fun i => if (((i : Int) + d) % N).toNat = x then xs.getD i 0 else 0) = xs.getD (((x : Int) - d) % N).toNat 0 := by
  have h1 := Int.emod_nonneg ((x : Int) - d) (show N ≠ 0 by omega)
  have h2 := Int.emod_lt_of_pos ((x : Int) - d) hN
  rw [sig_congr (g := fun i => if i = (((x : Int) - d) % N).toNat then xs.getD i 0 else 0) fun i hi => ?_, sig_pick (fun i => xs.getD i 0), if_pos (by omega)]
  have e : (((i : Int) + d) % N).toNat = x ↔ i = (((x : Int) - d) % N).toNat := by
    have h3 := Int.emod_nonneg ((i : Int) + d) (show N ≠ 0 by omega)
    have h4 := Int.emod_lt_of_pos ((i : Int) + d) hN
    have a1 := Int.mul_ediv_add_emod ((i : Int) + d) N
    have a2 := Int.mul_ediv_add_emod ((x : Int) - d) N
    constructor
    · intro z
      have z : ((i : Int) + d) % N = x := by omega
      have : ((x : Int) - d) % N = (i : Int) % N := by
        rw [show (x : Int) - d = i + N * (-(((i : Int) + d) / N)) by rw [Int.mul_neg]; omega, Int.add_mul_emod_self_left]
      rw [this, Int.emod_eq_of_lt (by omega) (by omega)]
      omega
    · intro z
      have z : (i : Int) = ((x : Int) - d) % N := by omega
      have : ((i : Int) + d) % N = (x : Int) % N := by
        rw [show (i : Int) + d = x + N * (-(((x : Int) - d) / N)) by rw [Int.mul_neg]; omega, Int.add_mul_emod_self_left]
      rw [this, Int.emod_eq_of_lt (by omega) (by omega)]
      omega
  by_cases c : (((i : Int) + d) % N).toNat = x
  · rw [if_pos c, if_pos (e.mp c)]
  · rw [if_neg c, if_neg fun z => c (e.mpr z)]
theorem sub_mod (z t N : Int) : (z - t % N) % N = (z - t) % N := by
  have := Int.mul_ediv_add_emod t N
  rw [show z - t % N = z - t + N * (t / N) by omega, Int.add_mul_emod_self_left]
theorem row_read {N s : Int} {A : Nat} {H : Hp} {ws : List Int} {p : Addr} {K : PySem.W.Frag} {z : Int} {Q : VK} (hN : 0 < N) (h : RowAt N A s H ws p) (q : Q (.int (Gw N A s ws z)) H) : rIxL K (.ref p) (.int (z % N)) H Q := by
  obtain ⟨xs, h1, h2, h3⟩ := h
  have h4 := Int.emod_nonneg z (show N ≠ 0 by omega)
  have h5 := ix_lt hN z
  refine w_ixL (xs := xs.map V.int) (sq h1) (atI_map (x := xs.getD (z % N).toNat 0) h4 ?_) ?_
  · rw [List.getD_eq_getElem?_getD, List.getElem?_eq_getElem (by omega)]
    rfl
  · rw [h3 _ h5, Int.toNat_of_nonneg h4, per_mod (Gw_per ws)]
    exact q
end Bc
namespace Bc
open PySem PySem.Spec PyProof.Rows L2
section
open PySem.SeqAt
noncomputable abbrev zt1 (h : Heap) (a : Addr) : Heap := h.push { cls := .type "tuple_iterator", data := .fields #[.ref a, .int 0 0] }
noncomputable abbrev zt2 (h : Heap) (a b : Addr) : Heap := (zt1 h a).push { cls := .type "list_iterator", data := .fields #[.ref b, .int 0 0] }
noncomputable abbrev zt3 (h : Heap) (a b : Addr) : Heap := (zt2 h a b).push { cls := .type "tuple", data := .seq #[.ref h.objs.size, .ref (zt1 h a).objs.size] }
noncomputable abbrev zt4 (h : Heap) (a b : Addr) : Heap := (zt3 h a b).push { cls := .type "tuple", data := .seq #[.none, .none] }
noncomputable abbrev zt5 (h : Heap) (a b : Addr) : Heap := (zt4 h a b).push { cls := .type "zip", data := .fields #[.none, .bool false, .bool false, .ref (zt2 h a b).objs.size, .ref (zt3 h a b).objs.size] }
theorem zt_new (a b : Addr) (xs ys : Array Value) : Meets (Builtin.«zip.__new__» ⟨[.type "zip", .ref a, .ref b], []⟩) (fun _ R s => s.heap.IsTuple a xs ∧ s.heap.IsList b ys ∧ R (.ok (.ret (.ref (zt4 s.heap a b).objs.size))) { s with heap := zt5 s.heap a b }) :=
  .of_wp fun prog w A R s hh => by
    obtain ⟨hp, g, d, tk, os⟩ := s
    obtain ⟨ha, hb, hh⟩ := hh
    have zs := sub_zip
    have za : Heap.IsTuple (Shared.heap ⟨hp, g, d, tk, os⟩) a xs := ha
    have zb : Heap.IsList (Shared.heap ⟨hp.push { cls := .type "tuple_iterator", data := .fields #[.ref a, .int 0 0] }, g, d, tk, os⟩) b ys := Heap.IsList.push hb _
    wp_walk using wpAny_pyIter_tuple za, wpAny_pyIter_list zb
    exact ⟨_, rfl, hh⟩
theorem call_zipTL {prog : Program} {w : World} {A : Around} {E : Value → Shared → Prop} {s : Shared} {a b : Addr} {xs ys : Array Value} {Q : Value → Shared → Prop} (ha : s.heap.IsTuple a xs) (hb : s.heap.IsList b ys)
    (q : ∀ h', IsZip h' (s.heap.objs.size + 4) (s.heap.objs.size + 2) (s.heap.objs.size + 3) .none → IsPair h' (s.heap.objs.size + 2) (.ref s.heap.objs.size) (.ref (s.heap.objs.size + 1)) → IsPair h' (s.heap.objs.size + 3) .none .none →
      h'.IsTupleIter s.heap.objs.size a 0 → h'.IsListIter (s.heap.objs.size + 1) b 0 → (∀ c o, s.heap.get? c = some o → h'.get? c = some o) → Q (.ref (s.heap.objs.size + 4)) { s with heap := h' }) : wpAny (model prog w) A (call (.type "zip") [.ref a, .ref b]) Q E s := by
  refine callType_new F.called_zip (by decide) (F.typeCall_zip_2 _ _) (F.newCall_zip_2 _ _) (fun o => F.args_object_init_3 o _ _) F.entry_zip_new (zt_new a b xs ys) ⟨ha, hb, ?_⟩
  have e1 : (zt1 s.heap a).objs.size = s.heap.objs.size + 1 := Heap.size_push ..
  have e2 : (zt2 s.heap a b).objs.size = s.heap.objs.size + 2 := (Heap.size_push ..).trans (by rw [e1])
  have e3 : (zt3 s.heap a b).objs.size = s.heap.objs.size + 3 := (Heap.size_push ..).trans (by rw [e2])
  have e4 : (zt4 s.heap a b).objs.size = s.heap.objs.size + 4 := (Heap.size_push ..).trans (by rw [e3])
  have up : ∀ {h : Heap} {o o' : Obj} {c : Addr}, h.get? c = some o → (h.push o').get? c = some o := fun e => Heap.get?_push_of_some _ e
  have k1 : (zt5 s.heap a b).get? s.heap.objs.size = some _ := up (up (up (up (Heap.get?_push_size _ rfl))))
  have k2 : (zt5 s.heap a b).get? (zt1 s.heap a).objs.size = some _ := up (up (up (Heap.get?_push_size _ rfl)))
  have k3 : (zt5 s.heap a b).get? (zt2 s.heap a b).objs.size = some _ := up (up (Heap.get?_push_size _ rfl))
  have k4 : (zt5 s.heap a b).get? (zt3 s.heap a b).objs.size = some _ := up (Heap.get?_push_size _ rfl)
  have k5 : (zt5 s.heap a b).get? (zt4 s.heap a b).objs.size = some _ := Heap.get?_push_size _ rfl
  show _ ∧ _
  rw [e2, e3, e4] at k5
  rw [e3] at k4
  rw [e1, e2] at k3
  rw [e1] at k2
  rw [e4]
  refine ⟨⟨_, k5, rfl⟩, q _ k5 k3 k4 ⟨_, k1, rfl, rfl⟩ ⟨_, k2, rfl, rfl⟩ fun c o e => up (up (up (up (up e))))⟩
end
/-- the tuple at a and the list at b, side by side -/
noncomputable def Itq (K : PySem.W.Frag) (a b : Addr) : It :=
  ⟨fun i H => ∃ xs ys x y, SqT K H a xs ∧ SqL K H b ys ∧ xs[i]? = some x ∧ ys[i]? = some y,
   fun i H v H' => ∃ T x y, v = .ref T ∧ H T = none ∧ H' = L2.upd H T (.tup [x, y]) ∧ (∀ zs, SqT K H a zs → zs[i]? = some x) ∧ ∀ zs, SqL K H b zs → zs[i]? = some y,
   fun i H => ∃ xs ys, SqT K H a xs ∧ SqL K H b ys ∧ (i = xs.length ∨ i = ys.length) ∧ i ≤ xs.length ∧ i ≤ ys.length⟩
theorem sepTL {a b z TI TO i1 i2 : Addr} (D : ZipApart z TI TO i1 i2 a b) : ZipSep2 z TI TO i1 i2 [i1, a] [i2, b] := by
  have nin : ∀ {x y u : Addr}, x ≠ y → x ≠ u → x ∉ [y, u] := fun h1 h2 h => by
    rcases List.mem_cons.mp h with e | e
    · exact h1 e
    · exact h2 (List.mem_singleton.mp e)
  exact ⟨D.TIz, D.TOz, D.TITO, D.TIi1, List.mem_cons_self .., nin D.i1z.symm D.l1z.symm, nin D.TOi1 D.l1TO.symm, D.TIi2, List.mem_cons_self .., nin D.i2z.symm D.l2z.symm, nin D.TOi2 D.l2TO.symm, nin D.i12 D.l2i1.symm, nin D.i12.symm D.l1i2.symm⟩
theorem turn_zipTL {P : Program} {w : World} {K : PySem.W.Frag} {elts : List Expr} {kk : Nat} {tpos : Pos} {a b z TI TO i1 i2 : Addr} (D : ZipApart z TI TO i1 i2 a b) :
    Turn P w K (.Tuple elts kk tpos) (Itq K a b) [z, TI, TO, i1, i2] z (fun i h => IsZip h z TI TO .none ∧ IsPair h TI (.ref i1) (.ref i2) ∧ (∃ u v, IsPair h TO u v) ∧ h.IsTupleIter i1 a i ∧ h.IsListIter i2 b i) where
  mem := List.mem_cons_self ..
  obj := fun i h st c hc => by
    obtain ⟨hz, hTI, ⟨u, v, hTO⟩, ⟨o1, e1, _, d1⟩, ⟨o2, e2, _, d2⟩⟩ := st
    have five : c = z ∨ c = TI ∨ c = TO ∨ c = i1 ∨ c = i2 := by simpa using hc
    rcases five with q | q | q | q | q <;> rw [q]
    · exact ⟨_, hz, fun v z => nomatch z⟩
    · exact ⟨_, hTI, fun v z => nomatch z⟩
    · exact ⟨_, hTO, fun v z => nomatch z⟩
    · exact ⟨o1, e1, fun v z => by rw [d1] at z; cases z⟩
    · exact ⟨o2, e2, fun v z => by rw [d2] at z; cases z⟩
  keep := fun i h h' st k => by
    obtain ⟨hz, hTI, ⟨u, v, hTO⟩, h1, h2⟩ := st
    refine ⟨k z (by simp) _ hz, k TI (by simp) _ hTI, ⟨u, v, k TO (by simp) _ hTO⟩, h1.at fun o e => ?_, h2.at fun o e => ?_⟩
    · exact k i1 (by simp) o e
    · exact k i2 (by simp) o e
  item := by
    intro X eP ew eK cm i pins s σ H E I hf st hg
    subst eP ew eK
    obtain ⟨hz, hTI, ⟨u0, v0, hTO⟩, h1, h2⟩ := st
    obtain ⟨xs, ys, x, y, hxs, hys, hx, hy⟩ := hg
    obtain ⟨its, rv, p1, _⟩ := I.tuple hxs
    obtain ⟨jts, rv2, p2, _⟩ := I.list hys
    obtain ⟨u, hu, ru⟩ := rv.get hx
    obtain ⟨v, hv, rv'⟩ := rv2.get hy
    have zlt : z < s.heap.objs.size := Heap.lt_size hz
    have b1 := (List.getElem?_eq_some_iff.mp hu).1
    have b2 := (List.getElem?_eq_some_iff.mp hv).1
    refine wpAny_pyNext_zipD2_item (sepTL D) (Draws.tuple (A := X.A.in1) (I.ok.hd cm) i1 a D.l1i1 its.toArray) (Draws.list (A := X.A.in1) (I.ok.hd cm) i2 b D.l2i2 jts.toArray) hz hTI hTO ⟨h1, p1⟩ ⟨h2, p2.isList⟩ (by simpa using b1) (by simpa using b2) fun w1 w2 h' tk e1 e2 z' TO' st1 st2 hT _ hk => ?_
    have e1 : w1 = u := by
      rw [List.getElem?_toArray, hu] at e1
      exact (Option.some.inj e1).symm
    have e2 : w2 = v := by
      rw [List.getElem?_toArray, hv] at e2
      exact (Option.some.inj e2).symm
    subst e1 e2
    refine ⟨_, rfl, wpAny_letOwnedTupleGo_zip (s := { s with heap := h', toks := tk }) z' fun h'' z'' sb => ?_⟩
    have nT : h''.get? s.heap.objs.size = some { cls := .type "tuple", data := .seq #[w1, w2] } := (sb.2 _ (Nat.ne_of_gt zlt)).trans hT
    have five : ∀ {c : Addr}, c ∉ [z, TI, TO, i1, i2] → c ≠ z ∧ c ≠ TI ∧ c ≠ TO ∧ c ≠ i1 ∧ c ≠ i2 := fun {c} h => by simpa using h
    have I1 : Inv X pins σ (L2.upd H s.heap.objs.size (.tup [x, y])) { s with heap := h'', toks := tk } :=
      I.turnedNew (t' := tk) (ch := [z, TI, TO, i1, i2]) (fun c o hb q => by
        obtain ⟨n1, n2, n3, n4, n5⟩ := five hb
        exact (sb.2 c n1).trans (hk c o n1 n3 n4 n5 q)) hf (Nat.le_refl _) (show ObjOk X.prog X.w _ h'' _ (.tup [x, y]) from ⟨by show 2 ≤ sizeLine; decide, [w1, w2], .cons ru (.cons rv' .nil), ⟨_, nT, rfl, _, rfl⟩⟩)
    refine ⟨.ref s.heap.objs.size, _, I1, rfl, ⟨_, x, y, rfl, I.hok.fresh (Nat.le_refl _), rfl, fun l hl => ?_, fun l hl => ?_⟩, ⟨z'', (sb.2 _ D.TIz).trans (hk _ _ D.TIz D.TITO D.TIi1 D.TIi2 hTI), ⟨w1, w2, (sb.2 _ D.TOz).trans TO'⟩, st1.1.at fun o e => (sb.2 _ D.i1z).trans e, st2.1.at fun o e => (sb.2 _ D.i2z).trans e⟩, fun c hc => ?_⟩
    · rw [I.tuple_inj hl hxs]
      exact hx
    · rw [I.list_inj hl hys]
      exact hy
    · have hne : c < s.heap.objs.size := by
        have five : c = z ∨ c = TI ∨ c = TO ∨ c = i1 ∨ c = i2 := by simpa using hc
        obtain ⟨_, g1, _⟩ := h1
        obtain ⟨_, g2, _⟩ := h2
        rcases five with q | q | q | q | q <;> rw [q]
        · exact zlt
        · exact Heap.lt_size hTI
        · exact Heap.lt_size hTO
        · exact Heap.lt_size g1
        · exact Heap.lt_size g2
      rw [upd_ne (Nat.ne_of_lt hne)]
      exact (hf c hc).1
  done := by
    intro X eP ew eK cm i pins s σ H E I hf st hg
    subst eP ew eK
    obtain ⟨hz, hTI, ⟨u0, v0, hTO⟩, h1, h2⟩ := st
    obtain ⟨xs, ys, hxs, hys, he, hl1, hl2⟩ := hg
    obtain ⟨its, rv, p1, _⟩ := I.tuple hxs
    obtain ⟨jts, rv2, p2, _⟩ := I.list hys
    have z1 := rv.length
    have z2 := rv2.length
    refine wpAny_pyNext_zipD2_end (sepTL D) (Draws.tuple (A := X.A.in1) (I.ok.hd cm) i1 a D.l1i1 its.toArray) (Draws.list (A := X.A.in1) (I.ok.hd cm) i2 b D.l2i2 jts.toArray) hz hTI hTO ⟨h1, p1⟩ ⟨h2, p2.isList⟩ (by simp; omega) (by simp; omega) (by simp; omega) fun h' tk hk => ⟨rfl, I.turnedL (t' := tk) (ch := [z, TI, TO, i1, i2]) (fun c o hb q => ?_) hf⟩
    have n5 : c ≠ z ∧ c ≠ TI ∧ c ≠ TO ∧ c ≠ i1 ∧ c ≠ i2 := by simpa using hb
    exact hk c o n5.1 n5.2.2.1 n5.2.2.2.1 n5.2.2.2.2 q
  self := fun A i s Q E st h => wpAny_pyIter_zip st.1 h
noncomputable def iZipTL (K : PySem.W.Frag) (ta : TA) : TI := fun σ H R => ta σ H fun vs H1 => ∃ a b xs ys, vs = [.ref a, .ref b] ∧ SqT K H1 a xs ∧ SqL K H1 b ys ∧ R (Itq K a b) H1
theorem pi_zipTL {X : Cx} {e e2 : Expr} {ta : TA} {p pos tpos : Pos} {elts : List Expr} {kk : Nat} (hg : Gl X "zip") (hm : X.mg "zip" = none) (ha : PA X [e, e2] ta) (hs : starEach [e, e2] X.env = (false, eval e X.env) :: starEach [e2] X.env := by rfl) (hpl : (backTo pos (starEach [e2] X.env)).any (·.1) = false := by rfl) :
    PI X (.Tuple elts kk tpos) (.Call (.Name "zip" p) [e, e2] [] pos) (iZipTL X.K ta) := by
  refine ⟨fun pins s σ H R I h => Call_ (ld_blt I hg hm PyProof.Rows.boot_zip (PyProof.Rows.callWith_type1 (thn (ha.run pos pins s σ H _ I h) fun us s1 ⟨vs, H1, I1, r1, q1⟩ => ?_) hs hpl))⟩
  obtain ⟨a, b, xs, ys, rfl, hxs, hys, q⟩ := q1
  cases r1 with
  | cons r rr =>
    cases rr with
    | cons r' rr =>
      cases rr
      cases r
      cases r'
      obtain ⟨its, rv, p1, _⟩ := I1.tuple hxs
      obtain ⟨jts, rv2, p2, _⟩ := I1.list hys
      obtain ⟨o2, g2, _⟩ := id p1
      refine call_zipTL p1 p2.isList fun h' hz hTI hTO h1 h2 hk => wpAny_pyIter_zip hz ?_
      refine ⟨s1.heap.objs.size + 4, [s1.heap.objs.size + 4, s1.heap.objs.size + 2, s1.heap.objs.size + 3, s1.heap.objs.size, s1.heap.objs.size + 1], _, _, H1, rfl, I1.kept (t' := s1.toks) hk, turn_zipTL (PySem.W.ktu_apart s1.heap.objs.size a b (Heap.lt_size g2) p2.lt), ⟨hz, hTI, ⟨_, _, hTO⟩, h1, h2⟩, fun c hc => ?_, q⟩
      have le : s1.heap.objs.size ≤ c := by
        have five : c = s1.heap.objs.size + 4 ∨ c = s1.heap.objs.size + 2 ∨ c = s1.heap.objs.size + 3 ∨ c = s1.heap.objs.size ∨ c = s1.heap.objs.size + 1 := by simpa using hc
        rcases five with q | q | q | q | q <;> rw [q]
        · exact Nat.le_add_right _ _
        · exact Nat.le_add_right _ _
        · exact Nat.le_add_right _ _
        · exact Nat.le_refl _
        · exact Nat.le_add_right _ _
      exact I1.fpOk le (I1.hok.fresh le)
/-- of one length -/
theorem walk_zipTL {K : PySem.W.Frag} {a b : Addr} {xs ys : List V} (hn : xs.length = ys.length) : Walk (Itq K a b) xs.length (fun H => SqT K H a xs ∧ SqL K H b ys) (YPair (fun i => xs[i]?) (fun i => ys[i]?)) := by
  refine ⟨fun i _ hi q => ⟨xs, ys, xs[i], ys[i], q.1, q.2, List.getElem?_eq_getElem hi, List.getElem?_eq_getElem (by omega)⟩, fun _ q => ⟨xs, ys, q.1, q.2, .inl rfl, Nat.le_refl _, by omega⟩, fun i H v H' _ q y => ?_⟩
  obtain ⟨T, x, z, e1, e2, e3, e4, e5⟩ := y
  exact ⟨T, x, z, e1, e2, e3, e4 xs q.1, e5 ys q.2⟩
end Bc
namespace Bc
open PySem PySem.Spec PyProof.Rows L2
section
variable {J : It} {G : Hp → Prop} {te : TE} {vs : List Nat} {σ : L2.St} {H : Hp} {D : Addr} {Qd : Hp → Prop} {j : Nat}
/-- what is made of each item, by a relation that new things leave alone -/
theorem lc_rel (xs : List V) (R : V → V → Hp → Prop) (mono : ∀ x y G G', Same G G' → R x y G → R x y G') (w : Walk J xs.length G (YAt xs)) (hD : H D = none) (hG : ∀ H', Same H H' → G H') (sz : xs.length ≤ 100000)
    (wp : ∀ v, wipe ((wipe σ vs).set j v) vs = wipe σ vs)
    (step : ∀ (i : Nat) (x : V) (H' : Hp), xs[i]? = some x → Same H H' → (∃ acc, H' D = some (.lst acc)) → ∀ Q' : VK, (∀ (y : V) (H'' : Hp), Same H' H'' → R x y (rm D H'') → Q' y H'') → te ((wipe σ vs).set j (some x)) H' Q')
    (q : ∀ (H' : Hp) (ys : List V), Same H H' → H' D = some (.lst ys) → Paired (fun x y => R x y H') xs ys → Qd H') :
    ∃ W : Nat → Nat → Hp → Prop, (∃ m, W 0 m (upd H D (.lst []))) ∧ ∀ i m H, W i m H →
      (J.stop i H ∧ Qd H) ∨ (J.go i H ∧ ∃ Nx : Hp → Prop, (∀ H', Nx H' → ∃ m', m' < m ∧ W (i + 1) m' H') ∧ ∀ x H', J.yld i H x H' → gName j x (wipe σ vs) H' fun σ2 H2 => wipe σ2 vs = wipe σ vs ∧ tYes σ2 H2 fun b H3 =>
        if b = true then te σ2 H3 fun y H4 => ∃ acc, H4 D = some (.lst acc) ∧ acc.length < sizeLine ∧ Nx (upd H4 D (.lst (acc ++ [y]))) else Nx H3) := by
  refine lc_it w (fun i H' => ∃ ys : List V, Same H (rm D H') ∧ H' D = some (.lst ys) ∧ Paired (fun x y => R x y (rm D H')) (xs.take i) ys) ⟨[], ?_, upd_same, .nil⟩ (fun i H' _ h => by obtain ⟨_, k, _⟩ := h; exact hG H' (k.trans rm_le)) ?_ ?_
  · rw [rm_updS]
    exact rm_in hD (Same.refl _)
  · rintro i x H1 H' hi ⟨ys, h1, h3, h4⟩ ⟨rfl, hx⟩
    refine ⟨wp _, w_yes ?_⟩
    rw [if_pos rfl]
    have el := h4.length
    rw [List.length_take] at el
    refine step i x H' hx (h1.trans rm_le) ⟨_, h3⟩ _ fun y H2 s2 r => ?_
    have e : xs[i] = x := by rw [List.getElem?_eq_getElem hi] at hx; exact Option.some.inj hx
    refine ⟨ys, s2 _ _ h3, ?_, ys ++ [y], ?_, upd_same, ?_⟩
    · have : (100000 : Nat) < sizeLine := by decide
      omega
    · rw [rm_updS]
      exact h1.trans s2.rm
    · rw [rm_updS, List.take_succ_eq_append_getElem hi, e]
      exact Paired.snoc (paired_imp (fun _ _ z => mono _ _ _ _ s2.rm z) h4) r
  · rintro H' ⟨ys, h1, h3, h4⟩
    rw [List.take_length] at h4
    exact q H' ys (h1.trans rm_le) h3 (paired_imp (fun _ _ z => mono _ _ _ _ rm_le z) h4)
end
end Bc
namespace Bc
open PySem PySem.Spec PyProof.Rows L2
structure KSc (K : PySem.W.Frag) (mg : Str → Option Value) (Cq : Addr) : Prop where
  cl : ClsF K Cq
  mgS : mg "Scale" = some (.ref Cq)
  bases : NoAttr K Cq "bases"
  number : NoAttr K Cq "number"
  low : NoAttr K Cq "low"
  zero : NoAttr K Cq "zero"
noncomputable def scF (l : Addr) (N : Int) (lw : Bool) (z : Addr) : List (Str × V) := [("bases", .ref l), ("number", .int N), ("low", .bl lw), ("zero", .ref z)]
section
variable {l z : Addr} {N : Int} {lw : Bool}
theorem sc_bases : (scF l N lw z).lookup ("bases" : Str) = some (.ref l) := lk0
theorem sc_number : (scF l N lw z).lookup ("number" : Str) = some (.int N) := (lkS (by decide +kernel)).trans lk0
theorem sc_low : (scF l N lw z).lookup ("low" : Str) = some (.bl lw) := (lkS (by decide +kernel)).trans ((lkS (by decide +kernel)).trans lk0)
theorem sc_zero : (scF l N lw z).lookup ("zero" : Str) = some (.ref z) := (lkS (by decide +kernel)).trans ((lkS (by decide +kernel)).trans ((lkS (by decide +kernel)).trans lk0))
theorem sc_no {m : Str} (h1 : m ≠ ("bases" : Str)) (h2 : m ≠ ("number" : Str)) (h3 : m ≠ ("low" : Str)) (h4 : m ≠ ("zero" : Str)) : (scF l N lw z).lookup m = none := (lkS h1).trans ((lkS h2).trans ((lkS h3).trans ((lkS h4).trans rfl)))
end
noncomputable def zr (bs : List Int) : List Int := bs.map fun _ => 0
/-- a Scale -/
noncomputable def ScAt (Cq : Addr) (H : Hp) (o : Addr) (bs : List Int) (N : Int) (lw : Bool) : Prop := ∃ dx l z, H o = some (.ins Cq dx (scF l N lw z)) ∧ H l = some (.lst (bs.map V.int)) ∧ H z = some (.tup ((zr bs).map V.int))
theorem ScAt.same {Cq : Addr} {H H' : Hp} {o : Addr} {bs : List Int} {N : Int} {lw : Bool} (h : ScAt Cq H o bs N lw) (e : Same H H') : ScAt Cq H' o bs N lw := by
  obtain ⟨dx, l, z, h1, h2, h3⟩ := h
  exact ⟨dx, l, z, e _ _ h1, e _ _ h2, e _ _ h3⟩
/-- sums times the bases, plus a step -/
noncomputable def ledV (bs : List Int) (N : Int) (r : List Int) (s : Int) : List Int := List.zipWith (fun x b => (x * b + s) % N) r bs
theorem ledV_len {bs r : List Int} {N s : Int} (h : r.length = bs.length) : (ledV bs N r s).length = bs.length := by
  unfold ledV
  rw [List.length_zipWith, h, Nat.min_self]
noncomputable def kk (k : List Int) : List Key := k.map fun i => (.inl i : Key)
theorem kk_val (k : List Int) : (kk k).map kV = k.map V.int := by
  unfold kk
  rw [List.map_map]
  rfl
theorem kk_inj : ∀ {a b : List Int}, kk a = kk b → a = b
  | [], [], _ => rfl
  | [], _ :: _, h => by cases h
  | _ :: _, [], h => by cases h
  | x :: a, y :: b, h => by
    have h : (.inl x : Key) :: kk a = .inl y :: kk b := h
    injection h with h1 h2
    rw [Sum.inl.inj h1, kk_inj h2]
noncomputable def DtAt (H : Hp) (d : Addr) (S : List (List Int)) : Prop := ∃ ks : List (List Int), H d = some (.dT (ks.map fun k => (kk k, V.bl true))) ∧ ks.Nodup ∧ (∀ k, k ∈ ks ↔ k ∈ S)
theorem dt_val (k : List Int) : ∀ ks : List (List Int), valV (ks.map fun k => (kk k, V.bl true)) (kk k) = if k ∈ ks then some (.bl true) else none
  | [] => rfl
  | i :: ks => by
    have ih := dt_val k ks
    by_cases e : i = k
    · subst e
      rw [if_pos (List.mem_cons_self ..)]
      exact valV_pos rfl
    · rw [List.map_cons, valV_neg (show ¬ kk i = kk k from fun z => e (kk_inj z)), ih]
      by_cases hk : k ∈ ks
      · rw [if_pos hk, if_pos (List.mem_cons_of_mem _ hk)]
      · rw [if_neg hk, if_neg (fun z => (List.mem_cons.mp z).elim (fun z => e z.symm) hk)]
theorem dt_put {ks : List (List Int)} {k : List Int} (hn : ks.Nodup) : ∃ ks' : List (List Int), putK (ks.map fun k => (kk k, V.bl true)) (kk k) (.bl true) = ks'.map (fun k => (kk k, V.bl true)) ∧ ks'.Nodup ∧ ks'.length ≤ ks.length + 1 ∧ ∀ x, x ∈ ks' ↔ x ∈ ks ∨ x = k := by
  by_cases h : k ∈ ks
  · refine ⟨ks, ?_, hn, Nat.le_succ _, fun x => ⟨.inl, fun z => z.elim id fun z => by rw [z]; exact h⟩⟩
    unfold putK
    rw [if_pos (by rw [valV_any, dt_val, if_pos h]; rfl), List.map_map]
    refine List.map_congr_left fun x _ => ?_
    show (if kk x = kk k then (kk x, V.bl true) else (kk x, V.bl true)) = _
    split <;> rfl
  · refine ⟨ks ++ [k], ?_, ?_, by rw [List.length_append]; exact Nat.le_refl _, fun x => by simp⟩
    · rw [putK_new _ (by rw [dt_val, if_neg h]), List.map_append]
      rfl
    · rw [List.nodup_append]
      exact ⟨hn, by simp, fun a ha b hb e => h (by rw [List.mem_singleton.mp hb] at e; rw [← e]; exact ha)⟩
theorem nodup_sub {α : Type} [DecidableEq α] : ∀ {l m : List α}, l.Nodup → (∀ x ∈ l, x ∈ m) → l.length ≤ m.length
  | [], _, _, _ => Nat.zero_le _
  | x :: r, m, hn, hs => by
    obtain ⟨h1, h2⟩ := List.nodup_cons.mp hn
    have hx : x ∈ m := hs x List.mem_cons_self
    have := nodup_sub (m := m.erase x) h2 fun y hy => (List.mem_erase_of_ne (fun e : y = x => h1 (by rw [← e]; exact hy))).2 (hs y (List.mem_cons_of_mem _ hy))
    have e := List.length_erase_of_mem hx
    have hp : 0 < m.length := List.length_pos_of_mem hx
    rw [List.length_cons]
    omega
noncomputable def TLq (H : Hp) (l : Addr) (tss : List (List Int)) : Prop := ∃ ts : List Addr, H l = some (.lst (ts.map V.ref)) ∧ Paired (fun us t => H t = some (.tup (us.map V.int))) tss ts
theorem paired_appQ {α β : Type} {R : α → β → Prop} : ∀ {xs ys : List α} {us vs : List β}, Paired R xs us → Paired R ys vs → Paired R (xs ++ ys) (us ++ vs)
  | _, _, _, _, .nil, h => h
  | _, _, _, _, .cons r t, h => .cons r (paired_appQ t h)
section
variable {K : PySem.W.Frag} {te : TE} {vs : List Nat} {σ : L2.St} {H : Hp} {D a b : Addr} {Qd : Hp → Prop} {j1 j2 : Nat}
/-- over zip of a tuple of ints and a list of ints, an int each -/
theorem lc_zipQ (xs ys zs : List Int) (hl : xs.length = ys.length) (hz : zs.length = xs.length) (hD : H D = none) (hG : ∀ H', Same H H' → SqT K H' a (xs.map V.int) ∧ SqL K H' b (ys.map V.int)) (sz : xs.length ≤ 100000)
    (wp : ∀ v u, wipe (((wipe σ vs).set j1 v).set j2 u) vs = wipe σ vs)
    (step : ∀ (i : Nat) (x y z : Int) (H' : Hp), xs[i]? = some x → ys[i]? = some y → zs[i]? = some z → Same H H' → ∀ Q' : VK, (∀ (H'' : Hp), Same H' H'' → Q' (.int z) H'') → te (((wipe σ vs).set j1 (some (.int x))).set j2 (some (.int y))) H' Q')
    (q : ∀ (H' : Hp), Same H H' → H' D = some (.lst (zs.map V.int)) → Qd H') :
    ∃ W : Nat → Nat → Hp → Prop, (∃ m, W 0 m (upd H D (.lst []))) ∧ ∀ i m H, W i m H →
      ((Itq K a b).stop i H ∧ Qd H) ∨ ((Itq K a b).go i H ∧ ∃ Nx : Hp → Prop, (∀ H', Nx H' → ∃ m', m' < m ∧ W (i + 1) m' H') ∧ ∀ x H', (Itq K a b).yld i H x H' → gTup K 2 (gCons (gName j1) (gCons (gName j2) gNil)) x (wipe σ vs) H' fun σ2 H2 => wipe σ2 vs = wipe σ vs ∧ tYes σ2 H2 fun b H3 =>
        if b = true then te σ2 H3 fun y H4 => ∃ acc, H4 D = some (.lst acc) ∧ acc.length < sizeLine ∧ Nx (upd H4 D (.lst (acc ++ [y]))) else Nx H3) := by
  have hn : (xs.map V.int).length = xs.length := List.length_map _
  have w := walk_zipTL (K := K) (a := a) (b := b) (xs := xs.map V.int) (ys := ys.map V.int) (by rw [List.length_map, List.length_map, hl])
  rw [hn] at w
  refine lc_it w (fun i H' => Same H (rm D H') ∧ H' D = some (.lst ((zs.take i).map V.int)))
    ⟨by rw [rm_updS]; exact rm_in hD (Same.refl _), upd_same⟩ (fun i H' _ h => hG H' (h.1.trans rm_le)) ?_ ?_
  · rintro i x H1 H2 hi ⟨h1, h3⟩ ⟨T, x1, y1, rfl, nT, rfl, e1, e2⟩
    obtain ⟨x0, ex0, rfl⟩ := get_map e1
    obtain ⟨y0, ey0, rfl⟩ := get_map e2
    have nDT : D ≠ T := fun e => by rw [e, nT] at h3; cases h3
    refine w_gtup (sqt upd_same) rfl (w_gcons (w_name (w_gcons (w_name (w_gnil ⟨wp _ _, w_yes ?_⟩)))))
    rw [if_pos rfl]
    have sT : Same H1 (upd H1 T (.tup [.int x0, .int y0])) := Same.new nT
    generalize upd H1 T (.tup [V.int x0, V.int y0]) = H2 at sT ⊢
    have hiz : zs[i]? = some zs[i] := List.getElem?_eq_getElem (by omega)
    refine step i x0 y0 zs[i] H2 ex0 ey0 hiz ((h1.trans rm_le).trans sT) _ fun H3 s3 => ?_
    refine ⟨_, s3 _ _ (sT _ _ h3), ?_, ?_, ?_⟩
    · have : (100000 : Nat) < sizeLine := by decide
      rw [List.length_map, List.length_take]
      omega
    · rw [rm_updS]
      exact h1.trans (sT.trans s3).rm
    · rw [upd_same, List.take_succ_eq_append_getElem (by omega), List.map_append]
      rfl
  · rintro H' ⟨h1, h3⟩
    rw [List.take_of_length_le (by omega)] at h3
    exact q H' (h1.trans rm_le) h3
end
section
variable {K : PySem.W.Frag} {te : TE} {wi1 : TI} {vs vs1 : List Nat} {σ : L2.St} {H : Hp} {D d a : Addr} {od : Obj} {Qd : Hp → Prop} {j j1 : Nat} {kvs : List (List Key × V)} {steps : List V}
/-- over the tuple keys of a dict, and a list for each: tuples of ints -/
theorem lc2_kt (row : List Key → List (List Int)) (hrow : ∀ kv ∈ kvs, (row kv.1).length = steps.length) (sz : kvs.length * steps.length ≤ 200000) (hd : H d = some (.frz od (.dT kvs))) (ha : H a = some (.lst steps)) (hD : H D = none)
    (wp : ∀ v, wipe ((wipe σ vs).set j v) vs = wipe σ vs) (wp2 : ∀ v u, wipe ((wipe ((wipe σ vs).set j v) vs1).set j1 u) vs1 = wipe ((wipe σ vs).set j v) vs1)
    (src : ∀ v H' (R : It → Hp → Prop), Same H H' → R (Itl K a) H' → wi1 ((wipe σ vs).set j v) H' R)
    (step : ∀ (kv : List Key × V) (q : Addr) (l : Nat) (x : V) (us : List Int) (H' : Hp), kv ∈ kvs → steps[l]? = some x → (row kv.1)[l]? = some us → Same H H' → H' q = some (.tup (kv.1.map kV)) → (∃ acc, H' D = some (.lst acc)) →
      ∀ Q' : VK, (∀ p H'', Same H' H'' → H' p = none → H'' p = some (.tup (us.map V.int)) → Q' (.ref p) H'') → te ((wipe ((wipe σ vs).set j (some (.ref q))) vs1).set j1 (some x)) H' Q')
    (q : ∀ (H' : Hp) (ys : List Addr), Same H H' → H' D = some (.lst (ys.map V.ref)) → Paired (fun us t => H' t = some (.tup (us.map V.int))) (kvs.flatMap fun kv => row kv.1) ys → Qd H') :
    ∃ W : Nat → Nat → Hp → Prop, (∃ m, W 0 m (upd H D (.lst []))) ∧ ∀ i m H, W i m H →
      ((Itkt d od kvs).stop i H ∧ Qd H) ∨ ((Itkt d od kvs).go i H ∧ ∃ Nx : Hp → Prop, (∀ H', Nx H' → ∃ m', m' < m ∧ W (i + 1) m' H') ∧ ∀ x H', (Itkt d od kvs).yld i H x H' → gName j x (wipe σ vs) H' fun σ2 H2 => wipe σ2 vs = wipe σ vs ∧ tYes σ2 H2 fun b H3 =>
        if b = true then wi1 σ2 H3 fun J1 H4 => ∃ W1 : Nat → Nat → Hp → Prop, (∃ m, W1 0 m H4) ∧ ∀ i k H, W1 i k H →
          (J1.stop i H ∧ Nx H) ∨ (J1.go i H ∧ ∃ Nx1 : Hp → Prop, (∀ H', Nx1 H' → ∃ k', k' < k ∧ W1 (i + 1) k' H') ∧ ∀ x H', J1.yld i H x H' → gName j1 x (wipe σ2 vs1) H' fun σ3 H5 => wipe σ3 vs1 = wipe σ2 vs1 ∧ tYes σ3 H5 fun b H6 =>
            if b = true then te σ3 H6 fun y H7 => ∃ acc, H7 D = some (.lst acc) ∧ acc.length < sizeLine ∧ Nx1 (upd H7 D (.lst (acc ++ [y]))) else Nx1 H6)
        else Nx H3) := by
  have frow : ∀ i, i ≤ kvs.length → ((kvs.take i).flatMap fun kv => row kv.1).length = i * steps.length := fun i hi => by
    induction i with
    | zero => rw [List.take_zero, List.flatMap_nil, Nat.zero_mul]; rfl
    | succ i ih =>
      rw [List.take_succ_eq_append_getElem (by omega), List.flatMap_append, List.length_append, ih (by omega), List.flatMap_cons, List.flatMap_nil, List.append_nil, hrow _ (List.getElem_mem _), Nat.succ_mul]
  refine ⟨fun i m H' => m = kvs.length - i ∧ i ≤ kvs.length ∧ ∃ ys : List Addr, Same H (rm D H') ∧ H' D = some (.lst (ys.map V.ref)) ∧ Paired (fun us t => rm D H' t = some (.tup (us.map V.int))) ((kvs.take i).flatMap fun kv => row kv.1) ys,
    ⟨kvs.length, by omega, Nat.zero_le _, [], by rw [rm_updS]; exact rm_in hD (Same.refl _), upd_same, .nil⟩, ?_⟩
  rintro i m H1 ⟨rfl, hi, ys, s1, h1, hp⟩
  have hd1 : H1 d = some (.frz od (.dT kvs)) := rm_le _ _ (s1 _ _ hd)
  by_cases hlt : i < kvs.length
  · refine .inr ⟨⟨hd1, hlt⟩, fun H' => ∃ ys : List Addr, Same H (rm D H') ∧ H' D = some (.lst (ys.map V.ref)) ∧ Paired (fun us t => rm D H' t = some (.tup (us.map V.int))) ((kvs.take (i + 1)).flatMap fun kv => row kv.1) ys, fun H' h => ⟨_, by omega, rfl, hlt, h⟩, ?_⟩
    rintro x H2 ⟨rfl, k, v, qq, hkv, rfl, hq⟩
    refine ⟨wp _, w_yes ?_⟩
    rw [if_pos rfl]
    have hmem : (k, v) ∈ kvs := List.mem_of_getElem? hkv
    have hki : kvs[i] = (k, v) := by rw [List.getElem?_eq_getElem hlt] at hkv; exact Option.some.inj hkv
    have hrl : (row k).length = steps.length := hrow _ hmem
    refine src _ _ _ (s1.trans rm_le) ⟨fun l n H' => n = steps.length - l ∧ l ≤ steps.length ∧ ∃ ys : List Addr, Same H (rm D H') ∧ H' D = some (.lst (ys.map V.ref)) ∧ Paired (fun us t => rm D H' t = some (.tup (us.map V.int))) (((kvs.take i).flatMap fun kv => row kv.1) ++ (row k).take l) ys ∧ rm D H' qq = some (.tup (k.map kV)), ⟨steps.length, by omega, Nat.zero_le _, ys, s1, h1, by rw [List.take_zero, List.append_nil]; exact hp, rm_of (fun e => by rw [e, h1] at hq; cases hq) hq⟩, ?_⟩
    rintro l n H3 ⟨rfl, hl, ys, s3, h3, hp3, hq3⟩
    have ha3 : SqL K H3 a steps := sq (rm_le _ _ (s3 _ _ ha))
    have hfi := frow i hi
    have hpl := hp3.length
    rw [List.length_append, hfi, List.length_take, hrl, Nat.min_eq_left hl] at hpl
    have hmul : (i + 1) * steps.length ≤ kvs.length * steps.length := Nat.mul_le_mul_right _ hlt
    rw [Nat.succ_mul] at hmul
    have hsz : (200000 : Nat) < sizeLine := by decide
    by_cases hll : l < steps.length
    · refine .inr ⟨walk_list.goes l H3 hll ha3, fun H' => ∃ ys : List Addr, Same H (rm D H') ∧ H' D = some (.lst (ys.map V.ref)) ∧ Paired (fun us t => rm D H' t = some (.tup (us.map V.int))) (((kvs.take i).flatMap fun kv => row kv.1) ++ (row k).take (l + 1)) ys ∧ rm D H' qq = some (.tup (k.map kV)), fun H' h => ⟨_, by omega, rfl, hll, h⟩, fun x H4 hy => ?_⟩
      obtain ⟨rfl, hx⟩ := walk_list.yields l H3 x H4 hll ha3 hy
      refine ⟨wp2 _ _, w_yes ?_⟩
      rw [if_pos rfl]
      have hrx : (row k)[l]? = some (row k)[l] := List.getElem?_eq_getElem (by omega)
      refine step (k, v) qq l x (row k)[l] H4 hmem hx hrx (s3.trans rm_le) (rm_le _ _ hq3) ⟨_, h3⟩ _ fun p H5 s5 np h5 => ?_
      have npD : p ≠ D := fun e => by rw [e, h3] at np; cases np
      refine ⟨_, s5 _ _ h3, by rw [List.length_map]; omega, ys ++ [p], ?_, by rw [upd_same, List.map_append]; rfl, ?_, ?_⟩
      · rw [rm_updS]
        exact s3.trans s5.rm
      · rw [rm_updS, List.take_succ_eq_append_getElem (by omega), ← List.append_assoc]
        exact paired_appQ (paired_imp (fun us t z => s5.rm _ _ z) hp3) (.cons (rm_of npD h5) .nil)
      · rw [rm_updS]
        exact s5.rm _ _ hq3
    · have el : l = steps.length := by omega
      subst el
      refine .inl ⟨walk_list.stops H3 ha3, ys, s3, h3, ?_⟩
      rw [List.take_succ_eq_append_getElem hlt, List.flatMap_append, List.flatMap_cons, List.flatMap_nil, List.append_nil, hki]
      rw [show (row k).take steps.length = row k from List.take_of_length_le (by omega)] at hp3
      exact hp3
  · have ei : i = kvs.length := by omega
    subst ei
    rw [List.take_length] at hp
    exact .inl ⟨⟨hd1, Nat.le_refl _⟩, q H1 ys (s1.trans rm_le) h1 (paired_imp (fun us t z => rm_le _ _ z) hp)⟩
end
end Bc
namespace Bc
open PySem PySem.Spec PyProof.Rows L2
/-- the sums that m steps, the first not 0, can leave -/
noncomputable def Sms (bs : List Int) (N : Int) (A : Nat) : Nat → List Int → Prop
  | 0, _ => False
  | 1, k => ∃ s : Int, s ≠ 0 ∧ -(A : Int) < s ∧ s < A ∧ k = ledV bs N (zr bs) s
  | m + 2, k => ∃ k', Sms bs N A (m + 1) k' ∧ ∃ s : Int, -(A : Int) < s ∧ s < A ∧ k = ledV bs N k' s
structure LeastS (bs : List Int) (N : Int) (A : Nat) (m : Nat) : Prop where
  pos : 1 ≤ m
  hit : Sms bs N A m (zr bs)
  no : ∀ j, j < m → ¬ Sms bs N A j (zr bs)
theorem Sms.len {bs : List Int} {N : Int} {A : Nat} : ∀ {m : Nat} {k : List Int}, Sms bs N A m k → k.length = bs.length
  | 0, _, h => h.elim
  | 1, _, h => by
    obtain ⟨s, _, _, _, rfl⟩ := h
    exact ledV_len (by unfold zr; rw [List.length_map])
  | m + 2, _, h => by
    obtain ⟨k', h', s, _, _, rfl⟩ := h
    exact ledV_len h'.len
/-- the steps as the program lists them -/
noncomputable def stps (A : Nat) : List Int := (List.range (2 * A - 1)).map fun i : Nat => 1 - (A : Int) + i
theorem stps_mem {A : Nat} {s : Int} : s ∈ stps A ↔ -(A : Int) < s ∧ s < A := by
  unfold stps
  rw [List.mem_map]
  constructor
  · rintro ⟨i, hi, rfl⟩
    have := List.mem_range.mp hi
    omega
  · intro h
    exact ⟨(s + A - 1).toNat, List.mem_range.mpr (by omega), by omega⟩
theorem least_ex {P : Nat → Prop} : ∀ {n : Nat}, P n → ∃ m, m ≤ n ∧ P m ∧ ∀ j, j < m → ¬ P j := by
  intro n
  induction n using Nat.strongRecOn with
  | ind n ih =>
    intro h
    by_cases c : ∃ j, j < n ∧ P j
    · obtain ⟨j, hj, pj⟩ := c
      obtain ⟨m, h1, h2⟩ := ih j hj pj
      exact ⟨m, by omega, h2⟩
    · exact ⟨n, Nat.le_refl _, h, fun j hj pj => c ⟨j, hj, pj⟩⟩
theorem Sms_one {b N : Int} {A : Nat} : ∀ {ds : List Int} {d : Int}, d ≠ 0 → (∀ x ∈ d :: ds, -(A : Int) < x ∧ x < A) → Sms [b] N A (ds.length + 1) [hv (d :: ds) b % N] := by
  have key : ∀ (ds : List Int) (m : Nat) (v : Int), Sms [b] N A (m + 1) [v % N] → (∀ x ∈ ds, -(A : Int) < x ∧ x < A) → Sms [b] N A (m + 1 + ds.length) [ds.foldl (fun f c => f * b + c) v % N] := by
    intro ds
    induction ds with
    | nil => exact fun m v h _ => h
    | cons x ds ih =>
      intro m v h hx
      have h1 : Sms [b] N A (m + 1 + 1) [(v * b + x) % N] := by
        refine ⟨_, h, x, (hx x List.mem_cons_self).1, (hx x List.mem_cons_self).2, ?_⟩
        show [(v * b + x) % N] = [(v % N * b + x) % N]
        rw [Int.add_emod (v % N * b), Int.mul_emod, Int.emod_emod_of_dvd _ (Int.dvd_refl N), ← Int.mul_emod, ← Int.add_emod]
      have := ih (m + 1) _ h1 fun y hy => hx y (List.mem_cons_of_mem _ hy)
      rw [List.length_cons, show m + 1 + (ds.length + 1) = m + 1 + 1 + ds.length by omega]
      exact this
  intro ds d hd hx
  have h0 : Sms [b] N A (0 + 1) [d % N] := ⟨d, hd, (hx d List.mem_cons_self).1, (hx d List.mem_cons_self).2, by
    show [d % N] = [(0 * b + d) % N]
    rw [Int.zero_mul, Int.zero_add]⟩
  have := key ds 0 d h0 fun y hy => hx y (List.mem_cons_of_mem _ hy)
  rw [show ds.length + 1 = 0 + 1 + ds.length by omega]
  have e : hv (d :: ds) b = ds.foldl (fun f c => f * b + c) d := by
    unfold hv
    rw [List.foldl_cons, Int.zero_mul, Int.zero_add]
  rw [e]
  exact this
theorem hv_zero (b : Int) (ds : List Int) : hv (0 :: ds) b = hv ds b := by
  unfold hv
  rw [List.foldl_cons, Int.zero_mul, Int.zero_add]
theorem hv_zsub {b : Int} : ∀ {ls ms : List Int}, ls.length = ms.length → hv (List.zipWith (· - ·) ls ms) b = hv ls b - hv ms b := by
  have key : ∀ (ls ms : List Int), ls.length = ms.length → ∀ u v : Int, (List.zipWith (· - ·) ls ms).foldl (fun f c => f * b + c) (u - v) = ls.foldl (fun f c => f * b + c) u - ms.foldl (fun f c => f * b + c) v := by
    intro ls
    induction ls with
    | nil =>
      intro ms h u v
      have : ms = [] := List.length_eq_zero_iff.mp h.symm
      subst this
      rfl
    | cons l ls ih =>
      intro ms h u v
      cases ms with
      | nil => simp at h
      | cons m ms =>
        rw [List.zipWith_cons_cons, List.foldl_cons, List.foldl_cons, List.foldl_cons, ← ih ms (by simpa using h)]
        congr 1
        rw [Int.sub_mul]
        omega
  intro ls ms h
  have := key ls ms h 0 0
  rw [Int.sub_zero] at this
  exact this
theorem strip {b N : Int} {A : Nat} : ∀ {ds : List Int}, (∃ x ∈ ds, x ≠ 0) → (∀ x ∈ ds, -(A : Int) < x ∧ x < A) → hv ds b % N = 0 → ∃ j, 1 ≤ j ∧ j ≤ ds.length ∧ Sms [b] N A j [0]
  | [], h, _, _ => by
    obtain ⟨x, hx, _⟩ := h
    cases hx
  | d :: ds, h, hb, hz => by
    by_cases e : d = 0
    · subst e
      rw [hv_zero] at hz
      obtain ⟨x, hx, hn⟩ := h
      have hx : x ∈ ds := (List.mem_cons.mp hx).resolve_left fun z => hn z
      obtain ⟨j, h1, h2, h3⟩ := strip ⟨x, hx, hn⟩ (fun y hy => hb y (List.mem_cons_of_mem _ hy)) hz
      exact ⟨j, h1, by rw [List.length_cons]; omega, h3⟩
    · have := Sms_one (b := b) (N := N) e hb
      rw [hz] at this
      exact ⟨ds.length + 1, by omega, by rw [List.length_cons]; exact Nat.le_refl _, this⟩
theorem zip_ne : ∀ {ls ms : List Int}, ls.length = ms.length → ls ≠ ms → ∃ x ∈ List.zipWith (· - ·) ls ms, x ≠ 0
  | [], [], _, h => absurd rfl h
  | [], _ :: _, h, _ => by simp at h
  | _ :: _, [], h, _ => by simp at h
  | l :: ls, m :: ms, h, hn => by
    rw [List.zipWith_cons_cons]
    by_cases e : l = m
    · subst e
      obtain ⟨x, hx, h0⟩ := zip_ne (ls := ls) (ms := ms) (by simpa using h) fun z => hn (by rw [z])
      exact ⟨x, List.mem_cons_of_mem _ hx, h0⟩
    · exact ⟨l - m, List.mem_cons_self, by omega⟩
theorem zip_bd {A : Nat} : ∀ {ls ms : List Int}, (∀ x ∈ ls, 0 ≤ x ∧ x < A) → (∀ x ∈ ms, 0 ≤ x ∧ x < A) → ∀ x ∈ List.zipWith (· - ·) ls ms, -(A : Int) < x ∧ x < A
  | [], _, _, _, x, h => by simp at h
  | _ :: _, [], _, _, x, h => by simp at h
  | l :: ls, m :: ms, h1, h2, x, h => by
    rw [List.zipWith_cons_cons] at h
    rcases List.mem_cons.mp h with e | e
    · have := h1 l List.mem_cons_self
      have := h2 m List.mem_cons_self
      omega
    · exact zip_bd (fun y hy => h1 y (List.mem_cons_of_mem _ hy)) (fun y hy => h2 y (List.mem_cons_of_mem _ hy)) x e
noncomputable def ltr (A : Nat) : Nat → List (List Int)
  | 0 => [[]]
  | n + 1 => (List.range A).flatMap fun l : Nat => (ltr A n).map fun t => (l : Int) :: t
theorem ltr_mem {A : Nat} : ∀ {n : Nat} {t : List Int}, t ∈ ltr A n → t.length = n ∧ ∀ x ∈ t, 0 ≤ x ∧ x < A
  | 0, t, h => by
    have : t = [] := List.mem_singleton.mp h
    subst this
    exact ⟨rfl, fun x h => by cases h⟩
  | n + 1, t, h => by
    obtain ⟨l, hl, hx⟩ := List.mem_flatMap.mp h
    obtain ⟨u, hu, rfl⟩ := List.mem_map.mp hx
    have hl := List.mem_range.mp hl
    obtain ⟨h1, h2⟩ := ltr_mem hu
    refine ⟨by rw [List.length_cons, h1], fun x hx => ?_⟩
    rcases List.mem_cons.mp hx with z | z
    · rw [z]
      omega
    · exact h2 x z
theorem flat_lenQ {α β : Type} {f : α → List β} {k : Nat} : ∀ l : List α, (∀ x, (f x).length = k) → (l.flatMap f).length = l.length * k
  | [], _ => by simp
  | x :: l, h => by
    rw [List.flatMap_cons, List.length_append, h, flat_lenQ l h, List.length_cons, Nat.succ_mul, Nat.add_comm]
theorem ltr_len (A : Nat) : ∀ n, (ltr A n).length = A ^ n
  | 0 => rfl
  | n + 1 => by
    show ((List.range A).flatMap fun l : Nat => (ltr A n).map fun t => (l : Int) :: t).length = _
    rw [flat_lenQ (k := A ^ n) _ (fun l => by rw [List.length_map, ltr_len A n]), List.length_range, Nat.pow_succ, Nat.mul_comm]
theorem ltr_nd (A : Nat) : ∀ n, (ltr A n).Nodup
  | 0 => List.pairwise_singleton _ _
  | n + 1 => by
    show List.Pairwise _ ((List.range A).flatMap fun l : Nat => (ltr A n).map fun t => (l : Int) :: t)
    rw [List.pairwise_flatMap]
    refine ⟨fun l _ => ?_, List.Pairwise.imp (fun {i j} (hij : i < j) x hx y hy e => ?_) List.pairwise_lt_range⟩
    · rw [List.pairwise_map]
      exact (ltr_nd A n).imp fun h e => h (List.cons.inj e).2
    · obtain ⟨t, _, rfl⟩ := List.mem_map.mp hx
      obtain ⟨u, _, rfl⟩ := List.mem_map.mp hy
      have := (List.cons.inj e).1
      omega
/-- more texts than marks: two that clash -/
theorem pigeonS {b N : Int} {A n : Nat} (hN : 0 < N) (h : N.toNat < A ^ n) : ∃ j, 1 ≤ j ∧ j ≤ n ∧ Sms [b] N A j (zr [b]) := by
  have hex : ∃ x ∈ ltr A n, ∃ y ∈ ltr A n, hv x b % N = hv y b % N ∧ x ≠ y := by
    refine Classical.byContradiction fun c => ?_
    have inj : ∀ x ∈ ltr A n, ∀ y ∈ ltr A n, hv x b % N = hv y b % N → x = y := fun x hx y hy e => Classical.byContradiction fun z => c ⟨x, hx, y, hy, e, z⟩
    have nd : ((ltr A n).map fun t => (hv t b % N).toNat).Nodup := by
      rw [List.nodup_iff_pairwise_ne, List.pairwise_map, List.pairwise_iff_getElem]
      intro i j hi hj hij e
      have h1 := Int.emod_nonneg (hv (ltr A n)[i] b) (show N ≠ 0 by omega)
      have h2 := Int.emod_nonneg (hv (ltr A n)[j] b) (show N ≠ 0 by omega)
      exact (List.pairwise_iff_getElem.mp (ltr_nd A n)) i j hi hj hij (inj _ (List.getElem_mem _) _ (List.getElem_mem _) (by omega))
    have := nodup_sub (m := List.range N.toNat) nd fun z hz => by
      obtain ⟨t, _, rfl⟩ := List.mem_map.mp hz
      have h1 := Int.emod_nonneg (hv t b) (show N ≠ 0 by omega)
      have h2 := Int.emod_lt_of_pos (hv t b) hN
      exact List.mem_range.mpr (by omega)
    rw [List.length_map, List.length_range, ltr_len] at this
    omega
  obtain ⟨x, hx, y, hy, e, hn⟩ := hex
  obtain ⟨lx, bx⟩ := ltr_mem hx
  obtain ⟨ly, by'⟩ := ltr_mem hy
  have hl : x.length = y.length := by omega
  obtain ⟨j, h1, h2, h3⟩ := strip (b := b) (N := N) (A := A) (zip_ne hl hn) (zip_bd bx by') (by rw [hv_zsub hl]; exact (Int.emod_eq_emod_iff_emod_sub_eq_zero).mp e)
  refine ⟨j, h1, ?_, h3⟩
  rw [List.length_zipWith, lx, ly, Nat.min_self] at h2
  exact h2
/-- the base that is the number of letters -/
theorem own_low {b N : Int} {A : Nat} (hA : 1 ≤ A) (hb : N ∣ b - A) : ∀ {m : Nat} {k : List Int}, Sms [b] N A m k → ∃ v : Int, k = [v % N] ∧ v ≠ 0 ∧ v < (A : Int) ^ m ∧ -((A : Int) ^ m) < v
  | 0, _, h => h.elim
  | 1, _, h => by
    obtain ⟨s, h0, h1, h2, rfl⟩ := h
    refine ⟨s, ?_, h0, by rw [Int.pow_one]; exact h2, by rw [Int.pow_one]; exact h1⟩
    show [(0 * b + s) % N] = _
    rw [Int.zero_mul, Int.zero_add]
  | m + 2, _, h => by
    obtain ⟨k', h', s, h1, h2, rfl⟩ := h
    obtain ⟨v, rfl, v0, v1, v2⟩ := own_low hA hb h'
    refine ⟨v * A + s, ?_, ?_, ?_, ?_⟩
    · show [(v % N * b + s) % N] = _
      congr 1
      obtain ⟨t, ht⟩ := hb
      have hv := Int.mul_ediv_add_emod v N
      rw [Int.emod_eq_emod_iff_emod_sub_eq_zero, ← Int.dvd_iff_emod_eq_zero]
      refine ⟨v % N * t - v / N * A, ?_⟩
      have e1 : b = A + N * t := by omega
      rw [e1]
      have e2 : v * (A : Int) = (N * (v / N) + v % N) * A := by rw [hv]
      rw [e2]
      grind
    · intro z
      rcases Int.lt_or_gt_of_ne v0 with g | g
      · have := Int.mul_le_mul_of_nonneg_right (show v ≤ -1 by omega) (show 0 ≤ (A : Int) by omega)
        omega
      · have := Int.mul_le_mul_of_nonneg_right (show 1 ≤ v by omega) (show 0 ≤ (A : Int) by omega)
        omega
    · rw [Int.pow_succ]
      have := Int.mul_le_mul_of_nonneg_right (show v ≤ (A : Int) ^ (m + 1) - 1 by omega) (show 0 ≤ (A : Int) by omega)
      rw [Int.sub_mul] at this
      omega
    · rw [Int.pow_succ]
      have := Int.mul_le_mul_of_nonneg_right (show -((A : Int) ^ (m + 1)) + 1 ≤ v by omega) (show 0 ≤ (A : Int) by omega)
      rw [Int.add_mul, Int.neg_mul] at this
      omega
theorem own_no {b N : Int} {A m : Nat} (hN : 0 < N) (hA : 1 ≤ A) (hb : N ∣ b - A) (h : (A : Int) ^ m ≤ N) : ¬ Sms [b] N A m (zr [b]) := fun c => by
  obtain ⟨v, e, v0, v1, v2⟩ := own_low hA hb c
  have e : 0 = v % N := (List.cons.inj e).1
  obtain ⟨t, ht⟩ := Int.dvd_of_emod_eq_zero e.symm
  have ht0 : t ≠ 0 := fun z => v0 (by rw [ht, z, Int.mul_zero])
  rcases Int.lt_or_gt_of_ne ht0 with g | g
  · have := Int.mul_le_mul_of_nonneg_left (show t ≤ -1 by omega) (show 0 ≤ N by omega)
    omega
  · have := Int.mul_le_mul_of_nonneg_left (show 1 ≤ t by omega) (show 0 ≤ N by omega)
    omega
/-- the least length whose number of texts is above N -/
structure Bnd (A : Nat) (N : Int) (m : Nat) : Prop where
  pos : 1 ≤ m
  hi : N < (A : Int) ^ m
  lo : m = 1 ∨ (A : Int) ^ (m - 1) ≤ N
theorem Bnd.low {A : Nat} {N : Int} {m j : Nat} (hA : 1 ≤ A) (h : Bnd A N m) (j1 : 1 ≤ j) (jm : j < m) : (A : Int) ^ j ≤ N := by
  have h1 := h.lo.resolve_left (by omega)
  have h2 : A ^ j ≤ A ^ (m - 1) := Nat.pow_le_pow_right hA (by omega)
  have e1 : ((A ^ j : Nat) : Int) = (A : Int) ^ j := Int.natCast_pow ..
  have e2 : ((A ^ (m - 1) : Nat) : Int) = (A : Int) ^ (m - 1) := Int.natCast_pow ..
  omega
theorem Bnd.any {A : Nat} {N b : Int} {m : Nat} (hN : 0 < N) (h : Bnd A N m) : ∃ j, LeastS [b] N A j ∧ j ≤ m := by
  have e1 : ((A ^ m : Nat) : Int) = (A : Int) ^ m := Int.natCast_pow ..
  have hh := h.hi
  obtain ⟨j, h1, h2, h3⟩ := pigeonS (b := b) (A := A) (n := m) hN (by omega)
  obtain ⟨i, g1, g2, g3⟩ := least_ex (P := fun j => Sms [b] N A j (zr [b])) h3
  refine ⟨i, ⟨?_, g2, g3⟩, by omega⟩
  cases i with
  | zero => exact g2.elim
  | succ i => omega
theorem Bnd.own {A : Nat} {N b : Int} {m : Nat} (hN : 0 < N) (hA : 1 ≤ A) (hb : N ∣ b - A) (h : Bnd A N m) : LeastS [b] N A m := by
  obtain ⟨j, hj, jm⟩ := h.any (b := b) hN
  by_cases c : j = m
  · rw [← c]; exact hj
  · exact absurd hj.hit (own_no hN hA hb (h.low hA hj.pos (by omega)))
theorem Sms.rng {bs : List Int} {N : Int} {A : Nat} (hN : 0 < N) : ∀ {m : Nat} {k : List Int}, Sms bs N A m k → ∀ x ∈ k, 0 ≤ x ∧ x < N := by
  have key : ∀ (r : List Int) (s : Int), ∀ x ∈ ledV bs N r s, 0 ≤ x ∧ x < N := fun r s x hx => by
    unfold ledV at hx
    obtain ⟨i, hi, rfl⟩ := List.getElem_of_mem hx
    rw [List.getElem_zipWith]
    exact ⟨Int.emod_nonneg _ (by omega), Int.emod_lt_of_pos _ hN⟩
  intro m k h
  match m, h with
  | 1, h => obtain ⟨s, _, _, _, rfl⟩ := h; exact key _ _
  | m + 2, h => obtain ⟨k', _, s, _, _, rfl⟩ := h; exact key _ _
theorem Sms.succ {bs : List Int} {N : Int} {A : Nat} {m : Nat} (hm : 1 ≤ m) {k : List Int} : Sms bs N A (m + 1) k ↔ ∃ k', Sms bs N A m k' ∧ ∃ s ∈ stps A, k = ledV bs N k' s := by
  obtain ⟨m, rfl⟩ : ∃ j, m = j + 1 := ⟨m - 1, by omega⟩
  constructor
  · rintro ⟨k', h, s, h1, h2, h3⟩
    exact ⟨k', h, s, stps_mem.mpr ⟨h1, h2⟩, h3⟩
  · rintro ⟨k', h, s, h1, h3⟩
    have := stps_mem.mp h1
    exact ⟨k', h, s, this.1, this.2, h3⟩
theorem Sms.first {bs : List Int} {N : Int} {A : Nat} {k : List Int} : Sms bs N A 1 k ↔ k ∈ ((stps A).filter fun s => decide (s ≠ 0)).map (ledV bs N (zr bs)) := by
  rw [List.mem_map]
  constructor
  · rintro ⟨s, h0, h1, h2, rfl⟩
    exact ⟨s, List.mem_filter.mpr ⟨stps_mem.mpr ⟨h1, h2⟩, decide_eq_true h0⟩, rfl⟩
  · rintro ⟨s, h, rfl⟩
    obtain ⟨h1, h2⟩ := List.mem_filter.mp h
    have := stps_mem.mp h1
    exact ⟨s, of_decide_eq_true h2, this.1, this.2, rfl⟩
theorem stps_len (A : Nat) : (stps A).length = 2 * A - 1 := by
  unfold stps
  rw [List.length_map, List.length_range]
/-- no more than M sums -/
noncomputable def Few (bs : List Int) (N : Int) (M : Nat) : Prop := ∀ ks : List (List Int), ks.Nodup → (∀ k ∈ ks, k.length = bs.length ∧ ∀ x ∈ k, 0 ≤ x ∧ x < N) → ks.length ≤ M
theorem few_one {b N : Int} (_ : 0 < N) : Few [b] N N.toNat := fun ks hn hk => by
  have := nodup_sub (m := (List.range N.toNat).map fun i : Nat => [(i : Int)]) hn fun k h => by
    obtain ⟨h1, h2⟩ := hk k h
    match k, h1, h2 with
    | [x], _, h2 =>
      have := h2 x List.mem_cons_self
      exact List.mem_map.mpr ⟨x.toNat, List.mem_range.mpr (by omega), by rw [Int.toNat_of_nonneg this.1]⟩
  rwa [List.length_map, List.length_range] at this
noncomputable def spScInit (Cq : Addr) : Sp := fun vs H Q _ => ∃ (o dx l : Addr) (bs : List Int) (N : Int) (lw : Bool), vs = [.ref o, .ref l, .int N, .bl lw] ∧ H o = some (.ins Cq dx []) ∧ H l = some (.lst (bs.map V.int)) ∧ bs.length ≤ 1000 ∧ ∀ H', (∀ b o', b ≠ o → H b = some o' → H' b = some o') → ScAt Cq H' o bs N lw → Q .non H'
theorem use_sc {Cq : Addr} {H : Hp} {PP : Addr → Hp → Prop} {E : XK} {l : Addr} {bs : List Int} {N : Int} {lw : Bool} (hl : H l = some (.lst (bs.map V.int))) (hb : bs.length ≤ 1000) (q : ∀ o H', H o = none → Same H H' → ScAt Cq H' o bs N lw → PP o H') :
    ∀ o dx, H o = none → H dx = none → dx ≠ o → spScInit Cq [.ref o, .ref l, .int N, .bl lw] (upd (upd H dx (.own o)) o (.ins Cq dx [])) (fun v H2 => v = .non ∧ PP o H2) E := fun o dx nx nd ne => by
  have up : Same H (upd (upd H dx (.own o)) o (.ins Cq dx [])) := fun b o' e => by rw [upd_ne (ne_of_none e nx), upd_ne (ne_of_none e nd)]; exact e
  exact ⟨o, dx, l, bs, N, lw, rfl, L2.upd_same, up _ _ hl, hb, fun H' k h => ⟨rfl, q o H' nx (mk_same nx nd k) h⟩⟩
noncomputable def spLed (Cq : Addr) : Sp := fun vs H Q _ => ∃ (o p : Addr) (bs r : List Int) (N s : Int) (lw : Bool), vs = [.ref o, .ref p, .int s] ∧ ScAt Cq H o bs N lw ∧ H p = some (.tup (r.map V.int)) ∧ r.length = bs.length ∧ bs.length ≤ 1000 ∧ 0 < N ∧ N ≤ 2000 ∧ (∀ x ∈ r, 0 ≤ x ∧ x < N) ∧ (∀ x ∈ bs, 0 ≤ x ∧ x < N) ∧ s.natAbs ≤ 2000 ∧
  ∀ H' q, H q = none → Same H H' → H' q = some (.tup ((ledV bs N r s).map V.int)) → Q (.ref q) H'
noncomputable def spScaleOf (c : CA) (Cq : Addr) : Sp := fun vs H Q _ => ∃ (x : Addr) (b : Int) (ps : List (Int × Int)) (y : Sty), vs = [.ref x] ∧ WayAt c H x b ps y ∧ ∀ H' o, Same H H' → ScAt Cq H' o [b] (num ps) y.low → Q (.ref o) H'
noncomputable def spAllTrue : Sp := fun vs H Q _ => ∃ (l : Addr) (tss : List (List Int)), vs = [.ref l] ∧ TLq H l tss ∧ tss.length ≤ 100000 ∧ ∀ H' d, H d = none → Same H H' → DtAt H' d tss → Q (.ref d) H'
noncomputable def spLeastLen (Cq : Addr) : Sp := fun vs H Q _ => ∃ (o : Addr) (bs : List Int) (N A : Int) (lw : Bool), vs = [.ref o, .int A] ∧ ScAt Cq H o bs N lw ∧ bs.length ≤ 1000 ∧ 0 < N ∧ N ≤ 2000 ∧ (∀ x ∈ bs, 0 ≤ x ∧ x < N) ∧ 1 ≤ A ∧ A ≤ 1000 ∧ (A = 1 → Q .non H) ∧
  (A ≠ 1 → ∃ (M m : Nat), Few bs N M ∧ M * (2 * A.toNat) ≤ 100000 ∧ LeastS bs N A.toNat m ∧ ∀ H', Same H H' → Q (.int (m : Nat)) H')
noncomputable def spLeastWin (c : CA) : Sp := fun vs H Q _ => ∃ (x : Addr) (A b : Int) (ps : List (Int × Int)) (y : Sty), vs = [.ref x, .int A] ∧ WayAt c H x b ps y ∧ num ps ≤ 2000 ∧ 1 ≤ A ∧ A ≤ 1000 ∧ (A = 1 → ∀ H', Same H H' → Q .non H') ∧ (A ≠ 1 → num ps * (2 * A) ≤ 100000 ∧ ∃ m : Nat, LeastS [b] (num ps) A.toNat m ∧ ∀ H', Same H H' → Q (.int (m : Nat)) H')
theorem w_dnewT {σ : L2.St} {H : Hp} {Q : VK} (q : ∀ p, H p = none → atV Q (.ref p) (L2.upd H p (.dT []))) : tDNewT σ H Q := q
theorem w_setDq {o i v : V} {H : Hp} {Q : Hp → Prop} (q : ∃ a H', o = .ref a ∧ DPut H a i v H' ∧ Q H') : rSetD o i v H Q := q
theorem w_dnotin {td ty : TE} {σ : L2.St} {H : Hp} {Q : VK} (q : ty σ H fun y H1 => td σ H1 fun x H2 => ∃ a o, x = .ref a ∧ DGet H2 a y o ∧ Q (.bl (!o.isSome)) H2) : tDNotIn ty td σ H Q := q
theorem u66q {k : Nat} {A : Around} (r : Room k A) : A.units + 1 < cLine := by
  have := r.un
  omega
section
variable {J : It} {G : Hp → Prop} {te : TE} {tt : TT} {vs : List Nat} {σ : L2.St} {H : Hp} {D : Addr} {Qd : Hp → Prop} {j : Nat}
/-- with a test, by a relation -/
theorem lc_relF (xs : List V) (p : V → Bool) (R : V → V → Hp → Prop) (mono : ∀ x y G G', Same G G' → R x y G → R x y G') (w : Walk J xs.length G (YAt xs)) (hD : H D = none) (hG : ∀ H', Same H H' → G H') (sz : xs.length ≤ 100000)
    (wp : ∀ v, wipe ((wipe σ vs).set j v) vs = wipe σ vs)
    (tst : ∀ (i : Nat) (x : V) (H' : Hp), xs[i]? = some x → Same H H' → ∀ Q' : Bool → Hp → Prop, Q' (p x) H' → tt ((wipe σ vs).set j (some x)) H' Q')
    (step : ∀ (i : Nat) (x : V) (H' : Hp), xs[i]? = some x → p x = true → Same H H' → (∃ acc, H' D = some (.lst acc)) → ∀ Q' : VK, (∀ (y : V) (H'' : Hp), Same H' H'' → R x y (rm D H'') → Q' y H'') → te ((wipe σ vs).set j (some x)) H' Q')
    (q : ∀ (H' : Hp) (ys : List V), Same H H' → H' D = some (.lst ys) → Paired (fun x y => R x y H') (xs.filter p) ys → Qd H') :
    ∃ W : Nat → Nat → Hp → Prop, (∃ m, W 0 m (upd H D (.lst []))) ∧ ∀ i m H, W i m H →
      (J.stop i H ∧ Qd H) ∨ (J.go i H ∧ ∃ Nx : Hp → Prop, (∀ H', Nx H' → ∃ m', m' < m ∧ W (i + 1) m' H') ∧ ∀ x H', J.yld i H x H' → gName j x (wipe σ vs) H' fun σ2 H2 => wipe σ2 vs = wipe σ vs ∧ tt σ2 H2 fun b H3 =>
        if b = true then te σ2 H3 fun y H4 => ∃ acc, H4 D = some (.lst acc) ∧ acc.length < sizeLine ∧ Nx (upd H4 D (.lst (acc ++ [y]))) else Nx H3) := by
  refine lc_it w (fun i H' => ∃ ys : List V, Same H (rm D H') ∧ H' D = some (.lst ys) ∧ Paired (fun x y => R x y (rm D H')) ((xs.take i).filter p) ys) ⟨[], ?_, L2.upd_same, .nil⟩ (fun i H' _ h => by obtain ⟨_, k, _⟩ := h; exact hG H' (k.trans rm_le)) ?_ ?_
  · rw [rm_updS]
    exact rm_in hD (Same.refl _)
  · rintro i x H1 H' hi ⟨ys, h1, h3, h4⟩ ⟨rfl, hx⟩
    refine ⟨wp _, tst i x _ hx (h1.trans rm_le) _ ?_⟩
    have e : xs[i] = x := by rw [List.getElem?_eq_getElem hi] at hx; exact Option.some.inj hx
    have tk : xs.take (i + 1) = xs.take i ++ [x] := by rw [List.take_succ_eq_append_getElem hi, e]
    have el := h4.length
    have hle := List.length_filter_le p (xs.take i)
    rw [List.length_take] at hle
    cases hp : p x with
    | true =>
      rw [if_pos rfl]
      refine step i x _ hx hp (h1.trans rm_le) ⟨_, h3⟩ _ fun y H2 s2 r => ?_
      refine ⟨ys, s2 _ _ h3, ?_, ys ++ [y], ?_, L2.upd_same, ?_⟩
      · have : (100000 : Nat) < sizeLine := by decide
        omega
      · rw [rm_updS]
        exact h1.trans s2.rm
      · rw [rm_updS, tk, List.filter_append, List.filter_cons, if_pos hp, List.filter_nil]
        exact paired_appQ (paired_imp (fun _ _ z => mono _ _ _ _ s2.rm z) h4) (.cons r .nil)
    | false =>
      rw [if_neg (by decide)]
      refine ⟨ys, h1, h3, ?_⟩
      rw [tk, List.filter_append, List.filter_cons, if_neg (by rw [hp]; decide), List.filter_nil, List.append_nil]
      exact h4
  · rintro H' ⟨ys, h1, h3, h4⟩
    rw [List.take_length] at h4
    exact q H' ys (h1.trans rm_le) h3 (paired_imp (fun _ _ z => mono _ _ _ _ rm_le z) h4)
end
theorem w_iZipTL {K : PySem.W.Frag} {ta : TA} {σ : L2.St} {H : Hp} {R : It → Hp → Prop} (q : ta σ H fun vs H1 => ∃ a b xs ys, vs = [.ref a, .ref b] ∧ SqT K H1 a xs ∧ SqL K H1 b ys ∧ R (Itq K a b) H1) : iZipTL K ta σ H R := q
noncomputable def unk (k : List Key) : List Int := k.map fun x => match x with | .inl i => i | .inr _ => 0
theorem unk_kk (k : List Int) : unk (kk k) = k := by
  unfold unk kk
  rw [List.map_map]
  exact List.map_id' k
end Bc
namespace Bc
open PySem PySem.Spec PyProof.Rows L2
theorem walk_zipTT {K : PySem.W.Frag} {a b : Addr} {xs ys : List V} (hn : xs.length = ys.length) : Walk (RZ.ItzT K a b) xs.length (fun H => SqT K H a xs ∧ SqT K H b ys) (YPair (fun i => xs[i]?) (fun i => ys[i]?)) := by
  refine ⟨fun i _ hi q => ⟨xs, ys, xs[i], ys[i], q.1, q.2, List.getElem?_eq_getElem hi, List.getElem?_eq_getElem (by omega)⟩, fun _ q => ⟨xs, ys, q.1, q.2, .inl (Nat.le_refl _)⟩, fun i H v H' _ q y => ?_⟩
  obtain ⟨T, x, z, e1, e2, e3, e4, e5⟩ := y
  exact ⟨T, x, z, e1, e2, e3, e4 xs q.1, e5 ys q.2⟩
section
variable {K : PySem.W.Frag} {te : TE} {vs : List Nat} {σ : L2.St} {H : Hp} {D a b : Addr} {Qd : Hp → Prop} {j1 j2 : Nat}
theorem lc_zipTT (xs ys zs : List Int) (hl : xs.length = ys.length) (hz : zs.length = xs.length) (hD : H D = none) (hG : ∀ H', Same H H' → SqT K H' a (xs.map V.int) ∧ SqT K H' b (ys.map V.int)) (sz : xs.length ≤ 100000)
    (wp : ∀ v u, wipe (((wipe σ vs).set j1 v).set j2 u) vs = wipe σ vs)
    (step : ∀ (i : Nat) (x y z : Int) (H' : Hp), xs[i]? = some x → ys[i]? = some y → zs[i]? = some z → Same H H' → ∀ Q' : VK, (∀ (H'' : Hp), Same H' H'' → Q' (.int z) H'') → te (((wipe σ vs).set j1 (some (.int x))).set j2 (some (.int y))) H' Q')
    (q : ∀ (H' : Hp), Same H H' → H' D = some (.lst (zs.map V.int)) → Qd H') :
    ∃ W : Nat → Nat → Hp → Prop, (∃ m, W 0 m (upd H D (.lst []))) ∧ ∀ i m H, W i m H →
      ((RZ.ItzT K a b).stop i H ∧ Qd H) ∨ ((RZ.ItzT K a b).go i H ∧ ∃ Nx : Hp → Prop, (∀ H', Nx H' → ∃ m', m' < m ∧ W (i + 1) m' H') ∧ ∀ x H', (RZ.ItzT K a b).yld i H x H' → gTup K 2 (gCons (gName j1) (gCons (gName j2) gNil)) x (wipe σ vs) H' fun σ2 H2 => wipe σ2 vs = wipe σ vs ∧ tYes σ2 H2 fun b H3 =>
        if b = true then te σ2 H3 fun y H4 => ∃ acc, H4 D = some (.lst acc) ∧ acc.length < sizeLine ∧ Nx (upd H4 D (.lst (acc ++ [y]))) else Nx H3) := by
  have hn : (xs.map V.int).length = xs.length := List.length_map _
  have w := walk_zipTT (K := K) (a := a) (b := b) (xs := xs.map V.int) (ys := ys.map V.int) (by rw [List.length_map, List.length_map, hl])
  rw [hn] at w
  refine lc_it w (fun i H' => Same H (rm D H') ∧ H' D = some (.lst ((zs.take i).map V.int)))
    ⟨by rw [rm_updS]; exact rm_in hD (Same.refl _), upd_same⟩ (fun i H' _ h => hG H' (h.1.trans rm_le)) ?_ ?_
  · rintro i x H1 H2 hi ⟨h1, h3⟩ ⟨T, x1, y1, rfl, nT, rfl, e1, e2⟩
    obtain ⟨x0, ex0, rfl⟩ := get_map e1
    obtain ⟨y0, ey0, rfl⟩ := get_map e2
    have nDT : D ≠ T := fun e => by rw [e, nT] at h3; cases h3
    refine w_gtup (sqt upd_same) rfl (w_gcons (w_name (w_gcons (w_name (w_gnil ⟨wp _ _, w_yes ?_⟩)))))
    rw [if_pos rfl]
    have sT : Same H1 (upd H1 T (.tup [.int x0, .int y0])) := Same.new nT
    generalize upd H1 T (.tup [V.int x0, V.int y0]) = H2 at sT ⊢
    have hiz : zs[i]? = some zs[i] := List.getElem?_eq_getElem (by omega)
    refine step i x0 y0 zs[i] H2 ex0 ey0 hiz ((h1.trans rm_le).trans sT) _ fun H3 s3 => ?_
    refine ⟨_, s3 _ _ (sT _ _ h3), ?_, ?_, ?_⟩
    · have : (100000 : Nat) < sizeLine := by decide
      rw [List.length_map, List.length_take]
      omega
    · rw [rm_updS]
      exact h1.trans (sT.trans s3).rm
    · rw [upd_same, List.take_succ_eq_append_getElem (by omega), List.map_append]
      rfl
  · rintro H' ⟨h1, h3⟩
    rw [List.take_of_length_le (by omega)] at h3
    exact q H' (h1.trans rm_le) h3
end
theorem w_iZipA {K : PySem.W.Frag} {ta : TA} {σ : L2.St} {H : Hp} {R : It → Hp → Prop} (q : ta σ H fun vs H1 => ∃ a b xs ys, vs = [.ref a, .ref b] ∧ ((SqL K H1 a xs ∧ SqL K H1 b ys ∧ R (Itz K a b) H1) ∨ (SqT K H1 a xs ∧ SqT K H1 b ys ∧ R (RZ.ItzT K a b) H1))) : RZ.iZipA K ta σ H R := q
end Bc
namespace Bc
open PySem PySem.Spec PyProof.Rows L2
noncomputable abbrev NK := PySem.NestedKey
mutual
inductive KIs (H : Hp) : NK → V → Prop
  | int (i : Int) : KIs H (.num i) (.int i)
  | bl (b : Bool) : KIs H (.num (if b = true then 1 else 0)) (.bl b)
  | tup {a : Addr} {vs : List V} {ks : List NK} : H a = some (.tup vs) → KAll H ks vs → KIs H (.tup ks) (.ref a)
inductive KAll (H : Hp) : List NK → List V → Prop
  | nil : KAll H [] []
  | cons {k : NK} {v : V} {ks : List NK} {vs : List V} : KIs H k v → KAll H ks vs → KAll H (k :: ks) (v :: vs)
end
section
variable {P : Program} {w : World} {H H' : Hp} {h : Heap}
mutual
theorem KIs.nested (ok : HOk P w H h) : ∀ (k : NK) (v : V) (u : Value), KIs H k v → RelV v u → PySem.NestedIs h k u
  | .none, _, _, x, _ => by cases x
  | .num i, _, u, x, r => by
    cases x with
    | int =>
      obtain ⟨t, rfl⟩ := r
      exact .int _ _
    | bl b =>
      cases r
      exact .bool rfl
  | .text _, _, _, x, _ => by cases x
  | .tup ks, _, u, x, r => by
    cases x with
    | tup ha hk =>
      cases r
      obtain ⟨_, its, rv, o, h1, h2, n, h3⟩ := ok _ _ ha
      exact .tup h1 h2 h3 (by simpa using KAll.nested ok ks _ its hk rv)
theorem KAll.nested (ok : HOk P w H h) : ∀ (ks : List NK) (vs : List V) (us : List Value), KAll H ks vs → Vals vs us → PySem.NestedAll h ks us
  | [], _, _, x, r => by
    cases x
    cases r
    exact .nil
  | k :: ks, _, _, x, r => by
    cases x with
    | cons x1 x2 =>
      cases r with
      | cons r1 r2 => exact .cons (KIs.nested ok k _ _ x1 r1) (KAll.nested ok ks _ _ x2 r2)
end
mutual
theorem KIs.keeps (s : ∀ b ys, H b = some (.tup ys) → H' b = some (.tup ys)) : ∀ (k : NK) (v : V), KIs H k v → KIs H' k v
  | .none, _, x => by cases x
  | .num i, _, x => by
    cases x with
    | int => exact .int _
    | bl b => exact .bl b
  | .text _, _, x => by cases x
  | .tup ks, _, x => by
    cases x with
    | tup ha hk => exact .tup (s _ _ ha) (KAll.keeps s ks _ hk)
theorem KAll.keeps (s : ∀ b ys, H b = some (.tup ys) → H' b = some (.tup ys)) : ∀ (ks : List NK) (vs : List V), KAll H ks vs → KAll H' ks vs
  | [], _, x => by
    cases x
    exact .nil
  | k :: ks, _, x => by
    cases x with
    | cons x1 x2 => exact .cons (KIs.keeps s k _ x1) (KAll.keeps s ks _ x2)
end
end
noncomputable abbrev NE := NK × Addr × V
noncomputable abbrev NT : List NE → List (NK × Addr × Value) → Prop := Paired fun p q => p.1 = q.1 ∧ p.2.1 = q.2.1 ∧ RelV p.2.2 q.2.2
noncomputable def nval (kvs : List NE) (k : NK) : Option V := (kvs.find? fun x => decide (x.1 = k)).map (·.2.2)
noncomputable def nrepl (k : NK) (v : V) (x : NE) : NE := if x.1 = k then (x.1, x.2.1, v) else x
noncomputable def nput (kvs : List NE) (k : NK) (a : Addr) (v : V) : List NE := if (nval kvs k).isSome then kvs.map (nrepl k v) else kvs ++ [(k, a, v)]
theorem NT.val {kvs : List NE} {xs : List (NK × Addr × Value)} (r : NT kvs xs) (k : NK) : RelO (nval kvs k) ((PySem.atKey xs k).map (·.2)) := by
  induction r with
  | nil => exact True.intro
  | @cons p q ps qs h t ih =>
    obtain ⟨h1, _, h2⟩ := h
    by_cases e : p.1 = k
    · have e' : q.1 = k := h1.symm.trans e
      have b : PySem.atKey (q :: qs) k = some q.2 := by simp [PySem.atKey, List.find?_cons, e']
      have c : nval (p :: ps) k = some p.2.2 := by simp [nval, List.find?_cons, e]
      rw [c, b]; exact h2
    · have e' : ¬ q.1 = k := fun z => e (h1.trans z)
      have b : PySem.atKey (q :: qs) k = PySem.atKey qs k := by simp [PySem.atKey, List.find?_cons, e']
      have c : nval (p :: ps) k = nval ps k := by simp [nval, List.find?_cons, e]
      rw [c, b]; exact ih
theorem NT.repl {kvs : List NE} {xs : List (NK × Addr × Value)} (r : NT kvs xs) (k : NK) {y : V} {u : Value} (ry : RelV y u) : NT (kvs.map (nrepl k y)) (xs.map (PySem.putAt k u)) := by
  induction r with
  | nil => exact .nil
  | @cons p q ps qs h t ih =>
    rw [List.map_cons, List.map_cons]
    refine .cons ?_ ih
    obtain ⟨h1, h2, h3⟩ := h
    unfold PySem.putAt nrepl
    by_cases e : p.1 = k
    · rw [if_pos e, if_pos (h1.symm.trans e)]; exact ⟨h1, h2, ry⟩
    · rw [if_neg e, if_neg (fun z => e (h1.trans z))]; exact ⟨h1, h2, h3⟩
theorem NT.put {kvs : List NE} {xs : List (NK × Addr × Value)} (r : NT kvs xs) (k : NK) {b : Addr} {y : V} {u : Value} (ry : RelV y u) : NT (nput kvs k b y) (PySem.storedH xs k b u) := by
  have e : (nval kvs k).isSome = (PySem.atKey xs k).isSome := by rw [(r.val k).isSome_eq, Option.isSome_map]
  unfold nput PySem.storedH
  rw [e]
  by_cases q : (PySem.atKey xs k).isSome = true
  · rw [if_pos q, if_pos q]; exact r.repl k ry
  · rw [if_neg q, if_neg q]; exact Paired.snoc r ⟨rfl, rfl, ry⟩
theorem length_nput (kvs : List NE) (k : NK) (a : Addr) (v : V) : (nput kvs k a v).length ≤ kvs.length + 1 := by
  unfold nput
  split
  · rw [List.length_map]; omega
  · rw [List.length_append]; exact Nat.le_refl _
/-- the object of such a dict -/
noncomputable def ndP (P : Program) (w : World) (d : Addr) (kvs : List NE) : Heap → Prop := fun h => kvs.length ≤ sizeLine ∧ (d == sysModules) = false ∧ ∃ xs : List (NK × Addr × Value), NT kvs xs ∧
  ∃ o es ep, h.get? d = some o ∧ o.ExactDict ∧ o.data = .dict es ep ∧ es.toList = xs.map (entryOfKey (nestedKind P w)) ∧ (xs.map (·.1)).Nodup
noncomputable def ndO (P : Program) (w : World) (d : Addr) (kvs : List NE) : HO := .ext (ndP P w d kvs)
theorem ndP.stay {P : Program} {w : World} {d : Addr} {kvs : List NE} : ∀ h1 h2 : Heap, ndP P w d kvs h1 → (∀ o, h1.get? d = some o → h2.get? d = some o) → ndP P w d kvs h2 := fun h1 h2 x k => by
  obtain ⟨z, y, xs, r, o, es, ep, ho, c⟩ := x
  exact ⟨z, y, xs, r, o, es, ep, k _ ho, c⟩
noncomputable def KeysAt (H : Hp) (kvs : List NE) : Prop := ∀ x ∈ kvs, KIs H x.1 (.ref x.2.1) ∧ x.1.depth ≤ 8
theorem KeysAt.keeps {H H' : Hp} {kvs : List NE} (h : KeysAt H kvs) (s : ∀ b ys, H b = some (.tup ys) → H' b = some (.tup ys)) : KeysAt H' kvs := fun x hx => ⟨KIs.keeps s _ _ (h x hx).1, (h x hx).2⟩
/-- d is such a dict, to be read or written -/
noncomputable def ND (P : Program) (w : World) (H : Hp) (d : Addr) (kvs : List NE) : Prop := H d = some (ndO P w d kvs) ∧ KeysAt H kvs
theorem ND.same {P : Program} {w : World} {H H' : Hp} {d : Addr} {kvs : List NE} (h : ND P w H d kvs) (s : Same H H') : ND P w H' d kvs := ⟨s _ _ h.1, h.2.keeps fun _ _ e => s _ _ e⟩
section
variable {P : Program} {w : World} {H : Hp} {h : Heap} {a : Addr} {kvs : List NE}
theorem nd_of (ok : HOk P w H h) (e : ND P w H a kvs) : kvs.length ≤ sizeLine ∧ (a == sysModules) = false ∧ ∃ xs, NT kvs xs ∧ h.DictOfH (nestedKind P w) a xs := by
  obtain ⟨e, ka⟩ := e
  obtain ⟨⟨z, y, xs, r, o, es, ep, h1, h2, h3, h4, h5⟩, _, _⟩ := (show ObjOk P w H h a (ndO P w a kvs) from ok a _ e)
  refine ⟨z, y, xs, r, o, es, ep, h1, h2, h3, h4, fun x hx => ?_, h5⟩
  obtain ⟨i, hi⟩ := List.getElem?_of_mem hx
  obtain ⟨p, hp, e1, e2, _⟩ := paired_get r hi
  obtain ⟨k1, k2⟩ := ka p (List.mem_of_getElem? hp)
  rw [e1] at k1 k2
  rw [e2] at k1
  exact ⟨KIs.nested ok _ _ _ k1 rfl, k2⟩
end
section
variable {X : Cx} {pins : List (Addr × Obj)} {σ : L2.St} {H : Hp} {s : Shared} {a b : Addr} {v : V} {u r : Value} {A : Around} {E : Value → Shared → Prop} {kvs : List NE} {k : NK}
theorem nd_key (ok : HOk X.prog X.w H s.heap) (hk : KIs H k (.ref b)) (dk : k.depth ≤ 8) : (nestedKind X.prog X.w).is s.heap k b := ⟨KIs.nested ok _ _ _ hk rfl, dk⟩
theorem nd_room {A : Around} (hu : A.units + 64 < cLine) : (nestedKind X.prog X.w).room A.in1 := by
  show A.in1.units + 8 < cLine
  have : A.in1.units = A.units + 1 := rfl
  omega
/-- d[y] = v -/
theorem nd_setItem {Q : Unit → Shared → Prop} (hu : A.units + 64 < cLine) (I : Inv X pins σ H s) (e : ND X.prog X.w H a kvs) (hk : KIs H k (.ref b)) (dk : k.depth ≤ 8) (rv : RelV v r) (hl : kvs.length < sizeLine)
    (h : ∀ s', Inv X pins σ (upd H a (ndO X.prog X.w a (nput kvs k b v))) s' → Q () s') : wpAny (model X.prog X.w) A (setItem (.ref a) (.ref b) r) Q E s := by
  obtain ⟨z, hd, xs, rel, dd⟩ := nd_of I.hok e
  have hz : xs.length ≤ sizeLine := by rw [← Paired.length rel]; exact z
  have hl2 : (nput kvs k b v).length ≤ sizeLine := by have := length_nput kvs k b v; omega
  refine wpAny_setItem_heap (hsz := hz) (nd_room hu) (nd_key I.hok hk dk) dd fun h' dd' hs => h _ ?_
  obtain ⟨q, es, ep, hq, h2, h3, h4, _, h5⟩ := dd'
  refine d_write I (by rw [e.1]; exact True.intro) hs ⟨q, hq⟩ ?_
  exact ⟨⟨hl2, hd, _, rel.put k rv, q, es, ep, hq, h2, h3, h4, h5⟩, ⟨q, hq⟩, ndP.stay⟩
end
theorem ND.put {P : Program} {w : World} {H : Hp} {a b : Addr} {kvs : List NE} {k : NK} {v : V} (e : ND P w H a kvs) (hk : KIs H k (.ref b)) (dk : k.depth ≤ 8) : ND P w (upd H a (ndO P w a (nput kvs k b v))) a (nput kvs k b v) := by
  have st : ∀ c ys, H c = some (.tup ys) → upd H a (ndO P w a (nput kvs k b v)) c = some (.tup ys) := fun c ys h => by
    rw [upd_ne (fun z => by rw [z, e.1] at h; cases h)]
    exact h
  refine ⟨upd_same, fun x hx => ?_⟩
  unfold nput at hx
  split at hx
  · obtain ⟨y, hy, rfl⟩ := List.mem_map.mp hx
    have hyk := e.2 y hy
    unfold nrepl
    split
    · exact ⟨KIs.keeps st _ _ hyk.1, hyk.2⟩
    · exact ⟨KIs.keeps st _ _ hyk.1, hyk.2⟩
  · rcases List.mem_append.mp hx with h | h
    · exact ⟨KIs.keeps st _ _ (e.2 x h).1, (e.2 x h).2⟩
    · rw [List.mem_singleton.mp h]
      exact ⟨KIs.keeps st _ _ hk, dk⟩
noncomputable def tDNewN (P : Program) (w : World) : TE := fun _ H Q => ∀ p, H p = none → atV Q (.ref p) (upd H p (ndO P w p []))
noncomputable def rSetN (P : Program) (w : World) : TSet := fun o i v H Q => ∃ a b kvs k, o = .ref a ∧ i = .ref b ∧ ND P w H a kvs ∧ KIs H k (.ref b) ∧ k.depth ≤ 8 ∧ kvs.length < sizeLine ∧ Q (upd H a (ndO P w a (nput kvs k b v)))
section
variable {X : Cx} {pos : Pos} {o i : Expr} {td ty : TE}
theorem nd_empty {P : Program} {w : World} {H : Hp} (h : Heap) (hb : sysModules < h.objs.size) : ObjOk P w H (h.push { cls := .type "dict", data := .dict #[] }) h.objs.size (ndO P w h.objs.size []) :=
  ⟨⟨Nat.zero_le _, beq_eq_false_iff_ne.mpr (Ne.symm (Nat.ne_of_lt hb)), [], .nil, _, #[], 0, Heap.get?_push_size _ rfl, ⟨rfl, rfl, rfl⟩, rfl, rfl, List.nodup_nil⟩, ⟨_, Heap.get?_push_size _ rfl⟩, ndP.stay⟩
theorem pe_dnewN : PE X (.Dict [] [] pos) (tDNewN X.prog X.w) := ⟨fun pins s σ H Q I h =>
  wpAny_Dict_empty ⟨.ref s.heap.objs.size, _, I.laid (a := s.heap.objs.size) (o := ndO X.prog X.w s.heap.objs.size []) (t' := s.toks) (fun _ _ q => Heap.get?_push_of_some _ q) (Nat.le_refl _) (nd_empty s.heap I.big), rfl, h _ (I.hok.fresh (Nat.le_refl _))⟩⟩
theorem set_dictN (hu : X.A.units + 64 < cLine) : PSet X (rSetN X.prog X.w) := by
  intro pins s σ H o i v ov iv u Q I ro ri rv h
  obtain ⟨a, b, kvs, k, rfl, rfl, e, hk, dk, hl, q⟩ := h
  cases (show ov = Value.ref a from ro)
  cases (show iv = Value.ref b from ri)
  exact nd_setItem hu I e hk dk rv hl fun s' I' => ⟨_, I', q⟩
/-- y in d, y not in d: flat tuples, ints and texts as keys -/
noncomputable def rInT : R2 := fun y x H Q => ∃ a o, x = .ref a ∧ DGet H a y o ∧ Q (.bl o.isSome) H
theorem op_inT (hu : X.A.units + 64 < cLine) : OpR X (compareOp .In) rInT := by
  intro pins s σ H y x v u Q I ry rx h
  obtain ⟨a, o, rfl, g, q⟩ := h
  cases (show u = Value.ref a from rx)
  exact d_in (by omega) I g ry fun s' I' => ⟨.bl o.isSome, H, I', rfl, q⟩
end
theorem inv_frzN {X : Cx} {pins : List (Addr × Obj)} {σ : L2.St} {H : Hp} {s : Shared} {d : Addr} {o : Obj} {kvs : List NE} (I : Inv X pins σ H s) (h : H d = some (.frz o (ndO X.prog X.w d kvs))) :
    (d == sysModules) = false ∧ s.heap.get? d = some o ∧ o.ExactDict ∧ ∃ (es : Array DictEntry) (ep : Nat), o.data = .dict es ep ∧ es.size = kvs.length ∧
      ∀ (i : Nat) (x : NE), kvs[i]? = some x → ∃ en : DictEntry, es[i]? = some en ∧ en.key = .ref x.2.1 := by
  obtain ⟨hd, ⟨z, hs, xs, pr, o', es, ep, ho, hx, hdt, he, _⟩, _, _⟩ := I.hok d _ h
  rw [hd] at ho
  cases ho
  refine ⟨hs, hd, hx, es, ep, hdt, ?_, fun i x e => ?_⟩
  · have l1 : es.size = xs.length := size_of_entries he
    have l2 : kvs.length = xs.length := Paired.length pr
    omega
  · obtain ⟨b, hb, e1, e2, _⟩ := L2.paired_get pr e
    have q := entry_at he i
    rw [hb] at q
    refine ⟨_, q, ?_⟩
    rw [e2]
    rfl
noncomputable def Itn (P : Program) (w : World) (d : Addr) (o : Obj) (kvs : List NE) : It :=
  ⟨fun i H => H d = some (.frz o (ndO P w d kvs)) ∧ i < kvs.length, fun i H x H' => H' = H ∧ ∃ e : NE, kvs[i]? = some e ∧ x = .ref e.2.1, fun i H => H d = some (.frz o (ndO P w d kvs)) ∧ kvs.length ≤ i⟩
theorem turn_keysN {P : Program} {w : World} {K : PySem.W.Frag} {tg : Expr} {d : Addr} {o : Obj} {es : Array DictEntry} {ep : Nat} {kvs : List NE} (it : Addr) (hod : o.data = .dict es ep) : Turn P w K tg (Itn P w d o kvs) [it] it (fun i h => h.IsKeyIter it d i kvs.length ep) where
  mem := by simp
  obj := fun i h st b hb => by
    have e : b = it := by simpa using hb
    subst e
    obtain ⟨oi, e, c, dd⟩ := st
    exact ⟨oi, e, fun v z => by rw [dd] at z; cases z⟩
  keep := fun i h h' st k => st.at fun oi e => k it (by simp) oi e
  item := by
    intro X hP hw hK hc i pins s σ H E I hf st hg
    subst hP hw hK
    obtain ⟨hd, hi⟩ := hg
    obtain ⟨f0, f1, f2, f3, f4, f5⟩ := hf it (by simp)
    obtain ⟨hs, hgd, hx, es', ep', hdt, hsz, ent⟩ := inv_frzN I hd
    obtain ⟨rfl, rfl⟩ := dict_ep hod hdt
    obtain ⟨x, hkv⟩ : ∃ p, kvs[i]? = some p := ⟨kvs[i], List.getElem?_eq_getElem hi⟩
    obtain ⟨en, hen, hkey⟩ := ent i x hkv
    refine next_key_item st hgd hdt hsz hen fun h' st' sb => ?_
    have I1 : Inv X pins σ H { s with heap := h' } := I.turned (t' := s.toks) (fun b ob hb e => (sb.2 b hb).trans e) f0 f1 f3 f4 f5
    obtain ⟨oi, e, c, dd⟩ := id st'
    exact ⟨en.key, rfl, go_of (s := { s with heap := h' }) e c dd (by decide) ⟨.ref x.2.1, H, I1, hkey, ⟨rfl, x, hkv, rfl⟩, st', fun b hb => (hf b hb).1⟩⟩
  done := by
    intro X hP hw hK hc i pins s σ H E I hf st hg
    subst hP hw hK
    obtain ⟨hd, hi⟩ := hg
    obtain ⟨f0, f1, f2, f3, f4, f5⟩ := hf it (by simp)
    obtain ⟨hs, hgd, hx, es', ep', hdt, hsz, ent⟩ := inv_frzN I hd
    obtain ⟨rfl, rfl⟩ := dict_ep hod hdt
    exact next_key_end (I.ok.hd hc) st hgd hdt hsz hi fun h' eb => ⟨rfl, I.turned (t' := s.toks) (fun b ob hb e => eb b ob hb e) f0 f1 f3 f4 f5⟩
  self := fun A i s Q E st h => wpAny_pyIter_keyiter st h
noncomputable def iKeysN (P : Program) (w : World) (td : TE) : TI := fun σ H R => td σ H fun x H1 => ∃ d o kvs, x = .ref d ∧ H1 d = some (.frz o (ndO P w d kvs)) ∧ R (Itn P w d o kvs) H1
theorem pi_keysN {X : Cx} {tg e : Expr} {td : TE} (he : PE X e td) : PI X tg e (iKeysN X.prog X.w td) := by
  refine ⟨fun pins s σ H R I h => ?_⟩
  refine thn (he.run pins s σ H _ I h) fun u s1 ⟨x, H1, I1, rx, d, o, kvs, ex, hd, q⟩ => ?_
  subst ex
  obtain rfl : u = Value.ref d := rx
  obtain ⟨hs, hgd, hx, es, ep, hdt, hsz, ent⟩ := inv_frzN I1 hd
  refine iter_keys hs hgd hx hdt (pi_one (tk := s1.toks) I1 _ (turn_keysN _ hdt) ⟨_, Heap.get?_push_size _ rfl, rfl, ?_⟩ q)
  rw [hsz] <;> rfl
theorem walk_keysN {P : Program} {w : World} {d : Addr} {o : Obj} {kvs : List NE} : Walk (Itn P w d o kvs) (kvs.map fun e => V.ref e.2.1).length (fun H => H d = some (.frz o (ndO P w d kvs))) (YAt (kvs.map fun e => V.ref e.2.1)) := by
  have hl : (kvs.map fun e : NE => V.ref e.2.1).length = kvs.length := List.length_map ..
  rw [hl]
  refine ⟨fun _ _ hi q => ⟨q, hi⟩, fun _ q => ⟨q, Nat.le_refl _⟩, fun i H x H' _ _ y => ?_⟩
  obtain ⟨e1, e, he, ex⟩ := y
  exact ⟨e1, by rw [List.getElem?_map, he, ex]; rfl⟩
section
variable {P : Program} {w : World} {H : Hp} {Q : VK} {a b : Addr} {kvs : List NE} {k : NK} {v : V} {td ty : TE} {σ : L2.St} {Qs : Hp → Prop}
theorem w_dnewND (q : ∀ p, H p = none → atV Q (.ref p) (upd H p (ndO P w p []))) : tDNewN P w σ H Q := q
theorem w_setND (e : ND P w H a kvs) (hk : KIs H k (.ref b)) (dk : k.depth ≤ 8) (hl : kvs.length < sizeLine) (q : Qs (upd H a (ndO P w a (nput kvs k b v)))) : rSetN P w (.ref a) (.ref b) v H Qs := ⟨a, b, kvs, k, rfl, rfl, e, hk, dk, hl, q⟩
theorem ND.new (np : H b = none) : ND P w (upd H b (ndO P w b [])) b [] := ⟨upd_same, fun x hx => nomatch hx⟩
end
end Bc
namespace Bc
open PySem PySem.Spec PyProof.Rows L2
section
open PySem
variable {prog : Program} {w : World} {K : Type} [DecidableEq K] {knd : HeapKind prog w K} {A : Around} {E : Value → Shared → Prop} {s : Shared}
theorem dictOfH_push {h : Heap} {d : Addr} {xs : List (K × Addr × Value)} {ob : Obj} (x : h.DictOfH knd d xs) (st : ∀ y ∈ xs, knd.is (h.push ob) y.1 y.2.1) : (h.push ob).DictOfH knd d xs := by
  obtain ⟨o, es, ep, ho, hx, hd, he, _, hn⟩ := x
  exact ⟨o, es, ep, Heap.get?_push_of_some _ ho, hx, hd, he, st, hn⟩
theorem call_dict_heap {o : Addr} {more : List (K × Addr × Value)} {Q : Value → Shared → Prop} (hu : ∀ A' : Around, A'.units ≤ A.units + 8 → knd.room A') (hoS : (o == sysModules) = false) (ho : s.heap.DictOfH knd o more) (hst : ∀ y ∈ more, knd.is (s.heap.push { cls := .type "dict", data := .dict #[] }) y.1 y.2.1)
    (hty : ∀ h' : Heap, (∀ b ob, s.heap.get? b = some ob → h'.get? b = some ob) → ∀ x ∈ more, ∃ ob, h'.get? x.2.1 = some ob ∧ ob.cls = .type "tuple") (hap : (more.map fun x => knd.hash x.1).Nodup) (hsz : more.length ≤ sizeLine)
    (h : ∀ h', h'.DictOfH knd s.heap.objs.size more → Heap.SameBut s.heap.objs.size (s.heap.push { cls := .type "dict", data := .dict #[] }) h' → Q (.ref s.heap.objs.size) { s with heap := h' }) :
    wpAny (model prog w) A (call (.type "dict") [.ref o]) Q E s := by
  refine callType_codes (Q₁ := fun obj s₁ => obj = .ref s.heap.objs.size ∧ s₁ = { s with heap := s.heap.push { cls := .type "dict", data := .dict #[] } }) F.kt_called_dict (F.kt_typeCall_dict_1 _) F.entry_dict_init (kt_code_dict_new _ ⟨rfl, rfl⟩) ?_
  rintro obj s₁ ⟨rfl, rfl⟩
  have hnew : (s.heap.push { cls := .type "dict", data := .dict #[] }).DictOfH knd s.heap.objs.size [] := Heap.DictOfH.new s.heap
  have ho' : (s.heap.push { cls := .type "dict", data := .dict #[] }).DictOfH knd o more := dictOfH_push ho hst
  have hn : (more.map (·.1)).Nodup := ho.nodup
  have hdo : s.heap.objs.size ≠ o := by
    obtain ⟨_, _, _, hg, _⟩ := ho
    exact fun e => absurd (Heap.lt_size hg) (by rw [e]; exact Nat.lt_irrefl _)
  refine ⟨hnew.typeIs, F.args_dict_init_2 _ _, ?_⟩
  unfold Builtin.«dict.__init__»
  refine wpAny_bind ?_
  unfold Builtin.Dict.selfAndRest
  refine wpAny_bind (wpAny_notOrdered_dict hnew.typeIs ?_)
  show wpAny _ _ (pure (s.heap.objs.size, [Value.ref o])) _ _ _
  refine wpAny_pure ?_
  show wpAny _ _ (Builtin.Dict.updateFrom "dict.__init__" s.heap.objs.size (.ref o) [] .none) _ _ _
  unfold Builtin.Dict.updateFrom
  refine wpAny_bind (wpAny_typeOf ho'.typeIs ?_)
  rw [if_neg (by decide)]
  refine wpAny_bind ?_
  unfold Builtin.Dict.merge
  refine wpAny_bind ?_
  unfold Builtin.Dict.readDirectly
  refine wpAny_bind (wpAny_isInstance ho'.typeIs isSubtype_dict_dict ?_)
  simp only [Bool.not_true, Bool.false_eq_true, if_false]
  refine wpAny_bind (wpAny_specialOf ho'.typeIs F.slot_dict_iter.lookup (wpAny_pure ?_))
  simp only [beq_self_eq_true, if_true]
  refine wpAny_bind (wpAny_pure ?_)
  refine wpAny_mergeDict_heap (hsz := by simpa using hsz) (hu _ (by simp [Around.in1]; try omega)) hdo hoS hnew ho' (.inr ⟨fun x hx => ?_, hap⟩) fun h' hd' _ hs' => ?_
  · obtain ⟨ob, e1, e2⟩ := hty _ (fun b ob e => Heap.get?_push_of_some _ e) x hx
    exact ⟨ob, e1, e2⟩
  · show wpAny _ _ (Builtin.Dict.addKeywords s.heap.objs.size [] >>= _) _ _ _
    rw [storedAllH_nil_of_nodup more hn] at hd'
    exact wpAny_bind (wpAny_pure (wpAny_pure ⟨rfl, h h' hd' hs'⟩))
end
noncomputable def hshT (P : Program) (w : World) (k : List Key) : Int := (tupleKind (mixKind P w)).hash k
noncomputable def mergeT (kvs more : List (List Key × V)) : List (List Key × V) := more.foldl (fun acc kv => putK acc kv.1 kv.2) kvs
theorem KT_merge {H : Hp} : ∀ {more : List (List Key × V)} {ys : List (List Key × Addr × Value)} {kvs : List (List Key × V)} {xs : List (List Key × Addr × Value)}, KT H more ys → KT H kvs xs → KT H (mergeT kvs more) (storedAllH xs ys)
  | [], [], _, _, _, h => h
  | p :: more, q :: ys, kvs, xs, .cons r t, h => by
    have e : KT H (putK kvs p.1 p.2) (storedH xs q.1 q.2.1 q.2.2) := by
      have := h.put p.1 r.2.1 r.2.2
      rw [r.1] at this ⊢
      exact this
    exact KT_merge (more := more) (ys := ys) t e
theorem length_mergeT : ∀ (more kvs : List (List Key × V)), (mergeT kvs more).length ≤ kvs.length + more.length
  | [], kvs => by show kvs.length ≤ kvs.length + 0; omega
  | p :: r, kvs => by
    have h1 := length_mergeT r (putK kvs p.1 p.2)
    have h2 := length_putK kvs p.1 p.2
    show (mergeT (putK kvs p.1 p.2) r).length ≤ _
    rw [List.length_cons]; omega
theorem KT_hashes {P : Program} {w : World} {H : Hp} {kvs : List (List Key × V)} {xs : List (List Key × Addr × Value)} (h : KT H kvs xs) : (xs.map fun x => (tupleKind (mixKind P w)).hash x.1) = kvs.map fun kv => hshT P w kv.1 := by
  induction h with
  | nil => rfl
  | cons r t ih =>
    rw [List.map_cons, List.map_cons, ih, ← r.1]
    rfl
theorem KT_tups {P : Program} {w : World} {H : Hp} {h h' : Heap} {kvs : List (List Key × V)} {xs : List (List Key × Addr × Value)} (r : KT H kvs xs) (ok : HOk P w H h) (k : ∀ b ob, h.get? b = some ob → h'.get? b = some ob) : ∀ x ∈ xs, (tupleKind (mixKind P w)).is h' x.1 x.2.1 ∧ ∃ ob, h'.get? x.2.1 = some ob ∧ ob.cls = .type "tuple" := fun x hx => by
  obtain ⟨i, hi⟩ := List.getElem?_of_mem hx
  obtain ⟨p, _, e1, e2, _⟩ := paired_get r hi
  have e3 : (tupleKind (mixKind P w)).is h x.1 x.2.1 := by
    rw [← e1]
    exact key_of ok e2
  obtain ⟨o, items, n, h1, h2, h3, h4⟩ := e3
  exact ⟨⟨o, items, n, k _ _ h1, h2, h3, h4⟩, o, k _ _ h1, h2⟩
section
variable {X : Cx}
noncomputable def rDictT (P : Program) (w : World) : List V → Hp → VK → Prop := fun xs H Q => ∃ (a : Addr) (kvs : List (List Key × V)), xs = [.ref a] ∧ Rd H a (.dT kvs) ∧ (kvs.map fun kv => hshT P w kv.1).Nodup ∧ ∀ p, H p = none → atV Q (.ref p) (upd H p (.dT kvs))
theorem call_dictT (hu : X.A.units + 64 < cLine) : CallR X (.type "dict") (rDictT X.prog X.w) := by
  intro pins s σ H xs us Q I r q
  obtain ⟨a, kvs, ex, hd, hn, q⟩ := q
  subst ex
  obtain ⟨u, eu, rx⟩ := vals1 r
  subst eu
  cases rx
  obtain ⟨z, lo, ys, rel, dd⟩ := dt_rd I.hok hd
  have hz : ys.length ≤ sizeLine := by rw [← Paired.length rel]; exact z
  refine call_dict_heap (knd := tupleKind (mixKind X.prog X.w)) (fun A' hA => ?_) lo dd (fun y hy => (KT_tups rel I.hok (fun b ob e => Heap.get?_push_of_some _ e) y hy).1) (fun h' k x hx => (KT_tups rel I.hok k x hx).2) (by rw [KT_hashes rel]; exact hn) hz fun h' d' hs => ?_
  · show A'.units < cLine
    omega
  · have hm : (s.heap.objs.size == sysModules) = false := beq_eq_false_iff_ne.mpr (Nat.ne_of_gt I.big)
    have hf := I.hok.fresh (Nat.le_refl s.heap.objs.size)
    obtain ⟨o, es, ep, h1, h2, h3, h4, _, h5⟩ := d'
    exact ⟨.ref s.heap.objs.size, upd H s.heap.objs.size (.dT kvs), I.laid (t' := s.toks) (fun b u e => (hs.2 b (Nat.ne_of_lt (Heap.lt_size e))).trans (Heap.get?_push_of_some _ e)) (Nat.le_refl _)
      (show ObjOk X.prog X.w _ _ _ (.dT kvs) from ⟨z, hm, ys, rel.keeps (fun b xs e => by rw [upd_ne (ne_of_none e hf)]; exact e), o, es, ep, h1, h2, h3, h4, h5⟩), rfl, q _ hf⟩
noncomputable def rUpdT (P : Program) (w : World) : V → List V → Hp → VK → Prop := fun x xs H Q => ∃ (a b : Addr) (kvs more : List (List Key × V)), x = .ref a ∧ xs = [.ref b] ∧ a ≠ b ∧ H a = some (.dT kvs) ∧ Rd H b (.dT more) ∧ (kvs ≠ [] ∨ (more.map fun kv => hshT P w kv.1).Nodup) ∧ kvs.length + more.length ≤ sizeLine ∧ Q .non (upd H a (.dT (mergeT kvs more)))
theorem mt_updateT (hu : X.A.units + 64 < cLine) : MtR X "dict.update" (rUpdT X.prog X.w) := by
  intro pins s σ H x xs v us Q I rx rxs h
  obtain ⟨a, b, kvs, more, rfl, rfl, hab, ha, hb, hap, hsz, q⟩ := h
  cases rx
  obtain ⟨u, rfl, r1⟩ := vals1 rxs
  cases r1
  obtain ⟨z, hd, xs', rel, dd⟩ := dt_of I.hok ha
  obtain ⟨z2, hd2, ys, rel2, dd2⟩ := dt_rd I.hok hb
  have l1 := Paired.length rel
  have l2 := Paired.length rel2
  refine call_update_dictH (knd := tupleKind (mixKind X.prog X.w)) (tupleKind_room_in1 (by omega)) hab hd2 dd dd2 ?_ (by omega) fun h' dd' _ hs => ?_
  · rcases hap with h | h
    · left
      intro e
      subst e
      cases rel
      exact h rfl
    · exact .inr ⟨fun x hx => (KT_tups rel2 I.hok (fun b ob e => e) x hx).2, by rw [KT_hashes rel2]; exact h⟩
  · obtain ⟨o, es, ep, hq, h2, h3, h4, _, h5⟩ := dd'
    have lm := length_mergeT more kvs
    have I2 : Inv X pins σ (upd H a (.dT (mergeT kvs more))) { s with heap := h', toks := s.toks } :=
      d_write I (by rw [ha]; exact True.intro) hs ⟨o, hq⟩ ⟨by omega, hd, _, (KT_merge rel2 rel).keeps (fun c ys ec => (by rw [upd_ne (ne_of ec ha (fun z => nomatch z))]; exact ec)), o, es, ep, hq, h2, h3, h4, h5⟩
    exact ⟨.non, _, I2, rfl, q⟩
end
/-- {k: v}: one pair, the key a flat tuple -/
noncomputable def tDisp1 (tk tv : TE) : TE := fun σ H Q => ∀ p, H p = none → tk σ (upd H p (.dT [])) fun x H1 => tv σ H1 fun y H2 => ∃ (b : Addr) (k : List Key), x = .ref b ∧ H2 p = some (.dT []) ∧ H2 b = some (.tup (k.map kV)) ∧ atV Q (.ref p) (upd H2 p (.dT [(k, y)]))
theorem pe_disp1 {X : Cx} {pos : Pos} {k v : Expr} {tk tv : TE} (hu : X.A.units + 64 < cLine) (hk : PE X k tk) (hv : PE X v tv) : PE X (.Dict [some k] [v] pos) (tDisp1 tk tv) := by
  refine ⟨fun pins s σ H Q I q => ?_⟩
  have hn := I.hok.fresh (Nat.le_refl s.heap.objs.size)
  have I1 := I.laid (a := s.heap.objs.size) (o := .dT []) (h' := s.heap.push { cls := .type "dict", data := .dict #[] }) (t' := s.toks) (fun _ _ q => Heap.get?_push_of_some _ q) (Nat.le_refl _) (dt_empty s.heap I.big)
  have hp := (pps_cons (pos := pos) hk hv (pps_nil (X := X) (pos := pos))).run pins _ σ _ (fun ps H2 => ∃ x y, ps = [(x, y)] ∧ ∃ (b : Addr) (k : List Key), x = .ref b ∧ H2 s.heap.objs.size = some (.dT []) ∧ H2 b = some (.tup (k.map kV)) ∧ atV Q (.ref s.heap.objs.size) (upd H2 s.heap.objs.size (.dT [(k, y)]))) I1 (by
    have h := q _ hn
    have mono : ∀ {t : TE} {σ : L2.St} {H : Hp} {P P' : VK}, P = P' → t σ H P → t σ H P' := fun e h => e ▸ h
    refine mono ?_ h
    funext x H1
    refine congrArg (tv σ H1) ?_
    funext y H2
    refine propext ⟨fun h => ⟨x, y, rfl, h⟩, fun h => ?_⟩
    obtain ⟨x', y', e, h⟩ := h
    cases e
    exact h)
  rw [arm_eval_Dict, zip_pairTrees [some k] [v] X.env pos rfl rfl, dictDisplay_pairs (pairTrees [some k] [v] X.env pos) (by
    intro he
    have := pairTrees_length [some k] [v] X.env pos rfl rfl
    rw [he] at this
    cases this) (by rw [pairTrees_length [some k] [v] X.env pos rfl rfl]; simp)]
  refine wpAny_bind (wpAny_standAt (wpAny_bind (wpAny_subDictH (knd := tupleKind (mixKind X.prog X.w)) (Q := fun d s' => wpAny (model X.prog X.w) X.A (pure (Value.ref d)) (EP X pins σ Q) X.xe s') (by show X.A.units < cLine; omega) (by rw [pairTrees_length [some k] [v] X.env pos rfl rfl]; simp)
    (wpAny_mono hp (fun vs s₁ h₁ => ?_) fun _ _ e => e))))
  obtain ⟨ps, H2, I2, rel, x, y, rfl, b, kk, rfl, hd, hb, q2⟩ := h₁
  cases rel with
  | @cons p0 q0 _ _ r t =>
    cases t
    obtain ⟨q1, q3⟩ := q0
    obtain ⟨r1, r2⟩ := r
    cases (show q1 = Value.ref b from r1)
    obtain ⟨z, hds, xs0, r0, dd⟩ := dt_of I2.hok hd
    cases r0
    refine ⟨[(kk, b, q3)], ⟨rfl, rfl, key_of I2.hok hb, trivial⟩, dd, fun h' tk dd' hs => wpAny_pure ?_⟩
    obtain ⟨o, es, ep, hq, h2, h3, h4, _, h5⟩ := dd'
    refine ⟨.ref s.heap.objs.size, upd H2 s.heap.objs.size (.dT [(kk, y)]), d_write I2 (by rw [hd]; exact True.intro) hs ⟨o, hq⟩ ⟨by show 1 ≤ sizeLine; decide, hds, [(kk, b, q3)], .cons ⟨rfl, ?_, r2⟩ .nil, o, es, ep, hq, h2, h3, h4, h5⟩, rfl, q2⟩
    show upd H2 s.heap.objs.size _ b = _
    rw [upd_ne (ne_of hb hd (fun z => nomatch z))]
    exact hb
end Bc
namespace Bc
open PySem PySem.Spec PyProof.Rows L2
noncomputable def vecF (bs : List Int) (N : Int) (F : Int → Int) : List Int := bs.map fun b => F b % N
theorem vecF_eq {bs : List Int} {N : Int} {F G : Int → Int} : vecF bs N F = vecF bs N G ↔ ∀ b ∈ bs, F b % N = G b % N := by
  unfold vecF
  exact List.map_inj_left
theorem vecF_len {bs : List Int} {N : Int} {F : Int → Int} : (vecF bs N F).length = bs.length := List.length_map ..
theorem vecF_rng {bs : List Int} {N : Int} (hN : 0 < N) {F : Int → Int} : ∀ x ∈ vecF bs N F, 0 ≤ x ∧ x < N := fun x hx => by
  obtain ⟨b, _, rfl⟩ := List.mem_map.mp hx
  exact ⟨Int.emod_nonneg _ (by omega), Int.emod_lt_of_pos _ hN⟩
noncomputable def wtV (bs : List Int) (w : Int → Int) : List Int := bs.map w
noncomputable def mvV (N : Int) (r W : List Int) (s : Int) : List Int := List.zipWith (fun x f => (x + s * f) % N) r W
theorem mvV_vec {bs : List Int} {N : Int} {F w : Int → Int} {s : Int} : mvV N (vecF bs N F) (wtV bs w) s = vecF bs N fun b => F b + s * w b := by
  unfold mvV vecF wtV
  induction bs with
  | nil => rfl
  | cons b bs ih =>
    rw [List.map_cons, List.map_cons, List.zipWith_cons_cons, List.map_cons, ih]
    congr 1
    rw [Int.add_emod, Int.emod_emod_of_dvd _ (Int.dvd_refl N), ← Int.add_emod]
noncomputable def ngV (N : Int) (r : List Int) : List Int := r.map fun x => -x % N
theorem ngV_vec {bs : List Int} {N : Int} {F : Int → Int} : ngV N (vecF bs N F) = vecF bs N fun b => -F b := by
  unfold ngV vecF
  rw [List.map_map]
  refine List.map_congr_left fun b _ => ?_
  show -(F b % N) % N = -F b % N
  rw [← Int.zero_sub, ← Int.zero_sub (F b), Int.sub_emod, Int.emod_emod_of_dvd _ (Int.dvd_refl N), ← Int.sub_emod]
theorem zr_vec {bs : List Int} {N : Int} : zr bs = vecF bs N fun _ => 0 := by
  unfold zr vecF
  refine List.map_congr_left fun b _ => ?_
  rw [Int.zero_emod]
/-- steps times weights -/
noncomputable def SF : List (Int → Int) → List Int → Int → Int
  | w :: ws, s :: ss, b => s * w b + SF ws ss b
  | [], _, _ => 0
  | _ :: _, [], _ => 0
theorem SF_nil {ws : List (Int → Int)} {b : Int} : SF ws [] b = 0 := by cases ws <;> rfl
/-- a step for each place, out of what the place may have -/
noncomputable def InG : List Int → List (List Int) → Prop
  | [], [] => True
  | s :: ss, g :: gs => s ∈ g ∧ InG ss gs
  | [], _ :: _ => False
  | _ :: _, [] => False
noncomputable def Beh (bs : List Int) (N : Int) (ws : List (Int → Int)) (gs : List (List Int)) (r : List Int) : Prop := ∃ ss, InG ss gs ∧ r = vecF bs N (SF ws ss)
noncomputable def Unl (bs : List Int) (N : Int) (ws : List (Int → Int)) (gs : List (List Int)) (r : List Int) : Prop := ∃ ss, InG ss gs ∧ (∃ s ∈ ss, s ≠ 0) ∧ r = vecF bs N (SF ws ss)
section
variable {bs : List Int} {N : Int} {ws : List (Int → Int)} {gs : List (List Int)} {w : Int → Int} {g r : List Int}
theorem Beh_nil : Beh bs N [] [] r ↔ r = zr bs := by
  constructor
  · rintro ⟨ss, h, e⟩
    cases ss with
    | nil => rw [e, zr_vec (N := N)]; rfl
    | cons => exact h.elim
  · intro e
    exact ⟨[], trivial, by rw [e, zr_vec (N := N)]; rfl⟩
theorem Unl_nil : ¬ Unl bs N [] [] r := by
  rintro ⟨ss, h, ⟨s, hs, _⟩, e⟩
  cases ss with
  | nil => cases hs
  | cons => exact h.elim
theorem step_vec {ss : List Int} {s : Int} : vecF bs N (SF (w :: ws) (s :: ss)) = mvV N (vecF bs N (SF ws ss)) (wtV bs w) s := by
  rw [mvV_vec]
  refine vecF_eq.mpr fun b _ => ?_
  show (s * w b + SF ws ss b) % N = _
  rw [Int.add_comm]
theorem Beh_cons : Beh bs N (w :: ws) (g :: gs) r ↔ ∃ r', Beh bs N ws gs r' ∧ ∃ s ∈ g, r = mvV N r' (wtV bs w) s := by
  constructor
  · rintro ⟨ss, h, e⟩
    cases ss with
    | nil => exact h.elim
    | cons s ss => exact ⟨_, ⟨ss, h.2, rfl⟩, s, h.1, by rw [e, step_vec]⟩
  · rintro ⟨r', ⟨ss, h, rfl⟩, s, hs, rfl⟩
    exact ⟨s :: ss, ⟨hs, h⟩, step_vec.symm⟩
theorem Unl_cons (h0 : (0 : Int) ∈ g) : Unl bs N (w :: ws) (g :: gs) r ↔ Unl bs N ws gs r ∨ ∃ r', Beh bs N ws gs r' ∧ ∃ s ∈ g, s ≠ 0 ∧ r = mvV N r' (wtV bs w) s := by
  constructor
  · rintro ⟨ss, h, ⟨x, hx, x0⟩, e⟩
    cases ss with
    | nil => exact h.elim
    | cons s ss =>
      by_cases z : s = 0
      · subst z
        refine .inl ⟨ss, h.2, ⟨x, (List.mem_cons.mp hx).resolve_left x0, x0⟩, ?_⟩
        rw [e]
        refine vecF_eq.mpr fun b _ => ?_
        show (0 * w b + SF ws ss b) % N = _
        rw [Int.zero_mul, Int.zero_add]
      · exact .inr ⟨_, ⟨ss, h.2, rfl⟩, s, h.1, z, by rw [e, step_vec]⟩
  · rintro (⟨ss, h, ⟨x, hx, x0⟩, e⟩ | ⟨r', ⟨ss, h, rfl⟩, s, hs, s0, rfl⟩)
    · refine ⟨0 :: ss, ⟨h0, h⟩, ⟨x, List.mem_cons_of_mem _ hx, x0⟩, ?_⟩
      rw [e]
      refine vecF_eq.mpr fun b _ => ?_
      show _ = (0 * w b + SF ws ss b) % N
      rw [Int.zero_mul, Int.zero_add]
    · exact ⟨s :: ss, ⟨hs, h⟩, ⟨s, List.mem_cons_self .., s0⟩, step_vec.symm⟩
/-- what was added up can be led back to 0 by unlike texts -/
noncomputable def GoV (bs : List Int) (N : Int) (ws : List (Int → Int)) (gs : List (List Int)) (x : List Int × Bool) : Prop := if x.2 = true then Beh bs N ws gs (ngV N x.1) else Unl bs N ws gs (ngV N x.1)
theorem neg_iff {a b : Int} : -a % N = b % N ↔ (a + b) % N = 0 := by
  rw [Int.emod_eq_emod_iff_emod_sub_eq_zero, ← Int.dvd_iff_emod_eq_zero, ← Int.dvd_iff_emod_eq_zero]
  constructor
  · rintro ⟨t, h⟩
    exact ⟨-t, by rw [Int.mul_neg]; omega⟩
  · rintro ⟨t, h⟩
    exact ⟨-t, by rw [Int.mul_neg]; omega⟩
theorem GoV_iff {F : Int → Int} {d : Bool} : GoV bs N ws gs (vecF bs N F, d) ↔ ∃ ss, InG ss gs ∧ (d = true ∨ ∃ s ∈ ss, s ≠ 0) ∧ ∀ b ∈ bs, (F b + SF ws ss b) % N = 0 := by
  unfold GoV
  have key : ∀ ss, ngV N (vecF bs N F) = vecF bs N (SF ws ss) ↔ ∀ b ∈ bs, (F b + SF ws ss b) % N = 0 := fun ss => by
    rw [ngV_vec, vecF_eq]
    exact forall_congr' fun b => forall_congr' fun _ => neg_iff
  cases d with
  | true =>
    rw [if_pos rfl]
    constructor
    · rintro ⟨ss, h, e⟩
      exact ⟨ss, h, .inl rfl, (key ss).mp e⟩
    · rintro ⟨ss, h, _, e⟩
      exact ⟨ss, h, (key ss).mpr e⟩
  | false =>
    rw [if_neg (by simp)]
    constructor
    · rintro ⟨ss, h, n, e⟩
      exact ⟨ss, h, .inr n, (key ss).mp e⟩
    · rintro ⟨ss, h, n, e⟩
      exact ⟨ss, h, n.resolve_left (by decide), (key ss).mpr e⟩
end
noncomputable def Ltr (A : Nat) (t : List Int) : Prop := ∀ x ∈ t, 0 ≤ x ∧ x < A
noncomputable def sbv (q p : List Int) : List Int := List.zipWith (fun x y => x - y) q p
theorem SF_app {b : Int} : ∀ {pw : List (Int → Int)} {ss : List Int} {ws : List (Int → Int)} {us : List Int}, pw.length = ss.length → SF (pw ++ ws) (ss ++ us) b = SF pw ss b + SF ws us b
  | [], [], ws, us, _ => by
    show SF ws us b = 0 + _
    rw [Int.zero_add]
  | [], _ :: _, _, _, h => by simp at h
  | _ :: _, [], _, _, h => by simp at h
  | w :: pw, s :: ss, ws, us, h => by
    show s * w b + SF (pw ++ ws) (ss ++ us) b = s * w b + SF pw ss b + SF ws us b
    rw [SF_app (by simpa using h), Int.add_assoc]
theorem sbv_len {q p : List Int} (h : q.length = p.length) : (sbv q p).length = p.length := by
  unfold sbv
  rw [List.length_zipWith, h, Nat.min_self]
theorem sbv_app {q p q' p' : List Int} (h : q.length = p.length) : sbv (q ++ q') (p ++ p') = sbv q p ++ sbv q' p' := by
  unfold sbv
  rw [List.zipWith_append h]
theorem sbv_ne : ∀ {q p : List Int}, q.length = p.length → ((∃ s ∈ sbv q p, s ≠ 0) ↔ q ≠ p)
  | [], [], _ => by simp [sbv]
  | [], _ :: _, h => by simp at h
  | _ :: _, [], h => by simp at h
  | x :: q, y :: p, h => by
    have ih := sbv_ne (q := q) (p := p) (by simpa using h)
    show (∃ s ∈ (x - y) :: sbv q p, s ≠ 0) ↔ _
    constructor
    · rintro ⟨s, hs, s0⟩ e
      cases e
      rcases List.mem_cons.mp hs with z | z
      · omega
      · exact (ih.mp ⟨s, z, s0⟩) rfl
    · intro hn
      by_cases e : x = y
      · obtain ⟨s, hs, s0⟩ := ih.mpr fun z => hn (by rw [e, z])
        exact ⟨s, List.mem_cons_of_mem _ hs, s0⟩
      · exact ⟨x - y, List.mem_cons_self .., by omega⟩
/-- texts q, t of one length agree by all the bases -/
noncomputable def Agr (bs : List Int) (N : Int) (ws : List (Int → Int)) (q t : List Int) : Prop := ∀ b ∈ bs, SF ws (sbv q t) b % N = 0
/-- what q, of the length of p, has added up over p -/
noncomputable def SP (bs : List Int) (N : Int) (A : Nat) (pw : List (Int → Int)) (p : List Int) (x : List Int × Bool) : Prop := ∃ q, q.length = p.length ∧ Ltr A q ∧ x = (vecF bs N (SF pw (sbv q p)), decide (q ≠ p))
theorem stps0 {A : Nat} (h : 1 ≤ A) : (0 : Int) ∈ stps A := stps_mem.mpr ⟨by omega, by omega⟩
section
variable {bs : List Int} {N : Int} {A : Nat} {pw ws : List (Int → Int)} {w : Int → Int} {p : List Int}
noncomputable def gsA (A n : Nat) : List (List Int) := List.replicate n (stps A)
theorem InG_rep {A : Nat} : ∀ {n : Nat} {ss : List Int}, InG ss (gsA A n) ↔ ss.length = n ∧ ∀ s ∈ ss, s ∈ stps A
  | 0, [] => ⟨fun _ => ⟨rfl, fun s h => by cases h⟩, fun _ => trivial⟩
  | 0, _ :: _ => ⟨fun h => h.elim, fun h => by simp at h⟩
  | n + 1, [] => ⟨fun h => h.elim, fun h => by simp at h⟩
  | n + 1, s :: ss => by
    show s ∈ stps A ∧ InG ss (gsA A n) ↔ _
    rw [InG_rep]
    simp only [List.length_cons, Nat.add_right_cancel_iff, List.mem_cons, forall_eq_or_imp]
    exact ⟨fun ⟨h1, h2, h3⟩ => ⟨h2, h1, h3⟩, fun ⟨h2, h1, h3⟩ => ⟨h1, h2, h3⟩⟩
/-- a prefix that some text has that agrees with an unlike one -/
noncomputable def GdT (bs : List Int) (N : Int) (A : Nat) (pw ws : List (Int → Int)) (p : List Int) : Prop := ∃ x, SP bs N A pw p x ∧ GoV bs N ws (gsA A ws.length) x
/-- the states by one letter more -/
noncomputable def Nxt (bs : List Int) (N : Int) (A : Nat) (w : Int → Int) (l : Int) (S : List Int × Bool → Prop) (x : List Int × Bool) : Prop := ∃ y, S y ∧ ∃ o : Int, (0 ≤ o ∧ o < A) ∧ x = (mvV N y.1 (wtV bs w) (o - l), y.2 || decide (o ≠ l))
theorem sp_snoc {q : List Int} {o l : Int} (hq : q.length = p.length) (hpw : pw.length = p.length) : (mvV N (vecF bs N (SF pw (sbv q p))) (wtV bs w) (o - l), decide (q ≠ p) || decide (o ≠ l)) = (vecF bs N (SF (pw ++ [w]) (sbv (q ++ [o]) (p ++ [l]))), decide (q ++ [o] ≠ p ++ [l])) := by
  refine Prod.ext ?_ ?_
  · rw [mvV_vec]
    refine vecF_eq.mpr fun b _ => ?_
    rw [sbv_app hq, SF_app (by rw [sbv_len hq, hpw])]
    show (_ + (o - l) * w b) % N = (_ + ((o - l) * w b + SF [] [] b)) % N
    show _ = (_ + ((o - l) * w b + 0)) % N
    rw [Int.add_zero]
  · show (decide (q ≠ p) || decide (o ≠ l)) = decide (q ++ [o] ≠ p ++ [l])
    rw [← Bool.decide_or]
    refine decide_eq_decide.mpr ⟨fun h e => ?_, fun h => ?_⟩
    · obtain ⟨e1, e2⟩ := List.append_inj e hq
      cases e2
      exact h.elim (fun z => z e1) fun z => z rfl
    · refine Classical.byContradiction fun c => h ?_
      have e1 : q = p := Classical.byContradiction fun z => c (.inl z)
      have e2 : o = l := Classical.byContradiction fun z => c (.inr z)
      rw [e1, e2]
/-- if the longer one goes on, the shorter one does -/
theorem go_back (hpw : pw.length = p.length) {q : List Int} {o l : Int} (hq : q.length = p.length) (ho : 0 ≤ o ∧ o < A) (hl : 0 ≤ l ∧ l < A) (h : GoV bs N ws (gsA A ws.length) (vecF bs N (SF (pw ++ [w]) (sbv (q ++ [o]) (p ++ [l]))), decide (q ++ [o] ≠ p ++ [l]))) :
    GoV bs N (w :: ws) (gsA A (w :: ws).length) (vecF bs N (SF pw (sbv q p)), decide (q ≠ p)) := by
  obtain ⟨ss, h1, h2, h3⟩ := GoV_iff.mp h
  refine GoV_iff.mpr ⟨(o - l) :: ss, ⟨stps_mem.mpr ⟨by omega, by omega⟩, h1⟩, ?_, fun b hb => ?_⟩
  · rcases h2 with h2 | ⟨s, hs, s0⟩
    · by_cases e : q = p
      · refine .inr ⟨o - l, List.mem_cons_self .., fun z => ?_⟩
        have : o = l := by omega
        subst e
        subst this
        simp at h2
      · exact .inl (decide_eq_true e)
    · exact .inr ⟨s, List.mem_cons_of_mem _ hs, s0⟩
  · have := h3 b hb
    rw [sbv_app hq, SF_app (by rw [sbv_len hq, hpw])] at this
    show (_ + ((o - l) * w b + SF ws ss b)) % N = 0
    rw [← this]
    congr 1
    show _ = SF pw (sbv q p) b + ((o - l) * w b + SF [] [] b) + SF ws ss b
    show _ = SF pw (sbv q p) b + ((o - l) * w b + 0) + SF ws ss b
    omega
/-- what is kept behind a letter: just what goes on -/
theorem kept_iff (hpw : pw.length = p.length) {l : Int} (hl : 0 ≤ l ∧ l < A) {x : List Int × Bool} : (Nxt bs N A w l (fun y => SP bs N A pw p y ∧ GoV bs N (w :: ws) (gsA A (w :: ws).length) y) x ∧ GoV bs N ws (gsA A ws.length) x) ↔ (SP bs N A (pw ++ [w]) (p ++ [l]) x ∧ GoV bs N ws (gsA A ws.length) x) := by
  constructor
  · rintro ⟨⟨y, ⟨⟨q, hq, lq, rfl⟩, _⟩, o, ho, rfl⟩, h⟩
    rw [sp_snoc hq hpw] at h ⊢
    exact ⟨⟨q ++ [o], by rw [List.length_append, List.length_append, hq]; rfl, fun z hz => (List.mem_append.mp hz).elim (lq z) fun e => by rw [List.mem_singleton.mp e]; exact ho, rfl⟩, h⟩
  · rintro ⟨⟨q', hq', lq', rfl⟩, h⟩
    refine ⟨?_, h⟩
    rcases List.eq_nil_or_concat q' with e | ⟨q, o, e⟩
    · subst e
      simp at hq'
    · rw [List.concat_eq_append] at e
      subst e
      have hq : q.length = p.length := by simpa using hq'
      have ho := lq' o (by simp)
      exact ⟨_, ⟨⟨q, hq, fun z hz => lq' z (by simp [hz]), rfl⟩, go_back hpw hq ho hl h⟩, o, ho, (sp_snoc hq hpw).symm⟩
theorem GdT_next (hpw : pw.length = p.length) (h : GdT bs N A pw (w :: ws) p) : ∃ l : Nat, l < A ∧ GdT bs N A (pw ++ [w]) ws (p ++ [(l : Int)]) := by
  obtain ⟨x, ⟨q, hq, lq, rfl⟩, h⟩ := h
  obtain ⟨ss, h1, h2, h3⟩ := GoV_iff.mp h
  cases ss with
  | nil => exact h1.elim
  | cons s ss =>
    have hs := stps_mem.mp h1.1
    refine ⟨(-s).toNat, by omega, _, ⟨q ++ [((-s).toNat : Int) + s], by simp [hq], fun z hz => (List.mem_append.mp hz).elim (lq z) fun e => by rw [List.mem_singleton.mp e]; omega, rfl⟩, GoV_iff.mpr ⟨ss, h1.2, ?_, fun b hb => ?_⟩⟩
    · rcases h2 with h2 | ⟨y, hy, y0⟩
      · refine .inl (decide_eq_true fun e => ?_)
        obtain ⟨e1, _⟩ := List.append_inj e hq
        exact of_decide_eq_true h2 e1
      · rcases List.mem_cons.mp hy with e | e
        · refine .inl (decide_eq_true fun e2 => ?_)
          obtain ⟨_, e3⟩ := List.append_inj e2 hq
          have := (List.cons.inj e3).1
          omega
        · exact .inr ⟨y, e, y0⟩
    · have := h3 b hb
      rw [sbv_app hq, SF_app (by rw [sbv_len hq, hpw])]
      rw [← this]
      congr 1
      show SF pw (sbv q p) b + ((((-s).toNat : Int) + s - ((-s).toNat : Int)) * w b + SF [] [] b) + SF ws ss b = SF pw (sbv q p) b + (s * w b + SF ws ss b)
      show SF pw (sbv q p) b + ((((-s).toNat : Int) + s - ((-s).toNat : Int)) * w b + 0) + SF ws ss b = _
      rw [show ((-s).toNat : Int) + s - ((-s).toNat : Int) = s by omega]
      omega
theorem GdT_end {t : List Int} : GdT bs N A pw [] t ↔ ∃ q, q.length = t.length ∧ Ltr A q ∧ q ≠ t ∧ Agr bs N pw q t := by
  constructor
  · rintro ⟨x, ⟨q, hq, lq, rfl⟩, h⟩
    obtain ⟨ss, h1, h2, h3⟩ := GoV_iff.mp h
    cases ss with
    | cons => exact h1.elim
    | nil =>
      refine ⟨q, hq, lq, of_decide_eq_true (h2.resolve_right fun ⟨s, hs, _⟩ => by cases hs), fun b hb => ?_⟩
      have := h3 b hb
      rw [SF_nil, Int.add_zero] at this
      exact this
  · rintro ⟨q, hq, lq, hn, ha⟩
    refine ⟨_, ⟨q, hq, lq, rfl⟩, GoV_iff.mpr ⟨[], trivial, .inl (decide_eq_true hn), fun b hb => ?_⟩⟩
    rw [SF_nil, Int.add_zero]
    exact ha b hb
end
/-- a text that agrees with an unlike one has good prefixes -/
theorem GdT_take {bs : List Int} {N : Int} {A : Nat} : ∀ {ws pw : List (Int → Int)} {p s q' s' : List Int}, pw.length = p.length → s.length = ws.length → s'.length = ws.length → q'.length = p.length → Ltr A (p ++ s) → Ltr A (q' ++ s') → q' ++ s' ≠ p ++ s → Agr bs N (pw ++ ws) (q' ++ s') (p ++ s) → GdT bs N A pw ws p
  | ws, pw, p, s, q', s', h1, h2, h3, h4, l1, l2, hn, ha => by
    refine ⟨_, ⟨q', h4, fun z hz => l2 z (List.mem_append_left _ hz), rfl⟩, GoV_iff.mpr ⟨sbv s' s, ?_, ?_, fun b hb => ?_⟩⟩
    · refine InG_rep.mpr ⟨by rw [sbv_len (by omega), h2], fun z hz => ?_⟩
      unfold sbv at hz
      obtain ⟨i, hi, rfl⟩ := List.getElem_of_mem hz
      rw [List.length_zipWith] at hi
      rw [List.getElem_zipWith]
      have a1 := l2 _ (List.mem_append_right q' (List.getElem_mem (show i < s'.length by omega)))
      have a2 := l1 _ (List.mem_append_right p (List.getElem_mem (show i < s.length by omega)))
      exact stps_mem.mpr ⟨by omega, by omega⟩
    · by_cases e : q' = p
      · refine .inr ((sbv_ne (by omega)).mpr fun z => hn ?_)
        rw [e, z]
      · exact .inl (decide_eq_true e)
    · have := ha b hb
      rw [sbv_app h4, SF_app (by rw [sbv_len h4, h1])] at this
      exact this
noncomputable def LexLt (a b : List Int) : Prop := ∃ (i : Nat) (x y : Int), a.take i = b.take i ∧ a[i]? = some x ∧ b[i]? = some y ∧ x < y
/-- t is a good one, and at each place each lesser letter is not -/
structure FstT (bs : List Int) (N : Int) (A : Nat) (ws : List (Int → Int)) (t : List Int) : Prop where
  len : t.length = ws.length
  ltr : Ltr A t
  good : ∃ q, q.length = t.length ∧ Ltr A q ∧ q ≠ t ∧ Agr bs N ws q t
  no : ∀ (i : Nat) (x l : Int), t[i]? = some x → 0 ≤ l → l < x → ¬ GdT bs N A (ws.take (i + 1)) (ws.drop (i + 1)) (t.take i ++ [l])
theorem FstT.first {bs : List Int} {N : Int} {A : Nat} {ws : List (Int → Int)} {t u q : List Int} (h : FstT bs N A ws t) (hu : u.length = ws.length) (lu : Ltr A u) (hq : q.length = u.length) (lq : Ltr A q) (hn : q ≠ u) (ha : Agr bs N ws q u) : ¬ LexLt u t := by
  rintro ⟨i, x, y, e1, e2, e3, hxy⟩
  have hi : i < u.length := (List.getElem?_eq_some_iff.mp e2).1
  have ex : u[i] = x := (List.getElem?_eq_some_iff.mp e2).2
  have tk : u.take (i + 1) = t.take i ++ [x] := by rw [List.take_succ_eq_append_getElem hi, e1, ex]
  refine h.no i y x e3 (lu x (List.mem_of_getElem? e2)).1 hxy ?_
  rw [← tk]
  refine GdT_take (s := u.drop (i + 1)) (q' := q.take (i + 1)) (s' := q.drop (i + 1)) (by rw [List.length_take, List.length_take, hu]) (by rw [List.length_drop, List.length_drop, hu]) (by rw [List.length_drop, List.length_drop, hq, hu]) (by rw [List.length_take, List.length_take, hq]) ?_ ?_ ?_ ?_
  · rw [List.take_append_drop]; exact lu
  · rw [List.take_append_drop]; exact lq
  · rw [List.take_append_drop, List.take_append_drop]; exact hn
  · rw [List.take_append_drop, List.take_append_drop, List.take_append_drop]; exact ha
noncomputable def rgs (A : Nat) (t : List Int) : List (List Int) := t.map fun x => (List.range A).map fun k : Nat => (k : Int) - x
theorem rg_mem {A : Nat} {x s : Int} : s ∈ (List.range A).map (fun k : Nat => (k : Int) - x) ↔ 0 ≤ x + s ∧ x + s < A := by
  rw [List.mem_map]
  constructor
  · rintro ⟨k, hk, rfl⟩
    have := List.mem_range.mp hk
    omega
  · intro h
    exact ⟨(x + s).toNat, List.mem_range.mpr (by omega), by omega⟩
theorem InG_rgs {A : Nat} : ∀ {t ss : List Int}, InG ss (rgs A t) ↔ ∃ o, o.length = t.length ∧ Ltr A o ∧ ss = sbv o t
  | [], [] => ⟨fun _ => ⟨[], rfl, (fun _ h => by cases h), rfl⟩, fun _ => trivial⟩
  | [], _ :: _ => ⟨fun h => h.elim, fun ⟨o, h1, _, h2⟩ => by
      cases o with
      | nil => cases h2
      | cons => simp at h1⟩
  | _ :: _, [] => ⟨fun h => h.elim, fun ⟨o, h1, _, h2⟩ => by
      cases o with
      | nil => simp at h1
      | cons => cases h2⟩
  | x :: t, s :: ss => by
    show s ∈ _ ∧ InG ss (rgs A t) ↔ _
    rw [InG_rgs, rg_mem]
    constructor
    · rintro ⟨hs, o, h1, h2, rfl⟩
      refine ⟨(x + s) :: o, by rw [List.length_cons, h1]; rfl, fun z hz => ?_, ?_⟩
      · rcases List.mem_cons.mp hz with e | e
        · rw [e]; exact hs
        · exact h2 z e
      · show _ = (x + s - x) :: sbv o t
        rw [show x + s - x = s by omega]
    · rintro ⟨o, h1, h2, h3⟩
      cases o with
      | nil => simp at h1
      | cons y o =>
        have h3 : s :: ss = (y - x) :: sbv o t := h3
        injection h3 with e1 e2
        have hy := h2 y List.mem_cons_self
        exact ⟨by omega, o, by simpa using h1, fun z hz => h2 z (List.mem_cons_of_mem _ hz), e2⟩
/-- a prefix of an unlike text that agrees with pt ++ st -/
noncomputable def GdO (bs : List Int) (N : Int) (A : Nat) (pw ws : List (Int → Int)) (pt st o : List Int) : Prop := GoV bs N ws (rgs A st) (vecF bs N (SF pw (sbv o pt)), decide (o ≠ pt))
section
variable {bs : List Int} {N : Int} {A : Nat} {pw ws : List (Int → Int)} {w : Int → Int} {pt st o : List Int} {x : Int}
theorem GdO_next (hpw : pw.length = pt.length) (ho : o.length = pt.length) (h : GdO bs N A pw (w :: ws) pt (x :: st) o) : ∃ l : Nat, l < A ∧ GdO bs N A (pw ++ [w]) ws (pt ++ [x]) st (o ++ [(l : Int)]) := by
  obtain ⟨ss, h1, h2, h3⟩ := GoV_iff.mp h
  cases ss with
  | nil => exact h1.elim
  | cons s ss =>
    have hs := rg_mem.mp h1.1
    refine ⟨(x + s).toNat, by omega, ?_⟩
    rw [show ((x + s).toNat : Int) = x + s by omega]
    refine GoV_iff.mpr ⟨ss, h1.2, ?_, fun b hb => ?_⟩
    · rcases h2 with h2 | ⟨y, hy, y0⟩
      · refine .inl (decide_eq_true fun e => ?_)
        obtain ⟨e1, _⟩ := List.append_inj e ho
        exact of_decide_eq_true h2 e1
      · rcases List.mem_cons.mp hy with e | e
        · refine .inl (decide_eq_true fun e2 => ?_)
          obtain ⟨_, e3⟩ := List.append_inj e2 ho
          have := (List.cons.inj e3).1
          omega
        · exact .inr ⟨y, e, y0⟩
    · have := h3 b hb
      rw [sbv_app ho, SF_app (by rw [sbv_len ho, hpw])]
      rw [← this]
      congr 1
      show SF pw (sbv o pt) b + ((x + s - x) * w b + SF [] [] b) + SF ws ss b = SF pw (sbv o pt) b + (s * w b + SF ws ss b)
      show SF pw (sbv o pt) b + ((x + s - x) * w b + 0) + SF ws ss b = _
      rw [show x + s - x = s by omega]
      omega
theorem GdO_end {t : List Int} : GdO bs N A pw [] t [] o ↔ o ≠ t ∧ Agr bs N pw o t := by
  unfold GdO
  constructor
  · intro h
    obtain ⟨ss, h1, h2, h3⟩ := GoV_iff.mp h
    cases ss with
    | cons => exact h1.elim
    | nil =>
      refine ⟨of_decide_eq_true (h2.resolve_right fun ⟨s, hs, _⟩ => by cases hs), fun b hb => ?_⟩
      have := h3 b hb
      rw [SF_nil, Int.add_zero] at this
      exact this
  · rintro ⟨hn, ha⟩
    refine GoV_iff.mpr ⟨[], trivial, .inl (decide_eq_true hn), fun b hb => ?_⟩
    rw [SF_nil, Int.add_zero]
    exact ha b hb
theorem GdO_take {s : List Int} (h1 : pw.length = pt.length) (h4 : o.length = pt.length) (hs : s.length = st.length) (l2 : Ltr A (o ++ s)) (hn : o ++ s ≠ pt ++ st) (ha : Agr bs N (pw ++ ws) (o ++ s) (pt ++ st)) : GdO bs N A pw ws pt st o := by
  refine GoV_iff.mpr ⟨sbv s st, InG_rgs.mpr ⟨s, hs, fun z hz => l2 z (List.mem_append_right _ hz), rfl⟩, ?_, fun b hb => ?_⟩
  · by_cases e : o = pt
    · refine .inr ((sbv_ne hs).mpr fun z => hn ?_)
      rw [e, z]
    · exact .inl (decide_eq_true e)
  · have := ha b hb
    rw [sbv_app h4, SF_app (by rw [sbv_len h4, h1])] at this
    exact this
end
structure FstO (bs : List Int) (N : Int) (A : Nat) (ws : List (Int → Int)) (t o : List Int) : Prop where
  len : o.length = t.length
  ltr : Ltr A o
  ne : o ≠ t
  agr : Agr bs N ws o t
  no : ∀ (i : Nat) (x l : Int), o[i]? = some x → 0 ≤ l → l < x → ¬ GdO bs N A (ws.take (i + 1)) (ws.drop (i + 1)) (t.take (i + 1)) (t.drop (i + 1)) (o.take i ++ [l])
theorem FstO.first {bs : List Int} {N : Int} {A : Nat} {ws : List (Int → Int)} {t o q : List Int} (h : FstO bs N A ws t o) (hw : ws.length = t.length) (hq : q.length = t.length) (lq : Ltr A q) (hn : q ≠ t) (ha : Agr bs N ws q t) : ¬ LexLt q o := by
  rintro ⟨i, x, y, e1, e2, e3, hxy⟩
  have hi : i < q.length := (List.getElem?_eq_some_iff.mp e2).1
  have ex : q[i] = x := (List.getElem?_eq_some_iff.mp e2).2
  have tk : q.take (i + 1) = o.take i ++ [x] := by rw [List.take_succ_eq_append_getElem hi, e1, ex]
  refine h.no i y x e3 (lq x (List.mem_of_getElem? e2)).1 hxy ?_
  rw [← tk]
  refine GdO_take (s := q.drop (i + 1)) (by rw [List.length_take, List.length_take, hw]) (by rw [List.length_take, List.length_take, hq]) (by rw [List.length_drop, List.length_drop, hq]) ?_ ?_ ?_
  · rw [List.take_append_drop]; exact lq
  · rw [List.take_append_drop, List.take_append_drop]; exact hn
  · rw [List.take_append_drop, List.take_append_drop, List.take_append_drop]; exact ha
noncomputable def txsL (A : Nat) : Nat → List (List Int)
  | 0 => [[]]
  | n + 1 => (txsL A n).flatMap fun t => (List.range A).map fun l : Nat => t ++ [(l : Int)]
theorem txsL_mem {A : Nat} : ∀ {n : Nat} {t : List Int}, t ∈ txsL A n ↔ t.length = n ∧ Ltr A t
  | 0, t => by
    show t ∈ [[]] ↔ _
    rw [List.mem_singleton]
    constructor
    · rintro rfl
      exact ⟨rfl, fun _ h => by cases h⟩
    · rintro ⟨h, _⟩
      exact List.length_eq_zero_iff.mp h
  | n + 1, t => by
    show t ∈ (txsL A n).flatMap _ ↔ _
    rw [List.mem_flatMap]
    constructor
    · rintro ⟨u, hu, ht⟩
      obtain ⟨l, hl, rfl⟩ := List.mem_map.mp ht
      have hl := List.mem_range.mp hl
      obtain ⟨h1, h2⟩ := txsL_mem.mp hu
      refine ⟨by rw [List.length_append, h1]; rfl, fun z hz => ?_⟩
      rcases List.mem_append.mp hz with e | e
      · exact h2 z e
      · rw [List.mem_singleton.mp e]
        omega
    · rintro ⟨h1, h2⟩
      rcases List.eq_nil_or_concat t with e | ⟨u, l, e⟩
      · subst e
        simp at h1
      · rw [List.concat_eq_append] at e
        subst e
        have hl := h2 l (by simp)
        refine ⟨u, txsL_mem.mpr ⟨by simpa using h1, fun z hz => h2 z (by simp [hz])⟩, List.mem_map.mpr ⟨l.toNat, List.mem_range.mpr (by omega), by rw [show (l.toNat : Int) = l by omega]⟩⟩
theorem LexLt.snoc {a b : List Int} {x y : Int} (h : LexLt a b) : LexLt (a ++ [x]) (b ++ [y]) := by
  obtain ⟨i, u, v, e1, e2, e3, h⟩ := h
  have h2 := (List.getElem?_eq_some_iff.mp e2).1
  have h3 := (List.getElem?_eq_some_iff.mp e3).1
  exact ⟨i, u, v, by rw [List.take_append_of_le_length (by omega), List.take_append_of_le_length (by omega), e1], by rw [List.getElem?_append_left h2, e2], by rw [List.getElem?_append_left h3, e3], h⟩
theorem txsL_lex (A : Nat) : ∀ n, (txsL A n).Pairwise LexLt
  | 0 => List.pairwise_singleton _ _
  | n + 1 => by
    show List.Pairwise _ ((txsL A n).flatMap fun t => (List.range A).map fun l : Nat => t ++ [(l : Int)])
    rw [List.pairwise_flatMap]
    refine ⟨fun t _ => ?_, List.Pairwise.imp (fun {a b} hab x hx y hy => ?_) (txsL_lex A n)⟩
    · rw [List.pairwise_map]
      refine List.Pairwise.imp (fun {i j} hij => ?_) List.pairwise_lt_range
      exact ⟨t.length, i, j, by rw [List.take_left, List.take_left], by simp, by simp, by omega⟩
    · obtain ⟨l, _, rfl⟩ := List.mem_map.mp hx
      obtain ⟨m, _, rfl⟩ := List.mem_map.mp hy
      exact hab.snoc
theorem LexLt.ne {a b : List Int} (h : LexLt a b) : a ≠ b := by
  obtain ⟨i, u, v, e1, e2, e3, h⟩ := h
  intro e
  subst e
  rw [e2] at e3
  cases e3
  omega
end Bc
namespace Bc
open PySem PySem.Spec PyProof.Rows L2
theorem paired_refs {α : Type} {f : α → V} {R : V → V → Prop} {Pn : α → Addr → Prop} (k : ∀ a y, R (f a) y → ∃ t, y = .ref t ∧ Pn a t) : ∀ {as : List α} {ys : List V}, Paired R (as.map f) ys → ∃ ts : List Addr, ys = ts.map V.ref ∧ Paired Pn as ts
  | [], _, h => by
    cases h
    exact ⟨[], rfl, .nil⟩
  | a :: as, _, h => by
    cases h with
    | cons r t =>
      obtain ⟨ts, e, h2⟩ := paired_refs k t
      obtain ⟨z, e2, h3⟩ := k _ _ r
      exact ⟨z :: ts, by rw [e, e2]; rfl, .cons h3 h2⟩
theorem paired_mapG {α β γ : Type} {F : β → γ → Prop} {g : α → β} : ∀ {as : List α} {ts : List γ}, Paired (fun a t => F (g a) t) as ts → Paired F (as.map g) ts
  | _, _, .nil => .nil
  | _, _, .cons r t => .cons r (paired_mapG t)
theorem paired_revG {α β : Type} {F : α → β → Prop} : ∀ {as : List α} {ts : List β}, Paired F as ts → Paired F as.reverse ts.reverse
  | _, _, .nil => .nil
  | _, _, .cons r t => by
    rw [List.reverse_cons, List.reverse_cons]
    exact Paired.snoc (paired_revG t) r
theorem ne_of_none' {H : Hp} {a b : Addr} {o : HO} (h : H a = some o) (n : H b = none) : b ≠ a := fun e => by
  rw [e, h] at n
  cases n
theorem rm_some' {D b : Addr} {H : Hp} {o : HO} (h : rm D H b = some o) : b ≠ D ∧ H b = some o := by
  unfold rm at h
  split at h
  · cases h
  · rename_i n
    exact ⟨n, h⟩
theorem same_up {H H' : Hp} {a : Addr} {o : HO} (n : H a = none) (s : Same H H') : Same H (upd H' a o) := fun b ob e => by
  rw [upd_ne (ne_of_none e n)]
  exact s _ _ e
theorem w_iZip {K : PySem.W.Frag} {ta : TA} {σ : L2.St} {H : Hp} {R : It → Hp → Prop} (q : ta σ H fun vs H1 => ∃ a b xs ys, vs = [.ref a, .ref b] ∧ SqL K H1 a xs ∧ SqL K H1 b ys ∧ R (Itz K a b) H1) : iZip K ta σ H R := q
theorem at_neg1 {xs : List V} {x : V} {i : Nat} (h : xs[i]? = some x) (hl : xs.length = i + 1) : atI xs (-1) = some x := by
  unfold atI ixN
  rw [if_neg (by decide), hl, if_pos (by omega), show (-1 + ((i + 1 : Nat) : Int)).toNat = i by omega]
  exact h
theorem lock_same {H : Hp} {d : Addr} {o : HO} : Same (rm d H) (upd H d o) := fun b ob e => by
  obtain ⟨n, e⟩ := rm_some' e
  rw [upd_ne n]
  exact e
theorem unlock_same {H H6 : Hp} {d : Addr} {o u : HO} (h : H d = some u) (s : Same (upd H d o) H6) : Same H (upd H6 d u) := fun b ob e => by
  by_cases c : b = d
  · subst c
    rw [upd_same, ← e, h]
  · rw [upd_ne c]
    exact s _ _ (by rw [upd_ne c]; exact e)
theorem ScAt.rmD {Cq : Addr} {H : Hp} {o d : Addr} {bs : List Int} {N : Int} {lw : Bool} {u : HO} (h : ScAt Cq H o bs N lw) (hd : H d = some u) (n1 : ∀ C dx fs, u ≠ .ins C dx fs) (n2 : ∀ xs, u ≠ .lst xs) (n3 : ∀ xs, u ≠ .tup xs) : ScAt Cq (Bc.rm d H) o bs N lw := by
  obtain ⟨dx, l, z, h1, h2, h3⟩ := h
  exact ⟨dx, l, z, rm_of (fun e => by rw [e, hd] at h1; exact n1 _ _ _ (Option.some.inj h1)) h1, rm_of (fun e => by rw [e, hd] at h2; exact n2 _ (Option.some.inj h2)) h2, rm_of (fun e => by rw [e, hd] at h3; exact n3 _ (Option.some.inj h3)) h3⟩
theorem rm_ins {H : Hp} {d b : Addr} {u : HO} {C dx : Addr} {fs : List (Str × V)} (hd : H d = some u) (n : ∀ C dx fs, u ≠ .ins C dx fs) (h : H b = some (.ins C dx fs)) : rm d H b = some (.ins C dx fs) := rm_of (fun e => by rw [e, hd] at h; exact n _ _ _ (Option.some.inj h)) h
theorem rm_lst {H : Hp} {d b : Addr} {u : HO} {xs : List V} (hd : H d = some u) (n : ∀ xs, u ≠ .lst xs) (h : H b = some (.lst xs)) : rm d H b = some (.lst xs) := rm_of (fun e => by rw [e, hd] at h; exact n _ (Option.some.inj h)) h
theorem rm_tup {H : Hp} {d b : Addr} {u : HO} {xs : List V} (hd : H d = some u) (n : ∀ xs, u ≠ .tup xs) (h : H b = some (.tup xs)) : rm d H b = some (.tup xs) := rm_of (fun e => by rw [e, hd] at h; exact n _ (Option.some.inj h)) h
noncomputable def DtP (H : Hp) (d : Addr) (P : List Int → Prop) : Prop := ∃ ks : List (List Int), H d = some (.dT (ks.map fun k => (kk k, V.bl true))) ∧ ks.Nodup ∧ ∀ k, k ∈ ks ↔ P k
theorem DtAt.dtp {H : Hp} {d : Addr} {S : List (List Int)} {P : List Int → Prop} (h : DtAt H d S) (e : ∀ k, k ∈ S ↔ P k) : DtP H d P := by
  obtain ⟨ks, h1, h2, h3⟩ := h
  exact ⟨ks, h1, h2, fun k => (h3 k).trans (e k)⟩
theorem DtP.same {H H' : Hp} {d : Addr} {P : List Int → Prop} (h : DtP H d P) (s : Same H H') : DtP H' d P := by
  obtain ⟨ks, h1, h2, h3⟩ := h
  exact ⟨ks, s _ _ h1, h2, h3⟩
/-- a list of dicts, the i-th of the sums that Pf i tells -/
noncomputable def DLs (H : Hp) (l : Addr) (n : Nat) (Pf : Nat → List Int → Prop) : Prop := ∃ ds : List Addr, H l = some (.lst (ds.map V.ref)) ∧ ds.length = n ∧ ∀ (i : Nat) (d : Addr), ds[i]? = some d → DtP H d (Pf i)
theorem DLs.same {H H' : Hp} {l : Addr} {n : Nat} {Pf : Nat → List Int → Prop} (h : DLs H l n Pf) (s : Same H H') : DLs H' l n Pf := by
  obtain ⟨ds, h1, h2, h3⟩ := h
  exact ⟨ds, s _ _ h1, h2, fun i d e => (h3 i d e).same s⟩
/-- a list of lists of numbers, some of them perhaps the same list -/
noncomputable def LLq (H : Hp) (l : Addr) (gs : List (List Int)) : Prop := ∃ rs : List Addr, H l = some (.lst (rs.map V.ref)) ∧ Paired (fun g r => H r = some (.lst (g.map V.int))) gs rs
theorem LLq.same {H H' : Hp} {l : Addr} {gs : List (List Int)} (h : LLq H l gs) (s : Same H H') : LLq H' l gs := by
  obtain ⟨rs, h1, h2⟩ := h
  exact ⟨rs, s _ _ h1, paired_imp (fun _ _ z => s _ _ z) h2⟩
theorem TLq.same {H H' : Hp} {l : Addr} {gs : List (List Int)} (h : TLq H l gs) (s : Same H H') : TLq H' l gs := by
  obtain ⟨rs, h1, h2⟩ := h
  exact ⟨rs, s _ _ h1, paired_imp (fun _ _ z => s _ _ z) h2⟩
/-- the bounds of a scale -/
structure Scb (bs : List Int) (N : Int) : Prop where
  len : bs.length ≤ 1000
  pos : 0 < N
  le : N ≤ 2000
  rng : ∀ x ∈ bs, 0 ≤ x ∧ x < N
/-- no two sums hash alike -/
noncomputable def Hap (P : Program) (w : World) (bs : List Int) (N : Int) : Prop := ∀ k k' : List Int, k.length = bs.length → k'.length = bs.length → (∀ x ∈ k, 0 ≤ x ∧ x < N) → (∀ x ∈ k', 0 ≤ x ∧ x < N) → hshT P w (kk k) = hshT P w (kk k') → k = k'
theorem Hap.nodup {P : Program} {w : World} {bs : List Int} {N : Int} (h : Hap P w bs N) {ks : List (List Int)} (hn : ks.Nodup) (hk : ∀ k ∈ ks, k.length = bs.length ∧ ∀ x ∈ k, 0 ≤ x ∧ x < N) : ((ks.map fun k => (kk k, V.bl true)).map fun kv => hshT P w kv.1).Nodup := by
  rw [List.map_map, List.nodup_iff_pairwise_ne, List.pairwise_map]
  refine List.Pairwise.imp_of_mem (fun {a b} ha hb hab e => hab ?_) hn
  exact h a b (hk a ha).1 (hk b hb).1 (hk a ha).2 (hk b hb).2 e
theorem DtP.len {H : Hp} {d : Addr} {Pr : List Int → Prop} {bs : List Int} {N : Int} {M : Nat} {ks : List (List Int)} (hn : ks.Nodup) (h : ∀ k, k ∈ ks ↔ Pr k) (hf : Few bs N M) (hP : ∀ k, Pr k → k.length = bs.length ∧ ∀ x ∈ k, 0 ≤ x ∧ x < N) : ks.length ≤ M :=
  hf ks hn fun k hk => hP k ((h k).mp hk)
theorem Beh.ok {bs : List Int} {N : Int} {ws : List (Int → Int)} {gs : List (List Int)} {k : List Int} (hN : 0 < N) (h : Beh bs N ws gs k) : k.length = bs.length ∧ ∀ x ∈ k, 0 ≤ x ∧ x < N := by
  obtain ⟨ss, _, rfl⟩ := h
  exact ⟨vecF_len, vecF_rng hN⟩
theorem Unl.ok {bs : List Int} {N : Int} {ws : List (Int → Int)} {gs : List (List Int)} {k : List Int} (hN : 0 < N) (h : Unl bs N ws gs k) : k.length = bs.length ∧ ∀ x ∈ k, 0 ≤ x ∧ x < N := by
  obtain ⟨ss, _, _, rfl⟩ := h
  exact ⟨vecF_len, vecF_rng hN⟩
theorem wtV_ok {bs : List Int} {N : Int} {f : Int → Int} (h : ∀ b, 0 ≤ f b ∧ f b < N) : (wtV bs f).length = bs.length ∧ ∀ x ∈ wtV bs f, 0 ≤ x ∧ x < N := ⟨List.length_map .., fun x hx => by
  obtain ⟨b, _, rfl⟩ := List.mem_map.mp hx
  exact h b⟩
/-- the weight of a place -/
noncomputable def pwF (N : Int) (e : Nat) : Int → Int := fun b => b ^ e % N
/-- the weights of the places of a text -/
noncomputable def wsL (N : Int) (lw : Bool) (n : Nat) : List (Int → Int) := if lw then (List.range n).map (pwF N) else ((List.range n).map (pwF N)).reverse
theorem wsL_len {N : Int} {lw : Bool} {n : Nat} : (wsL N lw n).length = n := by
  unfold wsL
  split
  · rw [List.length_map, List.length_range]
  · rw [List.length_reverse, List.length_map, List.length_range]
noncomputable def WOk (N : Int) (ws : List (Int → Int)) : Prop := ∀ w ∈ ws, ∀ b, 0 ≤ w b ∧ w b < N
theorem wsL_ok {N : Int} {lw : Bool} {n : Nat} (hN : 0 < N) : WOk N (wsL N lw n) := fun w hw b => by
  have key : ∀ w ∈ (List.range n).map (pwF N), 0 ≤ w b ∧ w b < N := fun w hw => by
    obtain ⟨e, _, rfl⟩ := List.mem_map.mp hw
    exact ⟨Int.emod_nonneg _ (by omega), Int.emod_lt_of_pos _ hN⟩
  unfold wsL at hw
  split at hw
  · exact key w hw
  · exact key w (List.mem_reverse.mp hw)
noncomputable def GOk (A : Nat) (gs : List (List Int)) : Prop := ∀ g ∈ gs, g.length ≤ 2 * A ∧ ∀ s ∈ g, s.natAbs ≤ 1000
noncomputable def spScW (Cq : Addr) : Sp := fun vs H Q _ => ∃ (o : Addr) (bs : List Int) (N : Int) (e : Nat) (lw : Bool), vs = [.ref o, .int e] ∧ ScAt Cq H o bs N lw ∧ Scb bs N ∧ e ≤ 100000 ∧ ∀ H' q, H q = none → Same H H' → H' q = some (.tup ((wtV bs (pwF N e)).map V.int)) → Q (.ref q) H'
noncomputable def spWeights (Cq : Addr) : Sp := fun vs H Q _ => ∃ (o : Addr) (bs : List Int) (N : Int) (n : Nat) (lw : Bool), vs = [.ref o, .int n] ∧ ScAt Cq H o bs N lw ∧ Scb bs N ∧ n ≤ 10000 ∧ ∀ H' q, Same H H' → TLq H' q ((wsL N lw n).map (wtV bs)) → Q (.ref q) H'
noncomputable def spMoved (Cq : Addr) : Sp := fun vs H Q _ => ∃ (o p q : Addr) (bs r W : List Int) (N s : Int) (lw : Bool), vs = [.ref o, .ref p, .ref q, .int s] ∧ ScAt Cq H o bs N lw ∧ Scb bs N ∧ H p = some (.tup (r.map V.int)) ∧ H q = some (.tup (W.map V.int)) ∧ r.length = bs.length ∧ W.length = bs.length ∧ (∀ x ∈ r, 0 ≤ x ∧ x < N) ∧ (∀ x ∈ W, 0 ≤ x ∧ x < N) ∧ s.natAbs ≤ 2000 ∧
  ∀ H' t, H t = none → Same H H' → H' t = some (.tup ((mvV N r W s).map V.int)) → Q (.ref t) H'
noncomputable def spNegat (Cq : Addr) : Sp := fun vs H Q _ => ∃ (o p : Addr) (bs r : List Int) (N : Int) (lw : Bool), vs = [.ref o, .ref p] ∧ ScAt Cq H o bs N lw ∧ Scb bs N ∧ H p = some (.tup (r.map V.int)) ∧ r.length = bs.length ∧ (∀ x ∈ r, 0 ≤ x ∧ x < N) ∧
  ∀ H' t, H t = none → Same H H' → H' t = some (.tup ((ngV N r).map V.int)) → Q (.ref t) H'
/-- sums_behind, unlike_sums_behind -/
noncomputable def spSumsB (Cq : Addr) (F : List Int → Int → List (Int → Int) → List (List Int) → List Int → Prop) (ap : List Int → Int → Prop) : Sp := fun vs H Q _ => ∃ (o wl rl : Addr) (bs : List Int) (N : Int) (lw : Bool) (ws : List (Int → Int)) (gs : List (List Int)) (A M : Nat), vs = [.ref o, .ref wl, .ref rl] ∧ ScAt Cq H o bs N lw ∧ Scb bs N ∧ ap bs N ∧ TLq H wl (ws.map (wtV bs)) ∧ WOk N ws ∧ LLq H rl gs ∧ GOk A gs ∧ (∀ g ∈ gs, (0 : Int) ∈ g) ∧ gs.length = ws.length ∧ ws.length ≤ 10000 ∧ Few bs N M ∧ M * (2 * A) ≤ 50000 ∧ M ≤ 50000 ∧
  ∀ H' l, Same H H' → DLs H' l (ws.length + 1) (fun i => F bs N (ws.drop i) (gs.drop i)) → Q (.ref l) H'
/-- a state -/
noncomputable def StAt (H : Hp) (x : List Int × Bool) (p : Addr) : Prop := ∃ q, H p = some (.tup [.ref q, .bl x.2]) ∧ H q = some (.tup (x.1.map V.int))
theorem StAt.same {H H' : Hp} {x : List Int × Bool} {p : Addr} (h : StAt H x p) (s : Same H H') : StAt H' x p := by
  obtain ⟨q, h1, h2⟩ := h
  exact ⟨q, s _ _ h1, s _ _ h2⟩
noncomputable def spGoesOn (Cq : Addr) : Sp := fun vs H Q _ => ∃ (o st ev un : Addr) (bs : List Int) (N : Int) (lw : Bool) (x : List Int × Bool) (P1 P2 : List Int → Prop), vs = [.ref o, .ref st, .ref ev, .ref un] ∧ ScAt Cq H o bs N lw ∧ Scb bs N ∧ StAt H x st ∧ x.1.length = bs.length ∧ (∀ z ∈ x.1, 0 ≤ z ∧ z < N) ∧ DtP H ev P1 ∧ DtP H un P2 ∧
  ∀ (b : Bool) H', Same H H' → (b = true ↔ if x.2 = true then P1 (ngV N x.1) else P2 (ngV N x.1)) → Q (.bl b) H'
/-- a list of states -/
noncomputable def STl (H : Hp) (l : Addr) (xs : List (List Int × Bool)) : Prop := ∃ ps : List Addr, H l = some (.lst (ps.map V.ref)) ∧ Paired (StAt H) xs ps
theorem STl.same {H H' : Hp} {l : Addr} {xs : List (List Int × Bool)} (h : STl H l xs) (s : Same H H') : STl H' l xs := by
  obtain ⟨ps, h1, h2⟩ := h
  exact ⟨ps, s _ _ h1, paired_imp (fun _ _ z => StAt.same z s) h2⟩
/-- a state as a key -/
noncomputable def nkS (x : List Int × Bool) : NK := .tup [.tup (x.1.map fun i => .num i), .num (if x.2 = true then 1 else 0)]
theorem nums_inj : ∀ {a b : List Int}, (a.map fun i => PySem.NestedKey.num i) = b.map (fun i => PySem.NestedKey.num i) → a = b
  | [], [], _ => rfl
  | [], _ :: _, h => by cases h
  | _ :: _, [], h => by cases h
  | x :: a, y :: b, h => by
    rw [List.map_cons, List.map_cons] at h
    injection h with h1 h2
    injection h1 with h1
    rw [h1, nums_inj h2]
theorem nkS_inj {x y : List Int × Bool} (h : nkS x = nkS y) : x = y := by
  obtain ⟨r, d⟩ := x
  obtain ⟨r', d'⟩ := y
  unfold nkS at h
  injection h with h
  injection h with h1 h2
  injection h1 with h1
  injection h2 with h2 _
  injection h2 with h2
  have e1 := nums_inj h1
  have e2 : d = d' := by
    cases d <;> cases d' <;> first | rfl | (simp at h2)
  show (r, d) = (r', d')
  rw [show r = r' from e1, e2]
theorem kall_nums {H : Hp} : ∀ r : List Int, KAll H (r.map fun i => .num i) (r.map V.int)
  | [] => .nil
  | i :: r => .cons (.int i) (kall_nums r)
theorem StAt.key {H : Hp} {x : List Int × Bool} {p : Addr} (h : StAt H x p) : KIs H (nkS x) (.ref p) := by
  obtain ⟨q, h1, h2⟩ := h
  exact .tup h1 (.cons (.tup h2 (kall_nums _)) (.cons (.bl _) .nil))
theorem depth_nums : ∀ r : List Int, PySem.NestedKey.depthAll (r.map fun i => .num i) = 0
  | [] => rfl
  | i :: r => by
    show max 0 (PySem.NestedKey.depthAll (r.map fun i => .num i)) = 0
    rw [depth_nums r]
    rfl
theorem nkS_depth (x : List Int × Bool) : (nkS x).depth ≤ 8 := by
  show max (PySem.NestedKey.depthAll (x.1.map fun i => .num i) + 1) (max 0 0) + 1 ≤ 8
  rw [depth_nums]
  decide
/-- the dict of the next states -/
noncomputable def NdSt (P : Program) (w : World) (H : Hp) (d : Addr) (xs : List (List Int × Bool)) : Prop := ∃ kvs : List NE, ND P w H d kvs ∧ Paired (fun x e => e.1 = nkS x ∧ StAt H x e.2.1 ∧ e.2.2 = .bl true) xs kvs
theorem NdSt.same {P : Program} {w : World} {H H' : Hp} {d : Addr} {xs : List (List Int × Bool)} (h : NdSt P w H d xs) (s : Same H H') : NdSt P w H' d xs := by
  obtain ⟨kvs, h1, h2⟩ := h
  exact ⟨kvs, h1.same s, paired_imp (fun _ _ z => ⟨z.1, z.2.1.same s, z.2.2⟩) h2⟩
theorem nval_st : ∀ {xs : List (List Int × Bool)} {kvs : List NE} {H : Hp} (x : List Int × Bool), Paired (fun x (e : NE) => e.1 = nkS x ∧ StAt H x e.2.1 ∧ e.2.2 = .bl true) xs kvs → (nval kvs (nkS x)).isSome = decide (x ∈ xs)
  | _, _, _, x, .nil => rfl
  | _, _, _, x, .cons (a := y) (b := e) (l₁ := ys) (l₂ := es) r t => by
    have ih := nval_st x t
    by_cases h : y = x
    · subst h
      have : nval (e :: es) (nkS y) = some e.2.2 := by simp [nval, List.find?_cons, r.1]
      rw [this]
      simp
    · have h2 : ¬ e.1 = nkS x := fun z => h (nkS_inj (r.1.symm.trans z))
      have : nval (e :: es) (nkS x) = nval es (nkS x) := by simp [nval, List.find?_cons, h2]
      rw [this, ih]
      refine decide_eq_decide.mpr ⟨List.mem_cons_of_mem _, fun z => (List.mem_cons.mp z).resolve_left fun q => h q.symm⟩
/-- one more state -/
theorem NdSt.put {P : Program} {w : World} {H : Hp} {d p : Addr} {xs : List (List Int × Bool)} {x : List Int × Bool} {kvs : List NE} (h : ND P w H d kvs) (hp : Paired (fun x (e : NE) => e.1 = nkS x ∧ StAt H x e.2.1 ∧ e.2.2 = .bl true) xs kvs) (hn : xs.Nodup) (hx : StAt H x p) :
    ∃ xs' : List (List Int × Bool), NdSt P w (upd H d (ndO P w d (nput kvs (nkS x) p (.bl true)))) d xs' ∧ xs'.Nodup ∧ xs'.length ≤ xs.length + 1 ∧ ∀ z, z ∈ xs' ↔ z ∈ xs ∨ z = x := by
  have nd := h.put (b := p) (v := .bl true) hx.key (nkS_depth x)
  have st : ∀ {z q}, StAt H z q → StAt (upd H d (ndO P w d (nput kvs (nkS x) p (.bl true)))) z q := fun {z q} hz => by
    obtain ⟨c, h1, h2⟩ := hz
    exact ⟨c, by rw [upd_ne (fun e => by rw [e, h.1] at h1; cases h1)]; exact h1, by rw [upd_ne (fun e => by rw [e, h.1] at h2; cases h2)]; exact h2⟩
  have hv := nval_st x hp
  by_cases c : x ∈ xs
  · refine ⟨xs, ⟨_, nd, ?_⟩, hn, Nat.le_succ _, fun z => ⟨.inl, fun q => q.elim id fun q => by rw [q]; exact c⟩⟩
    unfold nput
    rw [if_pos (by rw [hv]; exact decide_eq_true c)]
    have key : ∀ {xs : List (List Int × Bool)} {kvs' : List NE}, Paired (fun x (e : NE) => e.1 = nkS x ∧ StAt H x e.2.1 ∧ e.2.2 = .bl true) xs kvs' → Paired (fun x (e : NE) => e.1 = nkS x ∧ StAt (upd H d (ndO P w d (nput kvs (nkS x) p (.bl true)))) x e.2.1 ∧ e.2.2 = .bl true) xs (kvs'.map (nrepl (nkS x) (.bl true))) → True := fun _ _ => trivial
    have key2 : ∀ {xs : List (List Int × Bool)} {kvs' : List NE}, Paired (fun x (e : NE) => e.1 = nkS x ∧ StAt H x e.2.1 ∧ e.2.2 = .bl true) xs kvs' → kvs'.map (nrepl (nkS x) (.bl true)) = kvs' := by
      intro xs kvs' h
      induction h with
      | nil => rfl
      | @cons a b l m r t ih =>
        rw [List.map_cons, ih]
        congr 1
        unfold nrepl
        split
        · obtain ⟨b1, b2, b3⟩ := b
          obtain ⟨_, _, r3⟩ := r
          cases r3
          rfl
        · rfl
    rw [key2 hp]
    refine paired_imp (fun a b z => ⟨z.1, ?_, z.2.2⟩) hp
    have e : nput kvs (nkS x) p (.bl true) = kvs := by
      unfold nput
      rw [if_pos (by rw [hv]; exact decide_eq_true c), key2 hp]
    have := st z.2.1
    rw [e] at this
    exact this
  · refine ⟨xs ++ [x], ⟨_, nd, ?_⟩, ?_, by rw [List.length_append]; exact Nat.le_refl _, fun z => by simp⟩
    · have e : nput kvs (nkS x) p (.bl true) = kvs ++ [(nkS x, p, .bl true)] := by
        unfold nput
        rw [if_neg (by rw [hv]; simpa using c)]
      rw [e] at st ⊢
      exact Paired.snoc (paired_imp (fun a b z => ⟨z.1, st z.2.1, z.2.2⟩) hp) ⟨rfl, st hx, rfl⟩
    · rw [List.nodup_append]
      exact ⟨hn, by simp, fun a ha b hb e => c (by rw [List.mem_singleton.mp hb] at e; rw [← e]; exact ha)⟩
noncomputable def spNextSt (P : Program) (w : World) (Cq : Addr) : Sp := fun vs H Q _ => ∃ (o sl wp : Addr) (bs : List Int) (N : Int) (lw : Bool) (xs : List (List Int × Bool)) (f : Int → Int) (l A : Nat), vs = [.ref o, .ref sl, .ref wp, .int l, .int A] ∧ ScAt Cq H o bs N lw ∧ Scb bs N ∧ STl H sl xs ∧ (∀ x ∈ xs, x.1.length = bs.length ∧ ∀ z ∈ x.1, 0 ≤ z ∧ z < N) ∧ H wp = some (.tup ((wtV bs f).map V.int)) ∧ (∀ b, 0 ≤ f b ∧ f b < N) ∧ A ≤ 1000 ∧ l ≤ 1000 ∧ xs.length * A ≤ 100000 ∧
  ∀ H' d (ys : List (List Int × Bool)), H d = none → Same H H' → NdSt P w H' d ys → ys.Nodup → (∀ y, y ∈ ys ↔ Nxt bs N A f l (fun x => x ∈ xs) y) → Q (.ref d) H'
/-- the first text of two -/
noncomputable def spFstT (Cq : Addr) (ap : List Int → Int → Prop) : Sp := fun vs H Q _ => ∃ (o wl : Addr) (bs : List Int) (N : Int) (lw : Bool) (ws : List (Int → Int)) (A M : Nat), vs = [.ref o, .ref wl, .int A] ∧ ScAt Cq H o bs N lw ∧ Scb bs N ∧ ap bs N ∧ TLq H wl (ws.map (wtV bs)) ∧ WOk N ws ∧ ws.length ≤ 10000 ∧ 1 ≤ A ∧ A ≤ 1000 ∧ Few bs N M ∧ M * (2 * A) ≤ 50000 ∧ M ≤ 50000 ∧ GdT bs N A [] ws [] ∧
  ∀ H' q t, Same H H' → FstT bs N A ws t → H' q = some (.tup (t.map V.int)) → Q (.ref q) H'
noncomputable def spFstO (Cq : Addr) (ap : List Int → Int → Prop) : Sp := fun vs H Q _ => ∃ (o wl tp : Addr) (bs : List Int) (N : Int) (lw : Bool) (ws : List (Int → Int)) (A M : Nat) (t : List Int), vs = [.ref o, .ref wl, .int A, .ref tp] ∧ ScAt Cq H o bs N lw ∧ Scb bs N ∧ ap bs N ∧ TLq H wl (ws.map (wtV bs)) ∧ WOk N ws ∧ ws.length ≤ 10000 ∧ 1 ≤ A ∧ A ≤ 1000 ∧ Few bs N M ∧ M * (2 * A) ≤ 50000 ∧ M ≤ 50000 ∧ H tp = some (.tup (t.map V.int)) ∧ t.length = ws.length ∧ Ltr A t ∧ GdO bs N A [] ws [] t [] ∧
  ∀ H' q u, Same H H' → FstO bs N A ws t u → H' q = some (.tup (u.map V.int)) → Q (.ref q) H'
end Bc
namespace Bc
open PySem PySem.Spec PyProof.Rows L2
section
variable {te : TE} {vs : List Nat} {σ : L2.St} {H : Hp} {D d : Addr} {od : Obj} {Qd : Hp → Prop} {j : Nat} {kvs : List (List Key × V)}
theorem lc_kt1 (row : List Key → List Int) (sz : kvs.length ≤ 100000) (hd : H d = some (.frz od (.dT kvs))) (hD : H D = none)
    (wp : ∀ v, wipe ((wipe σ vs).set j v) vs = wipe σ vs)
    (step : ∀ (kv : List Key × V) (q : Addr) (H' : Hp), kv ∈ kvs → Same H H' → H' q = some (.tup (kv.1.map kV)) → (∃ acc, H' D = some (.lst acc)) →
      ∀ Q' : VK, (∀ p H'', Same H' H'' → H' p = none → H'' p = some (.tup ((row kv.1).map V.int)) → Q' (.ref p) H'') → te ((wipe σ vs).set j (some (.ref q))) H' Q')
    (q : ∀ (H' : Hp) (ys : List Addr), Same H H' → H' D = some (.lst (ys.map V.ref)) → Paired (fun us t => H' t = some (.tup (us.map V.int))) (kvs.map fun kv => row kv.1) ys → Qd H') :
    ∃ W : Nat → Nat → Hp → Prop, (∃ m, W 0 m (upd H D (.lst []))) ∧ ∀ i m H, W i m H →
      ((Itkt d od kvs).stop i H ∧ Qd H) ∨ ((Itkt d od kvs).go i H ∧ ∃ Nx : Hp → Prop, (∀ H', Nx H' → ∃ m', m' < m ∧ W (i + 1) m' H') ∧ ∀ x H', (Itkt d od kvs).yld i H x H' → gName j x (wipe σ vs) H' fun σ2 H2 => wipe σ2 vs = wipe σ vs ∧ tYes σ2 H2 fun b H3 =>
        if b = true then te σ2 H3 fun y H4 => ∃ acc, H4 D = some (.lst acc) ∧ acc.length < sizeLine ∧ Nx (upd H4 D (.lst (acc ++ [y]))) else Nx H3) := by
  refine lc_it walk_keysT (fun i H' => ∃ ys : List Addr, Same H (rm D H') ∧ H' D = some (.lst (ys.map V.ref)) ∧ Paired (fun us t => rm D H' t = some (.tup (us.map V.int))) ((kvs.take i).map fun kv => row kv.1) ys) ⟨[], ?_, L2.upd_same, .nil⟩ (fun i H' _ h => by
    obtain ⟨_, k, _⟩ := h
    exact rm_le _ _ (k _ _ hd)) ?_ ?_
  · rw [rm_updS]
    exact rm_in hD (Same.refl _)
  · rintro i x H1 H2 hi ⟨ys, s1, h1, hp⟩ ⟨rfl, k, v, qq, hkv, rfl, hq⟩
    refine ⟨wp _, w_yes ?_⟩
    rw [if_pos rfl]
    have el := hp.length
    rw [List.length_map, List.length_take] at el
    have hki : kvs[i] = (k, v) := by rw [List.getElem?_eq_getElem hi] at hkv; exact Option.some.inj hkv
    refine step (k, v) qq H2 (List.mem_of_getElem? hkv) (s1.trans rm_le) hq ⟨_, h1⟩ _ fun p H3 s3 np h3 => ?_
    have npD : p ≠ D := fun e => by rw [e, h1] at np; cases np
    refine ⟨_, s3 _ _ h1, ?_, ys ++ [p], ?_, by rw [L2.upd_same, List.map_append]; rfl, ?_⟩
    · have : (100000 : Nat) < sizeLine := by decide
      rw [List.length_map]
      omega
    · rw [rm_updS]
      exact s1.trans s3.rm
    · rw [rm_updS, List.take_succ_eq_append_getElem hi, List.map_append, hki]
      exact paired_appQ (paired_imp (fun us t z => s3.rm _ _ z) hp) (.cons (rm_of npD h3) .nil)
  · rintro H' ⟨ys, s1, h1, hp⟩
    rw [List.take_length] at hp
    exact q H' ys (s1.trans rm_le) h1 (paired_imp (fun us t z => rm_le _ _ z) hp)
end
theorem dt_merge : ∀ (ks2 ks : List (List Int)), ks.Nodup → ∃ ks' : List (List Int), mergeT (ks.map fun k => (kk k, V.bl true)) (ks2.map fun k => (kk k, V.bl true)) = ks'.map (fun k => (kk k, V.bl true)) ∧ ks'.Nodup ∧ ∀ k, k ∈ ks' ↔ k ∈ ks ∨ k ∈ ks2
  | [], ks, hn => ⟨ks, rfl, hn, fun k => by simp⟩
  | u :: r, ks, hn => by
    obtain ⟨k1, e1, e2, e3, e4⟩ := dt_put (k := u) hn
    obtain ⟨k2, f1, f2, f3⟩ := dt_merge r k1 e2
    refine ⟨k2, ?_, f2, fun k => ?_⟩
    · rw [← f1, ← e1]
      rfl
    · rw [f3, e4, List.mem_cons]
      constructor
      · rintro ((h | h) | h)
        · exact .inl h
        · exact .inr (.inl h)
        · exact .inr (.inr h)
      · rintro (h | h | h)
        · exact .inl (.inl h)
        · exact .inl (.inr h)
        · exact .inr h
theorem w_rDictT {P : Program} {w : World} {a : Addr} {kvs : List (List Key × V)} {H : Hp} {Q : VK} (h : Rd H a (.dT kvs)) (n : (kvs.map fun kv => hshT P w kv.1).Nodup) (q : ∀ p, H p = none → atV Q (.ref p) (L2.upd H p (.dT kvs))) : rDictT P w [.ref a] H Q := ⟨a, kvs, rfl, h, n, q⟩
theorem w_rUpdT {P : Program} {w : World} {a b : Addr} {kvs more : List (List Key × V)} {H : Hp} {Q : VK} (hab : a ≠ b) (h1 : H a = some (.dT kvs)) (h2 : Rd H b (.dT more)) (n : kvs ≠ [] ∨ (more.map fun kv => hshT P w kv.1).Nodup) (sz : kvs.length + more.length ≤ sizeLine) (q : Q .non (L2.upd H a (.dT (mergeT kvs more)))) : rUpdT P w (.ref a) [.ref b] H Q := ⟨a, b, kvs, more, rfl, rfl, hab, h1, h2, n, sz, q⟩
theorem at_idx {xs : List V} {x : V} {i : Int} {n : Nat} (h : xs[n]? = some x) (hi : i = (n : Int)) : atI xs i = some x := by
  subst hi
  have hl := (List.getElem?_eq_some_iff.mp h).1
  unfold atI ixN
  rw [if_pos (by omega), if_pos (by omega), Int.toNat_natCast]
  exact h
theorem w_iRng3 {as : TA} {σ : L2.St} {H : Hp} {R : It → Hp → Prop} (q : as σ H fun vs H1 => ∃ (i j c : Int) (n : Nat), vs = [.int i, .int j, .int c] ∧ RgC i j c n ∧ R (Itc i c n) H1) : iRng3 as σ H R := q
end Bc
namespace Bc
open PySem PySem.Spec PyProof.Rows L2
noncomputable def rEqE (K : PySem.W.Frag) : R2 := fun x y H Q => ∃ p q xs, x = .ref p ∧ y = .ref q ∧ SqL K H p xs ∧ SqL K H q [] ∧ Q (.bl xs.isEmpty) H
section
variable {X : Cx} {pins : List (Addr × Obj)} {σ : L2.St} {H : Hp} {s : Shared}
theorem op_eqE (hu : X.A.units + 64 < cLine) : OpR X (compareOp .Eq) (rEqE X.K) := by
  intro pins s σ H x y v u Q I rx ry h
  obtain ⟨p, q, xs, rfl, rfl, hx, hy, k⟩ := h
  cases rx
  cases ry
  cases xs with
  | nil => exact rc_lists (F := fun _ _ => False) I hx hy .nil (by omega) (fun _ _ _ _ h _ _ => h.elim) X.prog X.w _ _ ⟨.bl true, H, I, rfl, k⟩
  | cons z zs =>
    obtain ⟨is, r1, ⟨o1, n1, e1, c1, _, d1⟩, _⟩ := I.list hx
    obtain ⟨js, r2, ⟨o2, n2, e2, c2, _, d2⟩, _⟩ := I.list hy
    have l1 := r1.length
    have l2 := r2.length
    exact PySem.SeqAt.RcAt.lists_lengths ⟨o1, e1, c1, n1, d1⟩ ⟨o2, e2, c2, n2, d2⟩ (by simp only [List.size_toArray, List.length_cons, List.length_nil] at *; simp; omega) (by omega) X.prog X.w _ _ ⟨.bl false, H, I, rfl, k⟩
end
theorem w_eqE {K : PySem.W.Frag} {H : Hp} {p q : Addr} {xs : List V} {Q : VK} (h1 : SqL K H p xs) (h2 : SqL K H q []) (k : Q (.bl xs.isEmpty) H) : rEqE K (.ref p) (.ref q) H Q := ⟨p, q, xs, rfl, rfl, h1, h2, k⟩
section
variable {J : It} {G : Hp → Prop} {te : TE} {tt : TT} {vs : List Nat} {σ : L2.St} {H : Hp} {D : Addr} {Qd : Hp → Prop} {j : Nat}
theorem lc_keepF (xs : List V) (p : V → Bool) (w : Walk J xs.length G (YAt xs)) (hD : H D = none) (hG : ∀ H', Same H H' → G H') (sz : xs.length ≤ 100000)
    (wp : ∀ v, wipe ((wipe σ vs).set j v) vs = wipe σ vs)
    (tst : ∀ (i : Nat) (x : V) (H' : Hp), xs[i]? = some x → Same H H' → ∀ Q' : Bool → Hp → Prop, (∀ H'', Same H' H'' → Q' (p x) H'') → tt ((wipe σ vs).set j (some x)) H' Q')
    (step : ∀ (x : V) (H' : Hp) (Q' : VK), Q' x H' → te ((wipe σ vs).set j (some x)) H' Q')
    (q : ∀ H' : Hp, Same H H' → H' D = some (.lst (xs.filter p)) → Qd H') :
    ∃ W : Nat → Nat → Hp → Prop, (∃ m, W 0 m (upd H D (.lst []))) ∧ ∀ i m H, W i m H →
      (J.stop i H ∧ Qd H) ∨ (J.go i H ∧ ∃ Nx : Hp → Prop, (∀ H', Nx H' → ∃ m', m' < m ∧ W (i + 1) m' H') ∧ ∀ x H', J.yld i H x H' → gName j x (wipe σ vs) H' fun σ2 H2 => wipe σ2 vs = wipe σ vs ∧ tt σ2 H2 fun b H3 =>
        if b = true then te σ2 H3 fun y H4 => ∃ acc, H4 D = some (.lst acc) ∧ acc.length < sizeLine ∧ Nx (upd H4 D (.lst (acc ++ [y]))) else Nx H3) := by
  refine lc_it w (fun i H' => Same H (rm D H') ∧ H' D = some (.lst ((xs.take i).filter p))) ⟨?_, L2.upd_same⟩ (fun i H' _ h => hG H' (h.1.trans rm_le)) ?_ ?_
  · rw [rm_updS]
    exact rm_in hD (Same.refl _)
  · rintro i x H1 H' hi ⟨h1, h3⟩ ⟨rfl, hx⟩
    have e : xs[i] = x := by rw [List.getElem?_eq_getElem hi] at hx; exact Option.some.inj hx
    have tk : xs.take (i + 1) = xs.take i ++ [x] := by rw [List.take_succ_eq_append_getElem hi, e]
    have hle := List.length_filter_le p (xs.take i)
    rw [List.length_take] at hle
    refine ⟨wp _, tst i x _ hx (h1.trans rm_le) _ fun H2 s2 => ?_⟩
    cases hp : p x with
    | true =>
      rw [if_pos rfl]
      refine step x _ _ ⟨_, s2 _ _ h3, ?_, ?_, ?_⟩
      · have : (100000 : Nat) < sizeLine := by decide
        omega
      · rw [rm_updS]
        exact h1.trans s2.rm
      · rw [upd_same, tk, List.filter_append, List.filter_cons, if_pos hp, List.filter_nil]
    | false =>
      rw [if_neg (by decide)]
      refine ⟨h1.trans s2.rm, ?_⟩
      rw [tk, List.filter_append, List.filter_cons, if_neg (by rw [hp]; decide), List.filter_nil, List.append_nil]
      exact s2 _ _ h3
  · rintro H' ⟨h1, h3⟩
    rw [List.take_length] at h3
    exact q H' (h1.trans rm_le) h3
end
theorem few2 {bs : List Int} {N : Int} {M : Nat} (hf : Few bs N M) {xs : List (List Int × Bool)} (hn : xs.Nodup) (hk : ∀ x ∈ xs, x.1.length = bs.length ∧ ∀ z ∈ x.1, 0 ≤ z ∧ z < N) : xs.length ≤ 2 * M := by
  have part : ∀ c : Bool, (xs.filter fun x => x.2 == c).length ≤ M := fun c => by
    have h1 : ((xs.filter fun x => x.2 == c).map Prod.fst).Nodup := by
      rw [List.nodup_iff_pairwise_ne, List.pairwise_map]
      refine List.Pairwise.imp_of_mem (fun {a b} ha hb hab e => hab ?_) (hn.filter _)
      have h1 := (List.mem_filter.mp ha).2
      have h2 := (List.mem_filter.mp hb).2
      exact Prod.ext e ((eq_of_beq h1).trans (eq_of_beq h2).symm)
    have := hf _ h1 fun k hk' => by
      obtain ⟨x, hx, rfl⟩ := List.mem_map.mp hk'
      exact hk x (List.mem_filter.mp hx).1
    rwa [List.length_map] at this
  have tot : ∀ ys : List (List Int × Bool), ys.length = (ys.filter fun x => x.2 == true).length + (ys.filter fun x => x.2 == false).length := fun ys => by
    induction ys with
    | nil => rfl
    | cons y ys ih =>
      obtain ⟨a, b⟩ := y
      cases b <;> simp [List.filter_cons] at ih ⊢ <;> omega
  have := tot xs
  have h1 := part true
  have h2 := part false
  omega
theorem StAt.inj {H : Hp} {x y : List Int × Bool} {p : Addr} (h : StAt H x p) (k : StAt H y p) : x = y := by
  obtain ⟨q, h1, h2⟩ := h
  obtain ⟨q', k1, k2⟩ := k
  rw [h1] at k1
  have e := HO.tup.inj (Option.some.inj k1)
  injection e with e1 e2
  injection e1 with e1
  injection e2 with e2 _
  injection e2 with e2
  subst e1
  rw [h2] at k2
  exact Prod.ext (ints_inj (HO.tup.inj (Option.some.inj k2))) e2
open Classical in
noncomputable def goodAt (H : Hp) (G : List Int × Bool → Prop) : V → Bool := fun v => decide (∃ p x, v = .ref p ∧ StAt H x p ∧ G x)
open Classical in
theorem goodAt_iff {H : Hp} {G : List Int × Bool → Prop} {x : List Int × Bool} {p : Addr} (h : StAt H x p) : goodAt H G (.ref p) = true ↔ G x := by
  unfold goodAt
  rw [decide_eq_true_iff]
  constructor
  · rintro ⟨p', y, e, h2, g⟩
    injection e with e
    subst e
    rw [h.inj h2]
    exact g
  · exact fun g => ⟨p, x, rfl, h, g⟩
open Classical in
theorem goodAt_filter {H : Hp} {G : List Int × Bool → Prop} : ∀ {xs : List (List Int × Bool)} {ps : List Addr}, Paired (StAt H) xs ps → ∃ qs : List Addr, (ps.map V.ref).filter (goodAt H G) = qs.map V.ref ∧ Paired (StAt H) (xs.filter fun x => decide (G x)) qs
  | _, _, .nil => ⟨[], rfl, .nil⟩
  | _, _, .cons (a := x) (b := p) (l₁ := xs) (l₂ := ps) r t => by
    obtain ⟨qs, e, h⟩ := goodAt_filter (G := G) t
    by_cases g : G x
    · refine ⟨p :: qs, ?_, ?_⟩
      · rw [List.map_cons, List.filter_cons, if_pos ((goodAt_iff r).mpr g), e]
        rfl
      · rw [List.filter_cons, if_pos (decide_eq_true g)]
        exact .cons r h
    · refine ⟨qs, ?_, ?_⟩
      · rw [List.map_cons, List.filter_cons, if_neg (fun z => g ((goodAt_iff r).mp z)), e]
      · rw [List.filter_cons, if_neg (by rw [decide_eq_false g]; decide)]
        exact h
theorem NdSt.refs {P : Program} {w : World} {H : Hp} {d : Addr} {xs : List (List Int × Bool)} (h : NdSt P w H d xs) : ∃ kvs : List NE, ND P w H d kvs ∧ Paired (StAt H) xs (kvs.map fun e => e.2.1) := by
  obtain ⟨kvs, h1, h2⟩ := h
  refine ⟨kvs, h1, ?_⟩
  clear h1
  induction h2 with
  | nil => exact .nil
  | cons r t ih => exact .cons r.2.1 ih
end Bc
namespace Bc
open PySem PySem.Spec PyProof.Rows L2
theorem flat_rep1 {α : Type} (x : α) : ∀ n, (List.replicate n [x]).flatten = List.replicate n x
  | 0 => rfl
  | n + 1 => by
    rw [List.replicate_succ, List.flatten_cons, flat_rep1 x n]
    rfl
theorem paired_rep {α β : Type} {F : α → β → Prop} {a : α} {b : β} (h : F a b) : ∀ n, Paired F (List.replicate n a) (List.replicate n b)
  | 0 => .nil
  | n + 1 => by
    rw [List.replicate_succ, List.replicate_succ]
    exact .cons h (paired_rep h n)
theorem LLq.rep {H : Hp} {l r : Addr} {g : List Int} {n : Nat} (hl : H l = some (.lst (List.replicate n [V.ref r]).flatten)) (hr : H r = some (.lst (g.map V.int))) : LLq H l (List.replicate n g) :=
  ⟨List.replicate n r, by rw [hl, flat_rep1, List.map_replicate], paired_rep (F := fun g r => H r = some (HO.lst (List.map V.int g))) hr n⟩
theorem gsA_ok {A n : Nat} (hA : A ≤ 1000) : GOk A (gsA A n) := fun g hg => by
  rw [(List.mem_replicate.mp hg).2]
  refine ⟨by rw [stps_len]; omega, fun s hs => ?_⟩
  have := stps_mem.mp hs
  omega
theorem gsA_zero {A n : Nat} (hA : 1 ≤ A) : ∀ g ∈ gsA A n, (0 : Int) ∈ g := fun g hg => by
  rw [(List.mem_replicate.mp hg).2]
  exact stps0 hA
theorem gsA_drop {A n k : Nat} : (gsA A n).drop k = gsA A (n - k) := by
  unfold gsA
  rw [List.drop_replicate]
theorem SP_nil {bs : List Int} {N : Int} {A : Nat} {x : List Int × Bool} : SP bs N A [] [] x ↔ x = (zr bs, false) := by
  unfold SP
  constructor
  · rintro ⟨q, hq, _, rfl⟩
    have e : q = [] := List.eq_nil_of_length_eq_zero hq
    subst e
    refine Prod.ext ?_ ?_
    · show vecF bs N (SF [] []) = zr bs
      rw [zr_vec (N := N)]
      rfl
    · exact decide_eq_false (fun h : ([] : List Int) ≠ [] => h rfl)
  · rintro rfl
    refine ⟨[], rfl, fun z hz => (nomatch hz), Prod.ext ?_ ?_⟩
    · show zr bs = vecF bs N (SF [] [])
      rw [zr_vec (N := N)]
      rfl
    · exact (decide_eq_false (fun h : ([] : List Int) ≠ [] => h rfl)).symm
theorem SP.ok {bs : List Int} {N : Int} {A : Nat} {pw : List (Int → Int)} {p : List Int} {x : List Int × Bool} (hN : 0 < N) (h : SP bs N A pw p x) : x.1.length = bs.length ∧ ∀ z ∈ x.1, 0 ≤ z ∧ z < N := by
  obtain ⟨q, _, _, rfl⟩ := h
  exact ⟨vecF_len, vecF_rng hN⟩
theorem Nxt.ok {bs : List Int} {N : Int} {A : Nat} {f : Int → Int} {l : Int} {S : List Int × Bool → Prop} {x : List Int × Bool} (hN : 0 < N) (hS : ∀ y, S y → y.1.length = bs.length) (h : Nxt bs N A f l S x) : x.1.length = bs.length ∧ ∀ z ∈ x.1, 0 ≤ z ∧ z < N := by
  obtain ⟨y, hy, o, _, rfl⟩ := h
  refine ⟨?_, fun z hz => ?_⟩
  · show (mvV N y.1 (wtV bs f) (o - l)).length = _
    unfold mvV wtV
    rw [List.length_zipWith, hS y hy, List.length_map, Nat.min_self]
  · have hz : z ∈ mvV N y.1 (wtV bs f) (o - l) := hz
    unfold mvV at hz
    obtain ⟨i, hi, rfl⟩ := List.getElem_of_mem hz
    rw [List.getElem_zipWith]
    exact ⟨Int.emod_nonneg _ (by omega), Int.emod_lt_of_pos _ hN⟩
theorem DtP.rmD {H : Hp} {d e : Addr} {u : HO} {P : List Int → Prop} (h : DtP H e P) (hd : H d = some u) (n : ∀ xs, u ≠ .dT xs) : DtP (rm d H) e P := by
  obtain ⟨ks, h1, h2, h3⟩ := h
  exact ⟨ks, rm_of (fun z => by rw [z, hd] at h1; exact n _ (Option.some.inj h1)) h1, h2, h3⟩
theorem StAt.rmD {H : Hp} {d p : Addr} {u : HO} {x : List Int × Bool} (h : StAt H x p) (hd : H d = some u) (n : ∀ xs, u ≠ .tup xs) : StAt (rm d H) x p := by
  obtain ⟨q, h1, h2⟩ := h
  exact ⟨q, rm_tup hd n h1, rm_tup hd n h2⟩
theorem ndO_ins {P : Program} {w : World} {d : Addr} {kvs : List NE} : ∀ C dx fs, ndO P w d kvs ≠ .ins C dx fs := fun _ _ _ e => by cases e
theorem ndO_lst {P : Program} {w : World} {d : Addr} {kvs : List NE} : ∀ xs, ndO P w d kvs ≠ .lst xs := fun _ e => by cases e
theorem ndO_tup {P : Program} {w : World} {d : Addr} {kvs : List NE} : ∀ xs, ndO P w d kvs ≠ .tup xs := fun _ e => by cases e
theorem ndO_dT {P : Program} {w : World} {d : Addr} {kvs : List NE} : ∀ xs, ndO P w d kvs ≠ .dT xs := fun _ e => by cases e
/-- the state of a prefix of the other text -/
noncomputable def stO (bs : List Int) (N : Int) (pw : List (Int → Int)) (pt o : List Int) : List Int × Bool := (vecF bs N (SF pw (sbv o pt)), decide (o ≠ pt))
theorem stO_snoc {bs : List Int} {N : Int} {pw : List (Int → Int)} {pt o : List Int} {w : Int → Int} {x l : Int} (ho : o.length = pt.length) (hpw : pw.length = pt.length) : stO bs N (pw ++ [w]) (pt ++ [x]) (o ++ [l]) = (mvV N (stO bs N pw pt o).1 (wtV bs w) (l - x), (stO bs N pw pt o).2 || decide (l ≠ x)) := (sp_snoc ho hpw).symm
theorem stO_ok {bs : List Int} {N : Int} {pw : List (Int → Int)} {pt o : List Int} (hN : 0 < N) : (stO bs N pw pt o).1.length = bs.length ∧ ∀ z ∈ (stO bs N pw pt o).1, 0 ≤ z ∧ z < N := ⟨vecF_len, vecF_rng hN⟩
theorem rgs_ok {A : Nat} {t : List Int} (hA : A ≤ 1000) (ht : Ltr A t) : GOk A (rgs A t) := fun g hg => by
  unfold rgs at hg
  obtain ⟨x, hx, rfl⟩ := List.mem_map.mp hg
  refine ⟨by rw [List.length_map, List.length_range]; omega, fun s hs => ?_⟩
  have h1 := rg_mem.mp hs
  have h2 := ht x hx
  omega
theorem rgs_zero {A : Nat} {t : List Int} (ht : Ltr A t) : ∀ g ∈ rgs A t, (0 : Int) ∈ g := fun g hg => by
  unfold rgs at hg
  obtain ⟨x, hx, rfl⟩ := List.mem_map.mp hg
  have h2 := ht x hx
  exact rg_mem.mpr (by omega)
theorem rgs_drop {A : Nat} {t : List Int} {k : Nat} : (rgs A t).drop k = rgs A (t.drop k) := by
  unfold rgs
  rw [List.map_drop]
theorem rgs_len {A : Nat} {t : List Int} : (rgs A t).length = t.length := List.length_map ..
end Bc
namespace Bc
open PySem PySem.Spec PyProof.Rows L2
noncomputable def extT (A : Nat) (t : List Int) : List (List Int) := (List.range A).map fun l : Nat => t ++ [(l : Int)]
/-- the texts of n letters as the law makes them -/
noncomputable def txs (A : Nat) : Nat → List (List Int)
  | 0 => [[]]
  | n + 1 => (txs A n).flatMap (extT A)
noncomputable def txc (A : Nat) : Nat → List (List Int)
  | 0 => [[]]
  | n + 1 => (List.range A).flatMap fun l : Nat => (txc A n).map fun t => (l : Int) :: t
theorem txc_ext (A : Nat) : ∀ n, (txc A n).flatMap (extT A) = txc A (n + 1)
  | 0 => by
    show ([[]] : List (List Int)).flatMap (extT A) = (List.range A).flatMap fun l : Nat => [[(l : Int)]]
    rw [List.flatMap_cons, List.flatMap_nil, List.append_nil]
    unfold extT
    induction List.range A with
    | nil => rfl
    | cons x r ih => rw [List.map_cons, ih, List.flatMap_cons]; rfl
  | n + 1 => by
    show ((List.range A).flatMap fun l : Nat => (txc A n).map fun t => (l : Int) :: t).flatMap (extT A) = (List.range A).flatMap fun l : Nat => (txc A (n + 1)).map fun t => (l : Int) :: t
    rw [List.flatMap_assoc]
    congr 1
    funext l
    rw [← txc_ext A n, List.flatMap_map, List.map_flatMap]
    congr 1
    funext t
    unfold extT
    rw [List.map_map]
    rfl
theorem txs_txc (A : Nat) : ∀ n, txs A n = txc A n
  | 0 => rfl
  | n + 1 => by
    show (txs A n).flatMap (extT A) = _
    rw [txs_txc A n, txc_ext]
theorem txs_mem {A : Nat} : ∀ {n : Nat} {t : List Int}, t ∈ txs A n → t.length = n ∧ ∀ x ∈ t, 0 ≤ x ∧ x < A
  | 0, t, h => by
    have : t = [] := List.mem_singleton.mp h
    subst this
    exact ⟨rfl, fun x h => by cases h⟩
  | n + 1, t, h => by
    obtain ⟨u, hu, hx⟩ := List.mem_flatMap.mp h
    obtain ⟨l, hl, rfl⟩ := List.mem_map.mp hx
    have hl := List.mem_range.mp hl
    obtain ⟨h1, h2⟩ := txs_mem hu
    refine ⟨by rw [List.length_append, h1]; rfl, fun x hx => ?_⟩
    rcases List.mem_append.mp hx with z | z
    · exact h2 x z
    · rw [List.mem_singleton.mp z]
      omega
theorem txs_sorted (A : Nat) : ∀ n, (txs A n).Pairwise fun t u => HT.lexLt t u = true := fun n => by
  rw [txs_txc]
  induction n with
  | zero => exact List.pairwise_singleton _ _
  | succ n ih =>
    show ((List.range A).flatMap fun l : Nat => (txc A n).map fun t => (l : Int) :: t).Pairwise _
    rw [List.pairwise_flatMap]
    refine ⟨fun l _ => ?_, ?_⟩
    · rw [List.pairwise_map]
      refine ih.imp fun h => ?_
      rw [HT.lexLt, if_pos rfl]
      exact h
    · refine List.Pairwise.imp (fun {i j} (hij : i < j) x hx y hy => ?_) List.pairwise_lt_range
      obtain ⟨t, _, rfl⟩ := List.mem_map.mp hx
      obtain ⟨u, _, rfl⟩ := List.mem_map.mp hy
      rw [HT.lexLt, if_neg (by omega)]
      exact decide_eq_true (by omega)
theorem sum_range_sig {g : Nat → Nat} : ∀ n : Nat, ((((List.range n).map g).sum : Nat) : Int) = sig n fun i => (g i : Int)
  | 0 => rfl
  | n + 1 => by
    rw [List.range_succ, List.map_append, List.sum_append, sig, ← sum_range_sig n]
    simp
theorem cnt_txc {N s : Int} {A : Nat} : ∀ (ws : List Int) (z : Int), (((txc A ws.length).countP fun t => decide ((z - wsum s ws t) % N = 0) : Nat) : Int) = Gw N A s ws z
  | [], z => by
    show ((List.countP (fun t => decide ((z - wsum s [] t) % N = 0)) [[]] : Nat) : Int) = chi N z
    rw [List.countP_singleton, show wsum s [] [] = 0 from rfl, Int.sub_zero]
    unfold chi
    by_cases h : z % N = 0
    · rw [if_pos h, decide_eq_true h]; rfl
    · rw [if_neg h, decide_eq_false h]; rfl
  | w :: ws, z => by
    show ((List.countP _ ((List.range A).flatMap fun l : Nat => (txc A ws.length).map fun t => (l : Int) :: t) : Nat) : Int) = sig A fun l => Gw N A s ws (z - ((l : Int) + s) * w)
    rw [List.countP_flatMap, sum_range_sig]
    refine sig_congr fun l _ => ?_
    show ((List.countP _ ((txc A ws.length).map fun t => (l : Int) :: t) : Nat) : Int) = _
    rw [List.countP_map, ← cnt_txc ws]
    congr 1
    refine List.countP_congr fun t _ => ?_
    show decide ((z - wsum s (w :: ws) ((l : Int) :: t)) % N = 0) = true ↔ _
    rw [wsum, show z - (((l : Int) + s) * w + wsum s ws t) = z - ((l : Int) + s) * w - wsum s ws t by omega]
/-- the texts with a mark, in order -/
noncomputable def txm (N : Int) (A : Nat) (y : Sty) (b : Int) (n : Nat) (m : Int) : List (List Int) := (txs A n).filter fun t => decide (mark y b N t = m)
section
variable {N b : Int} {A n : Nat} {y : Sty} {m : Int}
theorem txm_gd (hm : 0 ≤ m ∧ m < N) {t : List Int} (h : t ∈ txm N A y b n m) : Gd N A y.shift (wts b N y.low n) (m - ld y * b ^ n) t := by
  obtain ⟨h1, h2⟩ := List.mem_filter.mp h
  obtain ⟨h3, h4⟩ := txs_mem h1
  have := (gd_mark (b := b) hm h4).mpr (of_decide_eq_true h2)
  rwa [h3] at this
theorem txm_len (hm : 0 ≤ m ∧ m < N) : ((txm N A y b n m).length : Int) = (cnt N b y.shift (ld y) A n).getD m.toNat 0 := by
  rw [cnt_Gw (by omega) y.low n (x := m.toNat) (by omega), Int.toNat_of_nonneg hm.1, ← cnt_txc, wts_len, ← txs_txc]
  unfold txm
  rw [← List.countP_eq_length_filter]
  congr 1
  refine List.countP_congr fun t ht => ?_
  obtain ⟨h3, h4⟩ := txs_mem ht
  have e := gd_mark (y := y) (b := b) hm h4
  rw [h3] at e
  rw [decide_eq_true_iff, decide_eq_true_iff, ← e]
  exact ⟨fun g => g.sum, fun g => ⟨by rw [h3, wts_len], h4, g⟩⟩
theorem inc_id {L : Nat} {f : Nat → Int} (h0 : ∀ i, i < L → 0 ≤ f i ∧ f i < L) (hm : ∀ i j, i < j → j < L → f i < f j) : ∀ i, i < L → f i = i := by
  have lo : ∀ i, i < L → (i : Int) ≤ f i := by
    intro i
    induction i with
    | zero => exact fun h => (h0 0 h).1
    | succ i ih =>
      intro h
      have h1 := ih (by omega)
      have h2 := hm i (i + 1) (by omega) h
      omega
  have hi : ∀ k, k < L → f (L - 1 - k) ≤ (L : Int) - 1 - k := by
    intro k
    induction k with
    | zero =>
      intro h
      have := (h0 (L - 1 - 0) (by omega)).2
      omega
    | succ k ih =>
      intro h
      have h1 := ih (by omega)
      have h2 := hm (L - 1 - (k + 1)) (L - 1 - k) (by omega) (by omega)
      omega
  intro i hiL
  have h1 := lo i hiL
  have h2 := hi (L - 1 - i) (by omega)
  rw [show L - 1 - (L - 1 - i) = i by omega] at h2
  omega
/-- the number of the text at a place -/
theorem txm_rk (hm : 0 ≤ m ∧ m < N) : ∀ (i : Nat) (t : List Int), (txm N A y b n m)[i]? = some t → Rk N A y.shift (wts b N y.low n) (m - ld y * b ^ n) t = i := by
  have hs : (txm N A y b n m).Pairwise fun t u => HT.lexLt t u = true := (txs_sorted A n).filter _
  have key := inc_id (L := (txm N A y b n m).length) (f := fun i => Rk N A y.shift (wts b N y.low n) (m - ld y * b ^ n) ((txm N A y b n m).getD i []))
    (fun i hi => by
      have hg := txm_gd hm (List.getElem_mem hi)
      have := Rk_lt hg
      show 0 ≤ Rk _ _ _ _ _ ((txm N A y b n m).getD i []) ∧ Rk _ _ _ _ _ ((txm N A y b n m).getD i []) < _
      rw [List.getD_eq_getElem?_getD, List.getElem?_eq_getElem hi, txm_len hm, cnt_Gw (by omega) y.low n (x := m.toNat) (by omega), Int.toNat_of_nonneg hm.1]
      exact this)
    (fun i j hij hj => by
      show Rk _ _ _ _ _ ((txm N A y b n m).getD i []) < Rk _ _ _ _ _ ((txm N A y b n m).getD j [])
      rw [List.getD_eq_getElem?_getD, List.getElem?_eq_getElem (show i < _ by omega), List.getD_eq_getElem?_getD, List.getElem?_eq_getElem hj]
      exact Rk_mono (txm_gd hm (List.getElem_mem _)) (txm_gd hm (List.getElem_mem _)) ((List.pairwise_iff_getElem.mp hs) i j (by omega) hj hij))
  intro i t h
  obtain ⟨hi, rfl⟩ := List.getElem?_eq_some_iff.mp h
  have := key i hi
  simp only [List.getD_eq_getElem?_getD, List.getElem?_eq_getElem hi, Option.getD_some] at this
  exact this
theorem txm_nth (hm : 0 ≤ m ∧ m < N) {k : Int} {t u : List Int} (hu : (txm N A y b n m)[k.toNat]? = some u) (k0 : 0 ≤ k) (h : NthT N A y b n m k t) : t = u := by
  have h1 := txm_rk hm k.toNat u hu
  rw [Int.toNat_of_nonneg k0] at h1
  exact Rk_inj h.1 (txm_gd hm (List.mem_of_getElem? hu)) (h.2.trans h1.symm)
theorem txm_num (hm : 0 ≤ m ∧ m < N) {i : Nat} {u : List Int} (hu : (txm N A y b n m)[i]? = some u) : Rk N A y.shift (wts b N y.low u.length) (mark y b N u - ld y * b ^ u.length) u = i := by
  have h1 := txm_rk hm i u hu
  obtain ⟨h2, h3⟩ := List.mem_filter.mp (List.mem_of_getElem? hu)
  rw [(txs_mem h2).1, of_decide_eq_true h3]
  exact h1
end
noncomputable def TL (H : Hp) (l : Addr) (tss : List (List Int)) : Prop := ∃ ts : List Addr, H l = some (.lst (ts.map V.ref)) ∧ Paired (fun us t => H t = some (.tup (us.map V.int))) tss ts
theorem TL.same {H H' : Hp} {r : Addr} {tss : List (List Int)} (h : TL H r tss) (s : Same H H') : TL H' r tss := by
  obtain ⟨as, h1, h2⟩ := h
  exact ⟨as, s _ _ h1, paired_imp (fun _ _ z => s _ _ z) h2⟩
noncomputable def dTu (ls : List Int) : PyData := .tuple (ls.map PyData.int)
theorem w_neTTe {K : PySem.W.Frag} {H : Hp} {a b : Addr} {ls ms : List Int} {Q : VK} (ha : SqT K H a (ls.map V.int)) (hb : SqT K H b (ms.map V.int)) (e : ls = ms) (q : Q (.bl false) H) : rNeD K (.ref a) (.ref b) H Q := by
  subst e
  have sh : SeqAt.shaped (dTu ls) = true := by
    unfold SeqAt.shaped dTu
    rw [PyData.canLay0, lay_ints, PyData.depth, depth_ints]
    rfl
  refine ⟨dTu ls, dTu ls, .tup ha (dp_ints _), .tup hb (dp_ints _), sh, sh, ?_⟩
  rw [show PyData.eqv (dTu ls) (dTu ls) = true by rw [dTu, PyData.eqv, eqv_ints]; simp]
  exact q
noncomputable def kvM (js : List Nat) (ad : Nat → Addr) : List (Key × V) := js.map fun j : Nat => ((.inl (j : Int) : Key), V.ref (ad j))
structure GvD (H0 H : Hp) (d : Addr) (P : Nat → List V) (js : List Nat) (ad : Nat → Addr) : Prop where
  same : Same H0 H
  dn : H0 d = none
  at_ : H d = some (.dK (kvM js ad))
  nd : js.Nodup
  l : ∀ j ∈ js, H (ad j) = some (.lst (P j))
  ln : ∀ j ∈ js, H0 (ad j) = none
  inj : ∀ i ∈ js, ∀ j ∈ js, ad i = ad j → i = j
  no : ∀ j, j ∉ js → P j = []
theorem GvD.mono {H0 H H' : Hp} {d : Addr} {P : Nat → List V} {js : List Nat} {ad : Nat → Addr} (L : GvD H0 H d P js ad) (s : Same H H') : GvD H0 H' d P js ad :=
  ⟨L.same.trans s, L.dn, s _ _ L.at_, L.nd, fun j h => s _ _ (L.l j h), L.ln, L.inj, L.no⟩
theorem GvD.dne {H0 H : Hp} {d : Addr} {P : Nat → List V} {js : List Nat} {ad : Nat → Addr} (L : GvD H0 H d P js ad) {j : Nat} (h : j ∈ js) : ad j ≠ d := fun e => by
  have h1 := L.l j h
  rw [e, L.at_] at h1
  cases h1
theorem kvM_val (ad : Nat → Addr) (j : Nat) : ∀ js : List Nat, valV (kvM js ad) (.inl (j : Int)) = if j ∈ js then some (.ref (ad j)) else none
  | [] => rfl
  | i :: js => by
    have ih := kvM_val ad j js
    by_cases e : i = j
    · subst e
      rw [if_pos (List.mem_cons_self ..)]
      exact valV_pos rfl
    · rw [show kvM (i :: js) ad = ((.inl (i : Int) : Key), V.ref (ad i)) :: kvM js ad from rfl, valV_neg (show ¬ (Sum.inl (i : Int) : Key) = .inl (j : Int) from fun z => e (by have := Sum.inl.inj z; omega)), ih]
      by_cases hj : j ∈ js
      · rw [if_pos hj, if_pos (List.mem_cons_of_mem _ hj)]
      · rw [if_neg hj, if_neg (fun z => (List.mem_cons.mp z).elim (fun z => e z.symm) hj)]
noncomputable def addM (P : Nat → List V) (j : Nat) (v : V) : Nat → List V := fun i => if i = j then P j ++ [v] else P i
noncomputable def AddM (H0 : Hp) (d : Addr) (P : Nat → List V) (js : List Nat) (j : Nat) (v : V) (Q : VK) : Prop :=
  ∀ (H' : Hp) (js' : List Nat) (ad' : Nat → Addr), (∀ i, i ∈ js' ↔ i ∈ js ∨ i = j) → GvD H0 H' d (addM P j v) js' ad' → Q .non H'
theorem GvD.add {H0 H : Hp} {d e : Addr} {P : Nat → List V} {js : List Nat} {ad : Nat → Addr} (L : GvD H0 H d P js ad) (j : Nat) (r : V) (he : H e = some (.lst [])) (h0 : H0 e = none) (hne : ∀ i ∈ js, ad i ≠ e) (hz : (P j).length < sizeLine) :
    (∀ v, valV (kvM js ad) (.inl (j : Int)) = some v → ∃ a xs, v = .ref a ∧ H a = some (.lst xs) ∧ ∀ Q, AddM H0 d P js j r Q → rAppend (.ref a) [r] H Q) ∧ (valV (kvM js ad) (.inl (j : Int)) = none → ∃ xs, L2.upd H d (.dK (putK (kvM js ad) (.inl (j : Int)) (.ref e))) e = some (.lst xs) ∧ ∀ Q, AddM H0 d P js j r Q → rAppend (.ref e) [r] (L2.upd H d (.dK (putK (kvM js ad) (.inl (j : Int)) (.ref e)))) Q) := by
  rw [kvM_val]
  constructor
  · intro v hv
    by_cases hj : j ∈ js
    · rw [if_pos hj] at hv
      cases hv
      have hl := L.l j hj
      refine ⟨ad j, _, rfl, hl, fun Q q => ?_⟩
      refine w_append hl hz (q _ js ad (fun i => ⟨.inl, fun z => z.elim id fun z => by rw [z]; exact hj⟩) ?_)
      have hd := L.dne hj
      refine ⟨fun c o' e => ?_, L.dn, (upd_ne hd.symm).trans L.at_, L.nd, fun i hi => ?_, L.ln, L.inj, fun i hi => ?_⟩
      · rw [upd_ne (fun z => by rw [z, L.ln j hj] at e; cases e)]
        exact L.same _ _ e
      · unfold addM
        by_cases z : i = j
        · subst z
          rw [if_pos rfl, L2.upd_same]
        · rw [if_neg z, upd_ne (fun y => z (L.inj i hi j hj y))]
          exact L.l i hi
      · unfold addM
        rw [if_neg (fun z => hi (by rw [z]; exact hj))]
        exact L.no i hi
    · rw [if_neg hj] at hv
      cases hv
  · intro hv
    by_cases hj : j ∈ js
    · rw [if_pos hj] at hv
      cases hv
    · have hk : valV (kvM js ad) (.inl (j : Int)) = none := by rw [kvM_val, if_neg hj]
      have hed : e ≠ d := fun z => by
        rw [z, L.at_] at he
        cases he
      have he2 : L2.upd H d (.dK (putK (kvM js ad) (.inl (j : Int)) (.ref e))) e = some (.lst []) := (upd_ne hed).trans he
      have hlt : ∀ i ∈ js, i ≠ j := fun i hi z => hj (by rw [← z]; exact hi)
      refine ⟨_, he2, fun Q q => ?_⟩
      refine w_append he2 (by decide) (q _ (js ++ [j]) (fun i => if i = j then e else ad i) (fun i => by simp) ?_)
      have ekv : kvM (js ++ [j]) (fun i => if i = j then e else ad i) = kvM js ad ++ [((.inl (j : Int) : Key), V.ref e)] := by
        unfold kvM
        rw [List.map_append]
        congr 1
        · refine List.map_congr_left fun i hi => ?_
          show ((Sum.inl (i : Int) : Key), V.ref (if i = j then e else ad i)) = _
          rw [if_neg (hlt i hi)]
        · show [((Sum.inl (j : Int) : Key), V.ref (if j = j then e else ad j))] = _
          rw [if_pos rfl]
      refine ⟨fun c o' e' => ?_, L.dn, ?_, ?_, fun i hi => ?_, fun i hi => ?_, fun i hi i' hi' hh => ?_, fun i hi => ?_⟩
      · rw [upd_ne (fun z => by rw [z, h0] at e'; cases e'), upd_ne (fun z => by rw [z, L.dn] at e'; cases e')]
        exact L.same _ _ e'
      · rw [upd_ne hed.symm, L2.upd_same, ekv, putK_new _ hk]
      · rw [List.nodup_append]
        exact ⟨L.nd, by simp, fun a ha b hb => by rw [List.mem_singleton.mp hb]; exact hlt a ha⟩
      · show L2.upd _ e _ (if i = j then e else ad i) = some (.lst (addM P j r i))
        unfold addM
        by_cases z : i = j
        · rw [if_pos z, if_pos z, L2.upd_same, L.no j hj]
        · have hi : i ∈ js := (List.mem_append.mp hi).elim id fun h => absurd (List.mem_singleton.mp h) z
          rw [if_neg z, if_neg z, upd_ne (hne i hi), upd_ne (L.dne hi)]
          exact L.l i hi
      · show H0 (if i = j then e else ad i) = none
        by_cases z : i = j
        · rw [if_pos z]
          exact h0
        · rw [if_neg z]
          exact L.ln i ((List.mem_append.mp hi).elim id fun h => absurd (List.mem_singleton.mp h) z)
      · have hh : (if i = j then e else ad i) = (if i' = j then e else ad i') := hh
        have mem : ∀ {i : Nat}, i ∈ js ++ [j] → i ≠ j → i ∈ js := fun h z => (List.mem_append.mp h).elim id fun h => absurd (List.mem_singleton.mp h) z
        by_cases z : i = j
        · by_cases z' : i' = j
          · rw [z, z']
          · rw [if_pos z, if_neg z'] at hh
            exact absurd hh.symm (hne i' (mem hi' z'))
        · by_cases z' : i' = j
          · rw [if_neg z, if_pos z'] at hh
            exact absurd hh (hne i (mem hi z))
          · rw [if_neg z, if_neg z'] at hh
            exact L.inj i (mem hi z) i' (mem hi' z') hh
      · unfold addM
        rw [List.mem_append] at hi
        rw [if_neg (fun z => hi (.inr (by rw [z]; exact List.mem_singleton.mpr rfl)))]
        exact L.no i fun z => hi (.inl z)
theorem GvD.len {H0 H : Hp} {d : Addr} {P : Nat → List V} {js : List Nat} {ad : Nat → Addr} (L : GvD H0 H d P js ad) {J : Nat} (h : ∀ j ∈ js, j < J) : (kvM js ad).length ≤ J := by
  unfold kvM
  rw [List.length_map]
  have nd_le : ∀ {l m : List Nat}, l.Nodup → (∀ x ∈ l, x ∈ m) → l.length ≤ m.length := fun {l m} hn hs => by
    induction l generalizing m with
    | nil => exact Nat.zero_le _
    | cons x r ih =>
      obtain ⟨h1, h2⟩ := List.nodup_cons.mp hn
      have hx : x ∈ m := hs x List.mem_cons_self
      have := ih (m := m.erase x) h2 fun y hy => (List.mem_erase_of_ne (fun e : y = x => h1 (by rw [← e]; exact hy))).2 (hs y (List.mem_cons_of_mem _ hy))
      have e := List.length_erase_of_mem hx
      have hp : 0 < m.length := List.length_pos_of_mem hx
      rw [List.length_cons]
      omega
  have := nd_le (m := List.range J) L.nd fun j hj => List.mem_range.mpr (h j hj)
  rwa [List.length_range] at this
/-- texts grouped by their marks -/
noncomputable def Grp (N b : Int) (y : Sty) (H : Hp) (P : Nat → List V) (tss : List (List Int)) : Prop := ∀ j : Nat, ∃ us : List Addr, P j = us.map V.ref ∧ Paired (fun u t => H t = some (.tup (u.map V.int))) (tss.filter fun t => decide (mark y b N t = j)) us
theorem Grp.len {N b : Int} {y : Sty} {H : Hp} {P : Nat → List V} {tss : List (List Int)} (g : Grp N b y H P tss) (j : Nat) : (P j).length ≤ tss.length := by
  obtain ⟨us, h1, h2⟩ := g j
  rw [h1, List.length_map, ← h2.length]
  exact List.length_filter_le _ _
end Bc
namespace Bc
open PySem PySem.Spec PyProof.Rows L2
noncomputable def spFirstP (Cq : Addr) (ap : List Int → Int → Prop) : Sp := fun vs H Q _ => ∃ (o : Addr) (bs : List Int) (N A : Int) (lw : Bool), vs = [.ref o, .int A] ∧ ScAt Cq H o bs N lw ∧ Scb bs N ∧ 1 ≤ A ∧ A ≤ 1000 ∧ (A = 1 → Q .non H) ∧
  (A ≠ 1 → ∃ M m : Nat, ap bs N ∧ Few bs N M ∧ M * (2 * A.toNat) ≤ 50000 ∧ M ≤ 50000 ∧ LeastS bs N A.toNat m ∧ m ≤ 10000 ∧ GdT bs N A.toNat [] (wsL N lw m) [] ∧ ∀ H' p q1 q2 t u, Same H H' → FstT bs N A.toNat (wsL N lw m) t → FstO bs N A.toNat (wsL N lw m) t u → H' p = some (.tup [.ref q1, .ref q2]) → H' q1 = some (.tup (t.map V.int)) → H' q2 = some (.tup (u.map V.int)) → Q (.ref p) H')
noncomputable def spWinPair (P : Program) (w : World) (c : CA) : Sp := fun vs H Q _ => ∃ (x : Addr) (A b : Int) (ps : List (Int × Int)) (y : Sty), vs = [.ref x, .int A] ∧ WayAt c H x b ps y ∧ num ps ≤ 2000 ∧ 1 ≤ A ∧ A ≤ 1000 ∧ (A = 1 → ∀ H', Same H H' → Q .non H') ∧
  (A ≠ 1 → num ps * (2 * A) ≤ 50000 ∧ Hap P w [b] (num ps) ∧ ∃ m : Nat, LeastS [b] (num ps) A.toNat m ∧ m ≤ 10000 ∧ ∀ H' p q1 q2 t u, Same H H' → FstT [b] (num ps) A.toNat (wsL (num ps) y.low m) t → FstO [b] (num ps) A.toNat (wsL (num ps) y.low m) t u → H' p = some (.tup [.ref q1, .ref q2]) → H' q1 = some (.tup (t.map V.int)) → H' q2 = some (.tup (u.map V.int)) → Q (.ref p) H')
end Bc
namespace Bc
open PySem PySem.Spec PyProof.Rows L2
section
variable {b N : Int}
theorem mod_cong (hN : N ∣ N) {x y : Int} (h : N ∣ x - y) : x % N = y % N := by
  rw [Int.emod_eq_emod_iff_emod_sub_eq_zero]
  exact Int.emod_eq_zero_of_dvd h
theorem hv_snoc (l : List Int) (x : Int) : hv (l ++ [x]) b = hv l b * b + x := by
  unfold hv
  rw [List.foldl_append]
  rfl
/-- the weights b^k, b^(k+1), .. -/
theorem SF_pow : ∀ (ss : List Int) (k : Nat), N ∣ SF ((List.range' k ss.length).map (pwF N)) ss b - b ^ k * hv ss.reverse b
  | [], k => by
    show N ∣ 0 - b ^ k * 0
    rw [Int.mul_zero]
    exact ⟨0, by omega⟩
  | s :: ss, k => by
    rw [List.length_cons, List.range'_succ, List.map_cons, List.reverse_cons, hv_snoc]
    show N ∣ (s * (b ^ k % N) + SF ((List.range' (k + 1) ss.length).map (pwF N)) ss b) - b ^ k * (hv ss.reverse b * b + s)
    obtain ⟨c, hc⟩ := SF_pow ss (k + 1)
    refine ⟨c - s * (b ^ k / N), ?_⟩
    have e := Int.mul_ediv_add_emod (b ^ k) N
    have e2 : b ^ (k + 1) = b ^ k * b := Int.pow_succ ..
    rw [e2] at hc
    have e3 : b ^ k % N = b ^ k - N * (b ^ k / N) := by omega
    rw [e3, Int.mul_sub, Int.mul_sub, ← hc]
    grind
theorem SF_rev : ∀ {ws : List (Int → Int)} {ss : List Int}, ws.length = ss.length → SF ws.reverse ss.reverse b = SF ws ss b
  | [], [], _ => rfl
  | [], _ :: _, h => by simp at h
  | _ :: _, [], h => by simp at h
  | w :: ws, s :: ss, h => by
    have hl : ws.length = ss.length := by simpa using h
    rw [List.reverse_cons, List.reverse_cons, SF_app (by rw [List.length_reverse, List.length_reverse, hl]), SF_rev hl]
    show SF ws ss b + (s * w b + 0) = s * w b + SF ws ss b
    omega
noncomputable def hvD (lw : Bool) (b : Int) (l : List Int) : Int := hv (if lw = true then l.reverse else l) b
theorem SF_hvD {lw : Bool} {n : Nat} {ss : List Int} (h : ss.length = n) : N ∣ SF (wsL N lw n) ss b - hvD lw b ss := by
  subst h
  have key : ∀ ss : List Int, N ∣ SF ((List.range ss.length).map (pwF N)) ss b - hv ss.reverse b := fun ss => by
    have := SF_pow (b := b) (N := N) ss 0
    rw [Int.pow_zero, Int.one_mul, ← List.range_eq_range'] at this
    exact this
  unfold wsL hvD
  cases lw with
  | true =>
    rw [if_pos rfl, if_pos rfl]
    exact key ss
  | false =>
    rw [if_neg (by decide), if_neg (by decide)]
    have := key ss.reverse
    rw [List.reverse_reverse, List.length_reverse] at this
    have e : SF ((List.range ss.length).map (pwF N)).reverse ss b = SF ((List.range ss.length).map (pwF N)) ss.reverse b := by
      have := SF_rev (b := b) (ws := (List.range ss.length).map (pwF N)) (ss := ss.reverse) (by rw [List.length_map, List.length_range, List.length_reverse])
      rw [List.reverse_reverse] at this
      exact this
    rw [e]
    exact this
theorem sbv_rev {q p : List Int} (h : q.length = p.length) : (sbv q p).reverse = sbv q.reverse p.reverse := by
  unfold sbv
  rw [List.reverse_zipWith h]
theorem hvD_sub {lw : Bool} {q p : List Int} (h : q.length = p.length) : hvD lw b (sbv q p) = hvD lw b q - hvD lw b p := by
  unfold hvD
  cases lw with
  | true =>
    rw [if_pos rfl, if_pos rfl, if_pos rfl, sbv_rev h]
    exact hv_zsub (by rw [List.length_reverse, List.length_reverse, h])
  | false =>
    rw [if_neg (by decide), if_neg (by decide), if_neg (by decide)]
    exact hv_zsub h
theorem Agr_hvD {lw : Bool} {n : Nat} {q p : List Int} (hq : q.length = n) (hp : p.length = n) : Agr [b] N (wsL N lw n) q p ↔ hvD lw b q % N = hvD lw b p % N := by
  have hl : q.length = p.length := by omega
  have h1 := SF_hvD (b := b) (N := N) (lw := lw) (n := n) (ss := sbv q p) (by rw [sbv_len hl, hp])
  rw [hvD_sub hl] at h1
  have h2 : SF (wsL N lw n) (sbv q p) b % N = (hvD lw b q - hvD lw b p) % N := mod_cong ⟨1, by omega⟩ h1
  unfold Agr
  constructor
  · intro h
    have := h b (List.mem_singleton.mpr rfl)
    rw [h2] at this
    exact Int.emod_eq_emod_iff_emod_sub_eq_zero.mpr this
  · intro h c hc
    rw [List.mem_singleton.mp hc, h2]
    exact Int.emod_eq_emod_iff_emod_sub_eq_zero.mp h
theorem mark_hvD {y : Sty} {q p : List Int} (h : q.length = p.length) : mark y b N q = mark y b N p ↔ hvD y.low b q % N = hvD y.low b p % N := by
  rw [mark_hv, mark_hv, h]
  unfold hvD
  refine Iff.trans Int.emod_eq_emod_iff_emod_sub_eq_zero (Iff.trans ?_ Int.emod_eq_emod_iff_emod_sub_eq_zero.symm)
  rw [show ((if y.lead then 1 else 0) * b ^ p.length + hv (if y.low = true then q.reverse else q) b + y.shift * geo b p.length) - ((if y.lead then 1 else 0) * b ^ p.length + hv (if y.low = true then p.reverse else p) b + y.shift * geo b p.length) = hv (if y.low = true then q.reverse else q) b - hv (if y.low = true then p.reverse else p) b by omega]
theorem two_ofW {A : Nat} (hA : 1 ≤ A) : ∀ ds : List Int, (∀ x ∈ ds, -(A : Int) < x ∧ x < A) → ∃ u q : List Int, u.length = ds.length ∧ q.length = ds.length ∧ Ltr A u ∧ Ltr A q ∧ sbv q u = ds
  | [], _ => ⟨[], [], rfl, rfl, fun _ h => (nomatch h), fun _ h => (nomatch h), rfl⟩
  | d :: ds, h => by
    obtain ⟨u, q, h1, h2, h3, h4, h5⟩ := two_ofW hA ds fun x hx => h x (List.mem_cons_of_mem _ hx)
    have hd := h d List.mem_cons_self
    refine ⟨(if d < 0 then -d else 0) :: u, (if d < 0 then 0 else d) :: q, by simp [h1], by simp [h2], fun x hx => ?_, fun x hx => ?_, ?_⟩
    · rcases List.mem_cons.mp hx with e | e
      · rw [e]
        split <;> omega
      · exact h3 x e
    · rcases List.mem_cons.mp hx with e | e
      · rw [e]
        split <;> omega
      · exact h4 x e
    · show ((if d < 0 then 0 else d) - (if d < 0 then -d else 0)) :: sbv q u = d :: ds
      rw [h5]
      congr 1
      split <;> omega
theorem Sms_row {A : Nat} : ∀ {m : Nat} {k : List Int}, Sms [b] N A m k → ∃ ds : List Int, ds.length = m ∧ (∀ x ∈ ds, -(A : Int) < x ∧ x < A) ∧ (∃ x ∈ ds, x ≠ 0) ∧ k = [hv ds b % N]
  | 0, _, h => h.elim
  | 1, _, h => by
    obtain ⟨s, h0, h1, h2, rfl⟩ := h
    refine ⟨[s], rfl, fun x hx => ?_, ⟨s, List.mem_singleton.mpr rfl, h0⟩, ?_⟩
    · rw [List.mem_singleton.mp hx]
      exact ⟨h1, h2⟩
    · show [(0 * b + s) % N] = [(0 * b + s) % N]
      rfl
  | m + 2, _, h => by
    obtain ⟨k', h', s, h1, h2, rfl⟩ := h
    obtain ⟨ds, l1, l2, ⟨z, hz, z0⟩, rfl⟩ := Sms_row h'
    refine ⟨ds ++ [s], by rw [List.length_append, l1]; rfl, fun x hx => ?_, ⟨z, List.mem_append_left _ hz, z0⟩, ?_⟩
    · rcases List.mem_append.mp hx with e | e
      · exact l2 x e
      · rw [List.mem_singleton.mp e]
        exact ⟨h1, h2⟩
    · rw [hv_snoc]
      show [(hv ds b % N * b + s) % N] = [(hv ds b * b + s) % N]
      congr 1
      rw [Int.add_emod, Int.mul_emod, Int.emod_emod_of_dvd _ ⟨1, by omega⟩, ← Int.mul_emod, ← Int.add_emod]
/-- two unlike texts of a length with one mark -/
noncomputable def Clash (b N : Int) (A : Nat) (lw : Bool) (n : Nat) : Prop := ∃ u q : List Int, u.length = n ∧ q.length = n ∧ Ltr A u ∧ Ltr A q ∧ q ≠ u ∧ hvD lw b q % N = hvD lw b u % N
theorem Clash.of_Sms {A n : Nat} {lw : Bool} (hA : 1 ≤ A) (h : Sms [b] N A n (zr [b])) : Clash b N A lw n := by
  obtain ⟨ds, l1, l2, ⟨z, hz, z0⟩, e⟩ := Sms_row h
  have e : hv ds b % N = 0 := ((List.cons.inj e).1).symm
  have l1' : (if lw = true then ds.reverse else ds).length = n := by
    split
    · rw [List.length_reverse, l1]
    · exact l1
  have l2' : ∀ x ∈ (if lw = true then ds.reverse else ds), -(A : Int) < x ∧ x < A := fun x hx => by
    split at hx
    · exact l2 x (List.mem_reverse.mp hx)
    · exact l2 x hx
  obtain ⟨u, q, h1, h2, h3, h4, h5⟩ := two_ofW hA _ l2'
  have hl : q.length = u.length := by omega
  refine ⟨u, q, by omega, by omega, h3, h4, fun e1 => ?_, ?_⟩
  · have := (sbv_ne hl).mp ⟨z, by
      rw [h5]
      split
      · exact List.mem_reverse.mpr hz
      · exact hz, z0⟩
    exact this e1
  · rw [Int.emod_eq_emod_iff_emod_sub_eq_zero, ← hvD_sub hl, h5]
    unfold hvD
    have : (if lw = true then (if lw = true then ds.reverse else ds).reverse else (if lw = true then ds.reverse else ds)) = ds := by
      cases lw
      · rfl
      · exact List.reverse_reverse ds
    rw [this]
    exact e
theorem Clash.strip {A n : Nat} {lw : Bool} (h : Clash b N A lw n) : ∃ j, 1 ≤ j ∧ j ≤ n ∧ Sms [b] N A j (zr [b]) := by
  obtain ⟨u, q, h1, h2, h3, h4, h5, h6⟩ := h
  have hl : q.length = u.length := by omega
  have key : ∀ q u : List Int, q.length = n → u.length = n → Ltr A q → Ltr A u → q ≠ u → hv q b % N = hv u b % N → ∃ j, 1 ≤ j ∧ j ≤ n ∧ Sms [b] N A j (zr [b]) := fun q u l1 l2 a1 a2 hn he => by
    have hl : q.length = u.length := by omega
    obtain ⟨j, g1, g2, g3⟩ := Bc.strip (b := b) (N := N) (A := A) (zip_ne hl hn) (zip_bd a1 a2) (by rw [hv_zsub hl]; exact Int.emod_eq_emod_iff_emod_sub_eq_zero.mp he)
    rw [List.length_zipWith, l1, l2, Nat.min_self] at g2
    exact ⟨j, g1, g2, g3⟩
  unfold hvD at h6
  cases lw with
  | true =>
    rw [if_pos rfl, if_pos rfl] at h6
    exact key _ _ (by rw [List.length_reverse, h2]) (by rw [List.length_reverse, h1]) (fun x hx => h4 x (List.mem_reverse.mp hx)) (fun x hx => h3 x (List.mem_reverse.mp hx)) (fun e => h5 (List.reverse_inj.mp e)) h6
  | false =>
    rw [if_neg (by decide), if_neg (by decide)] at h6
    exact key _ _ h2 h1 h4 h3 h5 h6
theorem LeastS.gd {A m : Nat} {lw : Bool} (hA : 1 ≤ A) (h : LeastS [b] N A m) : GdT [b] N A [] (wsL N lw m) [] := by
  obtain ⟨u, q, h1, h2, h3, h4, h5, h6⟩ := Clash.of_Sms (lw := lw) hA h.hit
  exact GdT_take (pw := []) (p := []) (s := u) (q' := []) (s' := q) rfl (by rw [wsL_len, h1]) (by rw [wsL_len, h2]) rfl h3 h4 h5 ((Agr_hvD h2 h1).mpr h6)
end
theorem FstT.gdO {bs : List Int} {N : Int} {A : Nat} {ws : List (Int → Int)} {t : List Int} (h : FstT bs N A ws t) : GdO bs N A [] ws [] t [] := by
  obtain ⟨q, h1, h2, h3, h4⟩ := h.good
  exact GdO_take (pw := []) (pt := []) (o := []) (s := q) rfl rfl h1 h2 h3 h4
end Bc
namespace Bc
open PySem PySem.Spec PyProof.Rows L2
noncomputable def inv1 (z : Int) : Nat :=
  let m : Nat := 18446744073709551616
  let a := (z % (m : Int)).toNat
  let a := (a + m - 2870177450013471927) % m
  let a := a * 614540362697595703 % m
  let a := (a * 8589934592) % m + a / 2147483648
  (a + m - 2870177450012600261) % m * 839798700976720815 % m
theorem inv1_ok : ((List.range 1000).all fun x => decide (inv1 (reduceHash (Builtin.Tuple.tupleHashOf [hashInt ((x : Nat) : Int)])) = x)) = true := by decide +kernel
theorem hshT_one {P : Program} {w : World} {x : Int} : hshT P w (kk [x]) = reduceHash (Builtin.Tuple.tupleHashOf [hashInt x]) := rfl
theorem hap_one {P : Program} {w : World} {b N : Int} (hN : N ≤ 1000) : Hap P w [b] N := by
  intro k k' lk lk' hk hk' e
  match k, k', lk, lk' with
  | [x], [y], _, _ =>
    have h1 := hk x List.mem_cons_self
    have h2 := hk' y List.mem_cons_self
    obtain ⟨i, rfl⟩ := Int.eq_ofNat_of_zero_le h1.1
    obtain ⟨j, rfl⟩ := Int.eq_ofNat_of_zero_le h2.1
    rw [hshT_one, hshT_one] at e
    have a1 := of_decide_eq_true (List.all_eq_true.mp inv1_ok i (List.mem_range.mpr (by omega)))
    have a2 := of_decide_eq_true (List.all_eq_true.mp inv1_ok j (List.mem_range.mpr (by omega)))
    rw [← a1, ← a2, e]
end Bc
namespace Bc
open PySem PySem.Spec PyProof.Rows L2
theorem txs_L (A : Nat) : ∀ n, txs A n = txsL A n
  | 0 => rfl
  | n + 1 => by
    show (txs A n).flatMap (extT A) = (txsL A n).flatMap fun t => (List.range A).map fun l : Nat => t ++ [(l : Int)]
    rw [txs_L A n]
    rfl
section
variable {y : Sty} {b N : Int} {A n : Nat}
theorem txm_mem {m : Int} {t : List Int} : t ∈ txm N A y b n m ↔ (t.length = n ∧ Ltr A t) ∧ mark y b N t = m := by
  unfold txm
  rw [List.mem_filter, txs_L, txsL_mem, decide_eq_true_iff]
theorem txm_lex {m : Int} : (txm N A y b n m).Pairwise LexLt := by
  unfold txm
  rw [txs_L]
  exact (txsL_lex A n).filter _
theorem txm_two {m : Int} {u q : List Int} (hu : u ∈ txm N A y b n m) (hq : q ∈ txm N A y b n m) (h : q ≠ u) : 2 ≤ (txm N A y b n m).length := by
  match hs : txm N A y b n m with
  | [] => rw [hs] at hu; cases hu
  | [x] =>
    rw [hs] at hu hq
    exact absurd ((List.mem_singleton.mp hq).trans (List.mem_singleton.mp hu).symm) h
  | x :: z :: r => simp
theorem cnt_at {x : Int} (hN : 0 < N) (h : x ∈ cnt N b y.shift (ld y) A n) : ∃ m : Int, (0 ≤ m ∧ m < N) ∧ x = ((txm N A y b n m).length : Int) := by
  obtain ⟨i, hi, rfl⟩ := List.getElem_of_mem h
  have hi2 : i < N.toNat := by rwa [cnt_len] at hi
  have hm : 0 ≤ ((i : Nat) : Int) ∧ ((i : Nat) : Int) < N := by omega
  refine ⟨(i : Int), hm, ?_⟩
  rw [txm_len hm, Int.toNat_natCast, List.getD_eq_getElem?_getD, List.getElem?_eq_getElem hi]
  rfl
theorem cnt_low (hN : 0 < N) (h : ¬ Clash b N A y.low n) : ∀ x ∈ cnt N b y.shift (ld y) A n, x ≤ 1 := fun x hx => by
  obtain ⟨m, hm, rfl⟩ := cnt_at hN hx
  refine Classical.byContradiction fun c => h ?_
  have hl : 1 < (txm N A y b n m).length := by omega
  have e0 := txm_mem.mp (List.getElem_mem (l := txm N A y b n m) (n := 0) (by omega))
  have e1 := txm_mem.mp (List.getElem_mem hl)
  have ne := (List.pairwise_iff_getElem.mp (txm_lex (y := y) (b := b) (N := N) (A := A) (n := n) (m := m)) 0 1 (by omega) hl (by omega)).ne
  exact ⟨_, _, e0.1.1, e1.1.1, e0.1.2, e1.1.2, ne.symm, (mark_hvD (y := y) (by rw [e0.1.1, e1.1.1])).mp (by rw [e0.2, e1.2])⟩
theorem cnt_high (hN : 0 < N) (h : Clash b N A y.low n) : ∃ x ∈ cnt N b y.shift (ld y) A n, 2 ≤ x := by
  obtain ⟨u, q, h1, h2, h3, h4, h5, h6⟩ := h
  have hm := mark_range (y := y) (b := b) hN u
  have em : mark y b N q = mark y b N u := (mark_hvD (by omega)).mpr h6
  have h2l := txm_two (txm_mem.mpr ⟨⟨h1, h3⟩, rfl⟩) (txm_mem.mpr ⟨⟨h2, h4⟩, em⟩) h5
  have e := txm_len (A := A) (n := n) (y := y) (b := b) hm
  have hlt : (mark y b N u).toNat < (cnt N b y.shift (ld y) A n).length := by rw [cnt_len]; omega
  rw [List.getD_eq_getElem?_getD, List.getElem?_eq_getElem hlt] at e
  refine ⟨_, List.getElem_mem hlt, ?_⟩
  have e : ((txm N A y b n (mark y b N u)).length : Int) = (cnt N b y.shift (ld y) A n)[(mark y b N u).toNat] := e
  omega
theorem Clash.succ {lw : Bool} (hA : 1 ≤ A) (h : Clash b N A lw n) : Clash b N A lw (n + 1) := by
  obtain ⟨u, q, h1, h2, h3, h4, h5, h6⟩ := h
  have key : ∀ {u q : List Int}, hv q b % N = hv u b % N → hv (q ++ [0]) b % N = hv (u ++ [0]) b % N := fun {u q} h => by
    rw [hv_snoc, hv_snoc, Int.add_zero, Int.add_zero, Int.mul_emod, h, ← Int.mul_emod]
  cases lw with
  | true =>
    refine ⟨0 :: u, 0 :: q, by simp [h1], by simp [h2], fun x hx => ?_, fun x hx => ?_, fun e => h5 (List.cons.inj e).2, ?_⟩
    · rcases List.mem_cons.mp hx with e | e
      · rw [e]; omega
      · exact h3 x e
    · rcases List.mem_cons.mp hx with e | e
      · rw [e]; omega
      · exact h4 x e
    · unfold hvD at h6 ⊢
      rw [if_pos rfl, if_pos rfl] at h6 ⊢
      rw [List.reverse_cons, List.reverse_cons]
      exact key h6
  | false =>
    refine ⟨u ++ [0], q ++ [0], by simp [h1], by simp [h2], fun x hx => ?_, fun x hx => ?_, fun e => h5 (List.append_cancel_right e), ?_⟩
    · rcases List.mem_append.mp hx with e | e
      · exact h3 x e
      · rw [List.mem_singleton.mp e]; omega
    · rcases List.mem_append.mp hx with e | e
      · exact h4 x e
      · rw [List.mem_singleton.mp e]; omega
    · unfold hvD at h6 ⊢
      rw [if_neg (by decide), if_neg (by decide)] at h6 ⊢
      exact key h6
theorem LeastS.no_clash {m : Nat} {lw : Bool} (h : LeastS [b] N A m) (hn : n < m) : ¬ Clash b N A lw n := fun c => by
  obtain ⟨j, j1, j2, j3⟩ := c.strip
  exact h.no j (by omega) j3
/-- the pair: the first two texts with their mark -/
theorem pair_txm {t u : List Int} (h : FstT [b] N A (wsL N y.low n) t) (ho : FstO [b] N A (wsL N y.low n) t u) : ∃ r, txm N A y b n (mark y b N t) = t :: u :: r := by
  have tl : t.length = n := by rw [h.len, wsL_len]
  have ul : u.length = n := by rw [ho.len, tl]
  have mu : mark y b N u = mark y b N t := (mark_hvD (by omega)).mpr ((Agr_hvD ul tl).mp ho.agr)
  have ht : t ∈ txm N A y b n (mark y b N t) := txm_mem.mpr ⟨⟨tl, h.ltr⟩, rfl⟩
  have hu : u ∈ txm N A y b n (mark y b N t) := txm_mem.mpr ⟨⟨ul, ho.ltr⟩, mu⟩
  have hlex := txm_lex (y := y) (b := b) (N := N) (A := A) (n := n) (m := mark y b N t)
  have h2 := txm_two ht hu ho.ne
  have agr : ∀ q ∈ txm N A y b n (mark y b N t), Agr [b] N (wsL N y.low n) q t := fun q hq => by
    obtain ⟨⟨q1, q2⟩, q3⟩ := txm_mem.mp hq
    exact (Agr_hvD q1 tl).mpr ((mark_hvD (by omega)).mp q3)
  match hs : txm N A y b n (mark y b N t), h2 with
  | x :: z :: r, _ =>
    rw [hs] at ht hu hlex agr
    obtain ⟨a1, a2⟩ := List.pairwise_cons.mp hlex
    obtain ⟨b1, _⟩ := List.pairwise_cons.mp a2
    have hx := txm_mem.mp (show x ∈ txm N A y b n (mark y b N t) by rw [hs]; simp)
    have hz := txm_mem.mp (show z ∈ txm N A y b n (mark y b N t) by rw [hs]; simp)
    have ext : x = t := by
      rcases List.mem_cons.mp ht with e | e
      · exact e.symm
      · exfalso
        have hl := a1 t e
        refine h.first (u := x) (q := t) (by rw [hx.1.1, wsL_len]) hx.1.2 (by rw [tl, hx.1.1]) h.ltr hl.ne.symm ?_ hl
        exact (Agr_hvD tl hx.1.1).mpr ((mark_hvD (by rw [tl, hx.1.1])).mp hx.2.symm)
    subst ext
    have hu2 : u ∈ z :: r := (List.mem_cons.mp hu).resolve_left fun e => ho.ne e
    have ezu : z = u := by
      rcases List.mem_cons.mp hu2 with e | e
      · exact e.symm
      · exfalso
        have hl := b1 u e
        have hxz := a1 z List.mem_cons_self
        exact ho.first (q := z) (by rw [wsL_len, tl]) (by rw [hz.1.1, tl]) hz.1.2 hxz.ne.symm (agr z (by simp)) hl
    subst ezu
    exact ⟨r, rfl⟩
end
noncomputable def spMost : Sp := fun vs H Q _ => ∃ (l : Addr) (xs : List Int), vs = [.ref l] ∧ H l = some (.lst (xs.map V.int)) ∧ ∀ r : Int, (∀ x ∈ xs, x ≤ r) → (r = 0 ∨ r ∈ xs) → Q (.int r) H
theorem least_some {b N : Int} {A n : Nat} (hN : 0 < N) (h : N.toNat < A ^ n) : ∃ m, LeastS [b] N A m ∧ m ≤ n := by
  obtain ⟨j, h1, h2, h3⟩ := pigeonS (b := b) (A := A) (n := n) hN h
  obtain ⟨i, g1, g2, g3⟩ := least_ex (P := fun j => Sms [b] N A j (zr [b])) h3
  refine ⟨i, ⟨?_, g2, g3⟩, by omega⟩
  cases i with
  | zero => exact g2.elim
  | succ i => omega
end Bc
namespace Bc
open PySem
theorem lenL1 {us : List Value} (h : us.length = 1) : ∃ a0, us = [a0] := by
  rcases us with _ | ⟨_, _ | ⟨_, _⟩⟩
  · cases h
  · exact ⟨_, rfl⟩
  · exact absurd h (by simp)
theorem lenL2 {us : List Value} (h : us.length = 2) : ∃ a0 a1, us = [a0, a1] := by
  rcases us with _ | ⟨_, _ | ⟨_, _ | ⟨_, _⟩⟩⟩
  · cases h
  · cases h
  · exact ⟨_, _, rfl⟩
  · exact absurd h (by simp)
theorem lenL3 {us : List Value} (h : us.length = 3) : ∃ a0 a1 a2, us = [a0, a1, a2] := by
  rcases us with _ | ⟨_, _ | ⟨_, _ | ⟨_, _ | ⟨_, _⟩⟩⟩⟩
  · cases h
  · cases h
  · cases h
  · exact ⟨_, _, _, rfl⟩
  · exact absurd h (by simp)
theorem lenL4 {us : List Value} (h : us.length = 4) : ∃ a0 a1 a2 a3, us = [a0, a1, a2, a3] := by
  rcases us with _ | ⟨_, _ | ⟨_, _ | ⟨_, _ | ⟨_, _ | ⟨_, _⟩⟩⟩⟩⟩
  · cases h
  · cases h
  · cases h
  · cases h
  · exact ⟨_, _, _, _, rfl⟩
  · exact absurd h (by simp)
theorem lenL5 {us : List Value} (h : us.length = 5) : ∃ a0 a1 a2 a3 a4, us = [a0, a1, a2, a3, a4] := by
  rcases us with _ | ⟨_, _ | ⟨_, _ | ⟨_, _ | ⟨_, _ | ⟨_, _ | ⟨_, _⟩⟩⟩⟩⟩⟩
  · cases h
  · cases h
  · cases h
  · cases h
  · cases h
  · exact ⟨_, _, _, _, _, rfl⟩
  · exact absurd h (by simp)
end Bc
set_option maxHeartbeats 4000000
open Bc
local macro_rules | `(tactic| walk_at "same0") => `(tactic| first
  | with_reducible exact L2.Same.refl _
  | with_reducible assumption
  | with_reducible exact rm_le
  | with_reducible exact L2.Same.trans rm_le rm_le
  | ((with_reducible refine L2.Same.trans ?_ (by with_reducible assumption)); walk_at "same0")
  | ((with_reducible refine L2.Same.trans ?_ (L2.Same.rm (by with_reducible assumption))); walk_at "same0")
  | ((with_reducible refine L2.Same.trans ?_ (Same.new (by with_reducible assumption))); walk_at "same0")
  | ((with_reducible apply same_rm); (first | with_reducible assumption | ((with_reducible refine L2.Same.trans ?_ (by with_reducible assumption)); walk_at "same0") | ((with_reducible refine L2.Same.trans ?_ (L2.Same.rm (by with_reducible assumption))); walk_at "same0")))
  | ((with_reducible refine L2.Same.rm ?_); walk_at "same0"))
local macro_rules | `(tactic| walk_at "same") => `(tactic| first
  | walk_at "same0"
  | ((with_reducible apply same_rm); walk_at "same0")
  | ((with_reducible apply same_rm); (with_reducible apply same_rm); walk_at "same0"))
local macro_rules | `(tactic| walk_at "hp0") => `(tactic| first
  | with_reducible assumption
  | ((with_reducible apply hpL); (with_reducible assumption); walk_at "same")
  | exact L2.upd_same
  | assumption
  | ((with_reducible apply hpL); assumption; walk_at "same"))
local macro_rules | `(tactic| walk_at "hp") => `(tactic| first
  | with_reducible assumption
  | (exact sq (by walk_at "hp0"))
  | (exact sqt (by walk_at "hp0"))
  | ((with_reducible apply hpL); (with_reducible assumption); walk_at "same")
  | ((with_reducible apply WayAt.same); (with_reducible assumption); walk_at "same")
  | ((with_reducible apply MkAt.same); (with_reducible assumption); walk_at "same")
  | ((with_reducible apply ModAt.same); (with_reducible assumption); walk_at "same")
  | ((with_reducible apply PrL.same); (with_reducible assumption); walk_at "same")
  | ((with_reducible apply TextAt.same); (with_reducible assumption); walk_at "same")
  | ((with_reducible apply Purse.same); (with_reducible assumption); walk_at "same")
  | assumption)
local macro_rules | `(tactic| walk_at "side") => `(tactic| first
  | with_reducible assumption
  | assumption
  | (exact rfl)
  | (refine mx_l ⟨?_, ?_⟩ <;> decide)
  | (refine mx_r ⟨?_, ?_⟩ <;> decide)
  | (refine mx_l ⟨?_, ?_⟩ <;> omega)
  | (refine mx_r ⟨?_, ?_⟩ <;> omega)
  | (refine wdiv60 ?_ ?_ <;> omega)
  | decide
  | omega)
local macro_rules | `(tactic| walk_at "go1") => `(tactic| first
  | ((with_reducible apply w_st); ((simp only [L2.start, List.map_cons, List.map_nil, List.length_cons, List.length_nil, List.cons_append, List.nil_append, List.append_nil, Nat.reduceAdd, Nat.reduceSub, List.reduceReplicate]); exact rfl))
  | with_reducible refine w_seq ?_
  | with_reducible refine w_atV ?_
  | ((with_reducible refine w_nxD ?_); (with_reducible refine w_nx ?_))
  | ((with_reducible refine w_rtD ?_); (with_reducible refine w_rt ?_))
  | ((with_reducible refine w_ctD ?_); (with_reducible refine w_ct ?_))
  | ((with_reducible refine w_bkD ?_); (with_reducible refine w_bk ?_))
  | ((with_reducible apply w_var); (exact rfl))
  | with_reducible refine w_c ?_
  | with_reducible refine w_op ?_
  | with_reducible refine w_cons ?_
  | with_reducible refine w_nil ?_
  | with_reducible refine w_cb ?_
  | ((with_reducible apply w_setN); ((intro _; simp only [List.set_cons_zero, List.set_cons_succ]); exact rfl))
  | with_reducible refine w_set ?_
  | with_reducible refine w_ret ?_
  | with_reducible refine w_if ?_
  | with_reducible refine w_test ?_
  | with_reducible refine w_tB ?_
  | with_reducible refine w_bl ?_
  | with_reducible refine w_I0 ?_
  | ((with_reducible refine w_I ?_ ?_); (first | walk_at "side" | rotate_left))
  | ((with_reducible apply w_ixL); (walk_at "hp"); (exact rfl))
  | ((with_reducible apply w_ixT); (walk_at "hp"); (exact rfl))
  | with_reducible refine w_call ?_
  | with_reducible refine w_next ?_
  | with_reducible refine w_drop ?_
  | with_reducible refine w_retN ?_
  | with_reducible refine w_un ?_
  | with_reducible refine w_U ?_
  | ((with_reducible refine w_eq ?_ ?_); (exact rfl))
  | ((with_reducible refine w_ne ?_ ?_); (exact rfl))
  | with_reducible refine w_and ?_
  | with_reducible refine w_or ?_
  | with_reducible refine w_not ?_
  | with_reducible refine w_andV ?_
  | with_reducible refine w_orV ?_
  | with_reducible refine w_notV ?_
  | with_reducible refine w_ifE ?_
  | with_reducible refine w_tup ?_
  | with_reducible refine w_lst ?_
  | ((with_reducible refine w_andsz ?_ ?_); (exact rfl))
  | with_reducible refine w_par ?_
  | with_reducible refine w_par2 ?_
  | ((with_reducible apply w_aug); (exact rfl))
  | with_reducible refine w_ipI ?_
  | with_reducible refine w_yes ?_
  | with_reducible refine w_chain ?_
  | with_reducible refine w_int1 ?_
  | with_reducible refine w_int1b ?_
  | with_reducible refine w_abs ?_
  | with_reducible refine w_max2 ?_
  | with_reducible refine w_min2 ?_
  | with_reducible refine w_for ?_
  | with_reducible refine w_rng1 ?_
  | with_reducible refine w_rng2 ?_
  | ((with_reducible refine w_rng1i ?_ ?_ ?_); omega; omega)
  | ((with_reducible refine w_rng2i ?_ ?_); omega)
  | with_reducible refine w_iList ?_
  | with_reducible refine w_iTup ?_
  | with_reducible refine w_iAt ?_
  | with_reducible refine w_asg ?_
  | with_reducible refine w_name ?_
  | with_reducible refine w_gsub ?_
  | with_reducible refine w_sl ?_
  | with_reducible refine w_noPart ?_
  | with_reducible refine w_part ?_
  | with_reducible refine w_isI ?_
  | with_reducible refine w_revL ?_
  | with_reducible refine w_isN ?_
  | with_reducible refine w_notN ?_
  | with_reducible refine w_bits ?_
  | with_reducible refine w_gcons ?_
  | with_reducible refine w_gnil ?_
  | with_reducible refine w_fld ?_
  | ((with_reducible apply w_wbase); assumption; (walk_at "hp"))
  | ((with_reducible apply w_wnum); assumption; (walk_at "hp"))
  | ((with_reducible apply w_wmark); assumption; (walk_at "hp"); intro _ _)
  | (((with_reducible apply w_wmod); assumption; (walk_at "hp")); intro _ _)
  | ((with_reducible apply w_mnum); assumption; (walk_at "hp"))
  | (((with_reducible apply w_mfac); assumption; (walk_at "hp")); intro _ _ _ _)
  | ((with_reducible apply w_klow); assumption; (walk_at "hp"))
  | ((with_reducible apply w_kshift); assumption; (walk_at "hp"))
  | ((with_reducible apply w_klead); assumption; (walk_at "hp"))
  | ((with_reducible apply w_setL); (walk_at "hp"); (exact rfl))
  | ((with_reducible apply w_len); (walk_at "hp"))
  | ((with_reducible apply w_lenT); (walk_at "hp"))
  | with_reducible refine while_n ?_
  | with_reducible refine while_nm ?_
  | with_reducible refine w_cO ?_
  | with_reducible refine w_m1 ?_
  | with_reducible refine w_isStr ?_
  | ((with_reducible apply w_tyL); (walk_at "hp"))
  | with_reducible refine w_makeK ?_
  | with_reducible refine w_callN ?_
  | ((with_reducible apply w_gtup); (walk_at "hp"); (exact rfl))
  | ((with_reducible apply w_unl); (walk_at "hp"); (exact rfl))
  | with_reducible refine w_sfld ?_
  | with_reducible refine w_make ?_
  | with_reducible refine w_meth ?_
  | with_reducible refine w_iEnum ?_
  | with_reducible refine w_lc ?_
  | with_reducible refine w_iStr ?_
  | with_reducible refine w_isS ?_
  | with_reducible refine w_leS ?_
  | with_reducible refine w_ord ?_
  | ((with_reducible apply w_iL); (walk_at "hp"))
  | ((with_reducible apply w_iT); (walk_at "hp"))
  | with_reducible refine w_bm ?_
  | with_reducible refine w_callX ?_
  | with_reducible refine w_mkO ?_
  | with_reducible refine w_xf ?_
  | with_reducible refine w_lstRg ?_
  | with_reducible refine w_rg1 ?_
  | with_reducible refine w_rg2 ?_
  | with_reducible refine w_rg2i ?_
  | ((with_reducible refine w_rgok ?_ ?_); omega)
  | with_reducible refine w_dnew ?_
  | with_reducible refine w_isB ?_
  | with_reducible refine w_strB ?_
  | with_reducible refine w_iRng3 ?_
  | with_reducible refine w_lstB ?_
  | with_reducible refine w_iZip ?_
  | ((with_reducible apply w_zipi); (walk_at "hp"); (walk_at "hp"))
  | with_reducible refine w_methK ?_
  | with_reducible refine w_cOK ?_
  | with_reducible refine w_makeX ?_
  | with_reducible refine w_makeKS ?_
  | with_reducible refine w_methX ?_
  | with_reducible refine w_mkV ?_
  | with_reducible refine w_rev0 ?_
  | with_reducible refine w_xk ?_
  | with_reducible refine w_lenSet ?_
  | with_reducible refine w_cOX ?_
  | with_reducible refine w_augS ?_
  | with_reducible refine w_lenSet1 ?_
  | with_reducible refine w_bm0 ?_)
local macro_rules | `(tactic| walk_at "go") => `(tactic| repeat (walk_at "go1"))
local macro_rules | `(tactic| walk_at "goI") => `(tactic| repeat ((fail_if_success (with_reducible refine w_if ?_)); walk_at "go1"))
namespace Lw
open PySem PySem.Spec PyProof.Rows L2 Bc C8
noncomputable def top (i : Nat) : Stmt := PySem.Challenge.pw_baseclash_k90_whole_windows_and_counts.main.body.getD i (.Pass ⟨0, 0, 0, 0⟩)
section
variable {P : Program} {w : World} {K : PySem.W.Frag} {mg : Str → Option Value} {base : Heap}
noncomputable abbrev s_isint : Stmt := (top 15)
theorem sc_isint : FnScope ["thing"] ["thing"] (defScope s_isint) :=
  ⟨rfl, rfl, rfl, by decide +kernel, rfl, by decide +kernel, by decide +kernel⟩
theorem ok_isint (F : Dn K mg "is_integer" s_isint ["thing"]) (T : Bt mg) : Cal P w K mg base 1 "is_integer" (spIsInt K) [] := by
  refine F.cal sc_isint (fun vs H Q E h => ?_) (fun f cdv A outer s H vs Q E hr h => ?_)
  · obtain ⟨v, t, b1, b2, rfl, _⟩ := h
    rfl
  · obtain ⟨v, t, b1, b2, rfl, ty, k1, k2, q⟩ := h
    refine ⟨_, (pss_one (ps_ret (pe_and (pe_callB call_isi (by rfl) T.isinstance (by decide +kernel) (pa_cons (pv 0) (pa_cons (pe_bltn (v := .ty "int") (by rfl) T.int (by decide +kernel) rfl) pa_nil))) (pe_one (pe_not (pe_callB call_isi (by rfl) T.isinstance (by decide +kernel) (pa_cons (pv 0) (pa_cons (pe_bltn (v := .ty "bool") (by rfl) T.bool (by decide +kernel) rfl) pa_nil)))))))), ?_⟩
    walk_at "go"
    refine w_isi ty k1 ?_
    walk_at "go"
    cases b1 with
    | false => exact iteF q
    | true =>
      refine iteT ?_
      walk_at "go"
      refine w_isi ty k2 ?_
      walk_at "go"
      exact q
noncomputable abbrev s_raised : Stmt := (top 16)
theorem sc_raised : FnScope ["factor", "power", "found", "turn"] ["factor", "power"] (defScope s_raised) :=
  ⟨rfl, rfl, rfl, by decide +kernel, rfl, by decide +kernel, by decide +kernel⟩
theorem ok_raised (F : Dn K mg "raised" s_raised ["factor", "power"]) (T : Bt mg) : Cal P w K mg base 1 "raised" spRaised [] := by
  refine F.cal sc_raised (fun vs H Q E h => ?_) (fun f cdv A outer s H vs Q E hr h => ?_)
  · obtain ⟨g, p, b, rfl, _⟩ := h
    rfl
  · obtain ⟨g, p, b, rfl, p0, p1, gb, hb, q⟩ := h
    refine ⟨_, (pss_cons (ps_set (i := 2) sc_raised.nd rfl (Or.inl rfl) pe_int)
      (pss_cons (ps_for PassesOwn.never rfl (pi_range1 (by rfl) T.range (pa_cons (pv 1) pa_nil)) (pg_name (i := 3) sc_raised.nd rfl (Or.inl rfl)) (pss_one (ps_set (i := 2) sc_raised.nd rfl (Or.inl rfl) (pe_op oMul (pv 2) (pv 0)))))
      (pss_one (ps_ret (pv 2))))), ?_⟩
    walk_at "go"
    refine for_range (lo := 0) (n := p.toNat) (fun i σ H' => ∃ (u : Option V), σ = [some (.int g), some (.int p), some (.int (g ^ i)), u] ∧ H' = H)
      ⟨none, by rw [Int.pow_zero], rfl⟩ ?_ ?_
    · rintro i σ H' hi ⟨u, rfl, rfl⟩
      walk_at "go"
      · exact ⟨_, by rw [Int.pow_succ], rfl⟩
      · refine mx_w (natAbs_pow_lt gb i) gb ?_
        have h1 : b * i ≤ b * p.toNat := Nat.mul_le_mul_left b (by omega)
        omega
    · rintro σ H' ⟨u, rfl, rfl⟩
      walk_at "go"
      exact q
noncomputable abbrev s_prime : Stmt := (top 18)
theorem sc_prime : FnScope ["number", "divisor"] ["number"] (defScope s_prime) :=
  ⟨rfl, rfl, rfl, by decide +kernel, rfl, by decide +kernel, by decide +kernel⟩
theorem ok_prime (F : Dn K mg "is_prime_number" s_prime ["number"]) (T : Bt mg) : Cal P w K mg base 1 "is_prime_number" spPrime [] := by
  refine F.cal sc_prime (fun vs H Q E h => ?_) (fun f cdv A outer s H vs Q E hr h => ?_)
  · obtain ⟨n, rfl, _⟩ := h
    rfl
  · obtain ⟨n, rfl, n1, q⟩ := h
    refine ⟨_, (pss_cons (ps_set (i := 1) sc_prime.nd rfl (Or.inl rfl) pe_int)
      (pss_cons (ps_while PassesOwn.never (pt_cmpR op_le (pe_op oMul (pv 1) (pv 1)) (pv 0) (nomark _)) (pss_cons (ps_if (pt_cmpR op_eq (pe_op op_mod (pv 0) (pv 1)) pe_int (nomark _)) (pss_one (ps_ret pe_bl)) pss_nil)
      (pss_one (ps_aug (i := 1) sc_prime.nd rfl (Or.inl rfl) pe_int ip_add))))
      (pss_one (ps_ret (pe_cmpR op_gt (pv 0) pe_int (nomark _)))))), ?_⟩
    walk_at "go"
    refine while_go (fun σ H' => ∃ d : Int, σ = [some (.int n), some (.int d)] ∧ 2 ≤ d ∧ d ≤ 2 ^ 31 ∧ (∀ e : Int, 2 ≤ e → e < d → n % e ≠ 0) ∧ H' = H) (fun σ _ => match σ with | [_, some (.int d)] => (2 ^ 31 - d).toNat | _ => 0)
      ⟨2, rfl, by decide, by decide, fun e h1 h2 => by omega, rfl⟩ ?_
    rintro σ H' ⟨d, rfl, d2, d3, hd, rfl⟩
    walk_at "go"
    refine ite_d (fun h => ?_) (fun h => ?_)
    · have hd30 : d < 2 ^ 31 - 1 := by
        refine Int.not_le.mp fun z => ?_
        have h4 : (2 ^ 31 - 1) * (2 ^ 31 - 1) ≤ d * d := Int.mul_le_mul z z (by decide) (by omega)
        omega
      walk_at "go"
      refine ite_d (fun h2 => ?_) (fun h2 => ?_)
      · walk_at "go"
        have e0 : n % d = 0 := by injection h2
        exact q false ⟨(fun z => by cases z), fun z => absurd e0 (z.2 d d2 h)⟩
      · walk_at "go"
        have e0 : n % d ≠ 0 := fun z => h2 (by rw [z])
        refine ⟨?_, d + 1, rfl, by omega, by omega, fun e h3 h4 => ?_, rfl⟩
        · show (2 ^ 31 - (d + 1)).toNat < (2 ^ 31 - d).toNat
          omega
        · by_cases h5 : e = d
          · rw [h5]; exact e0
          · exact hd e h3 (by omega)
    · walk_at "go"
      refine q _ ?_
      rw [decide_eq_true_iff]
      refine ⟨fun z => ⟨z, fun e h1 h2 => ?_⟩, fun z => z.1⟩
      by_cases h5 : e < d
      · exact hd e h1 h5
      · exfalso
        have h4 : d * d ≤ e * e := Int.mul_le_mul (by omega) (by omega) (by omega) (by omega)
        omega
noncomputable abbrev s_istext : Stmt := (top 24)
theorem sc_istext : FnScope ["thing", "sign", "letter"] ["thing"] (defScope s_istext) :=
  ⟨rfl, rfl, rfl, by decide +kernel, rfl, by decide +kernel, by decide +kernel⟩
theorem ok_istext (F : Dn K mg "is_text" s_istext ["thing"]) (T : Bt mg) (c_isint : Cal P w K mg base 1 "is_integer" (spIsInt K) []) : Cal P w K mg base 2 "is_text" spIsText [] := by
  refine F.cal sc_istext (fun vs H Q E h => ?_) (fun f cdv A outer s H vs Q E hr h => ?_)
  · obtain ⟨v, ls, rfl, _⟩ := h
    rfl
  · obtain ⟨v, ls, rfl, tx, k⟩ := h
    cases tx with
    | str z hz hl =>
      refine ⟨_, (pss_cons (ps_if (pt_val (pe_callB call_isi (by rfl) T.isinstance (by decide +kernel) (pa_cons (pv 0) (pa_cons (pe_bltn (v := .ty "str") (by rfl) T.str (by decide +kernel) rfl) pa_nil)))) (pss_one (ps_ret (pe_callB (cr_all rfl) (by rfl) T.all (by decide +kernel) (pa_cons (pe_lc (own := [("sign", 1)]) (g := gName 1) (tt := tYes) (te := (tChain _ _ _ (tVar 1) _)) rfl sc_istext.nd (pi_str (pv 0)) (blkOk_by (own := [("sign", 1)]) (N := ["thing", "sign", "letter"]) (sc := defScope s_istext) (by decide +kernel)) (fun _ _ _ _ _ => (pg_name (i := 1) sc_istext.nd rfl (Or.inl rfl))) (fun _ _ _ _ _ => pts_nil) (fun _ _ _ _ _ => (pe_chain oLeS oLeS pe_str (pv 1) pe_str))) pa_nil)))) pss_nil)
      (pss_one (ps_ret (pe_and (pe_callB call_isiT (by rfl) T.isinstance (by decide +kernel) (pa_cons (pv 0) (pa_cons (pe_tup (pa_cons (pe_bltn (v := .ty "list") (by rfl) T.list (by decide +kernel) rfl) (pa_cons (pe_bltn (v := .ty "tuple") (by rfl) T.tuple (by decide +kernel) rfl) pa_nil))) pa_nil))) (pe_one (pe_callB (cr_all rfl) (by rfl) T.all (by decide +kernel) (pa_cons (pe_lc (own := [("letter", 2)]) (g := gName 2) (tt := tYes) (te := (tCall _ _ _ (tCons (tVar 2) tNil))) rfl sc_istext.nd (pi_list (pv 0)) (blkOk_by (own := [("letter", 2)]) (N := ["thing", "sign", "letter"]) (sc := defScope s_istext) (by decide +kernel)) (fun _ _ _ _ _ => (pg_name (i := 2) sc_istext.nd rfl (Or.inl rfl))) (fun _ _ _ _ _ => pts_nil) (fun _ _ _ _ _ => (pe_c c_isint hr (by decide) (by rfl) (pa_cons (pv 2) pa_nil)))) pa_nil))))))), ?_⟩
      walk_at "go"
      refine w_isi (b := true) (.base (.str z)) (kit_ty (by decide +kernel)) ?_
      walk_at "go"
      refine iteT ?_
      walk_at "go"
      intro D hD
      refine lc_pure (z.cps.toList.map fun c => V.str ⟨#[c]⟩) ((z.cps.toList.map fun _ => true).map V.bl) walk_strY hD (fun _ _ => trivial) (by simp) (by simp; exact hl) (fun _ => rfl) ?_ ?_
      · intro i x y H' hx hy sm Q' q'
        obtain ⟨c, hc, rfl⟩ := get_map hx
        obtain ⟨b, hb, rfl⟩ := get_map hy
        obtain ⟨d, hd, rfl⟩ := get_map hb
        have hr := hz c (List.mem_of_getElem? hc)
        walk_at "go"
        rw [sign_lo hr.1]
        refine iteT ?_
        walk_at "go"
        rw [sign_hi hr.2]
        exact q' _ (Same.refl _)
      · intro H' sm hH
        walk_at "go"
        refine w_all (sq hH) ?_
        rw [all_true]
        exact k _ sm
    | lst a _ h l =>
      refine ⟨_, (pss_cons (ps_if (pt_val (pe_callB call_isi (by rfl) T.isinstance (by decide +kernel) (pa_cons (pv 0) (pa_cons (pe_bltn (v := .ty "str") (by rfl) T.str (by decide +kernel) rfl) pa_nil)))) (pss_one (ps_ret (pe_callB (cr_all rfl) (by rfl) T.all (by decide +kernel) (pa_cons (pe_lc (own := [("sign", 1)]) (g := gName 1) (tt := tYes) (te := (tChain _ _ _ (tVar 1) _)) rfl sc_istext.nd (pi_str (pv 0)) (blkOk_by (own := [("sign", 1)]) (N := ["thing", "sign", "letter"]) (sc := defScope s_istext) (by decide +kernel)) (fun _ _ _ _ _ => (pg_name (i := 1) sc_istext.nd rfl (Or.inl rfl))) (fun _ _ _ _ _ => pts_nil) (fun _ _ _ _ _ => (pe_chain oLeS oLeS pe_str (pv 1) pe_str))) pa_nil)))) pss_nil)
      (pss_one (ps_ret (pe_and (pe_callB call_isiT (by rfl) T.isinstance (by decide +kernel) (pa_cons (pv 0) (pa_cons (pe_tup (pa_cons (pe_bltn (v := .ty "list") (by rfl) T.list (by decide +kernel) rfl) (pa_cons (pe_bltn (v := .ty "tuple") (by rfl) T.tuple (by decide +kernel) rfl) pa_nil))) pa_nil))) (pe_one (pe_callB (cr_all rfl) (by rfl) T.all (by decide +kernel) (pa_cons (pe_lc (own := [("letter", 2)]) (g := gName 2) (tt := tYes) (te := (tCall _ _ _ (tCons (tVar 2) tNil))) rfl sc_istext.nd (pi_list (pv 0)) (blkOk_by (own := [("letter", 2)]) (N := ["thing", "sign", "letter"]) (sc := defScope s_istext) (by decide +kernel)) (fun _ _ _ _ _ => (pg_name (i := 2) sc_istext.nd rfl (Or.inl rfl))) (fun _ _ _ _ _ => pts_nil) (fun _ _ _ _ _ => (pe_c c_isint hr (by decide) (by rfl) (pa_cons (pv 2) pa_nil)))) pa_nil))))))), ?_⟩
      walk_at "go"
      refine w_isi (b := false) (.base (.lst h)) (kit_ty (by decide +kernel)) ?_
      walk_at "go"
      refine iteF ?_
      walk_at "go"
      intro p hp
      walk_at "go"
      have h1 := upd_new (o := .tup [.ty "list", .ty "tuple"]) hp h
      refine w_isi2 (b := true) upd_same (.base (.lst h1)) (kitA (by decide +kernel)) ?_
      walk_at "go"
      refine iteT ?_
      walk_at "go"
      intro D hD
      refine lc_pure (ls.map V.int) ((ls.map fun _ => true).map V.bl) walk_list hD (fun _ sm => sq (sm _ _ h1)) (by simp) (by simp; exact l) (fun _ => rfl) ?_ ?_
      · intro i x y H' hx hy sm Q' q'
        obtain ⟨c, hc, rfl⟩ := get_map hx
        obtain ⟨b, hb, rfl⟩ := get_map hy
        obtain ⟨d, hd, rfl⟩ := get_map hb
        walk_at "go"
        refine use_isInt ?_
        exact q' _ (Same.refl _)
      · intro H' sm hH
        walk_at "go"
        refine w_all (sq hH) ?_
        rw [all_true]
        exact k _ ((Same.new hp).trans sm)
    | tup a _ h l =>
      refine ⟨_, (pss_cons (ps_if (pt_val (pe_callB call_isi (by rfl) T.isinstance (by decide +kernel) (pa_cons (pv 0) (pa_cons (pe_bltn (v := .ty "str") (by rfl) T.str (by decide +kernel) rfl) pa_nil)))) (pss_one (ps_ret (pe_callB (cr_all rfl) (by rfl) T.all (by decide +kernel) (pa_cons (pe_lc (own := [("sign", 1)]) (g := gName 1) (tt := tYes) (te := (tChain _ _ _ (tVar 1) _)) rfl sc_istext.nd (pi_str (pv 0)) (blkOk_by (own := [("sign", 1)]) (N := ["thing", "sign", "letter"]) (sc := defScope s_istext) (by decide +kernel)) (fun _ _ _ _ _ => (pg_name (i := 1) sc_istext.nd rfl (Or.inl rfl))) (fun _ _ _ _ _ => pts_nil) (fun _ _ _ _ _ => (pe_chain oLeS oLeS pe_str (pv 1) pe_str))) pa_nil)))) pss_nil)
      (pss_one (ps_ret (pe_and (pe_callB call_isiT (by rfl) T.isinstance (by decide +kernel) (pa_cons (pv 0) (pa_cons (pe_tup (pa_cons (pe_bltn (v := .ty "list") (by rfl) T.list (by decide +kernel) rfl) (pa_cons (pe_bltn (v := .ty "tuple") (by rfl) T.tuple (by decide +kernel) rfl) pa_nil))) pa_nil))) (pe_one (pe_callB (cr_all rfl) (by rfl) T.all (by decide +kernel) (pa_cons (pe_lc (own := [("letter", 2)]) (g := gName 2) (tt := tYes) (te := (tCall _ _ _ (tCons (tVar 2) tNil))) rfl sc_istext.nd (pi_tup (pv 0)) (blkOk_by (own := [("letter", 2)]) (N := ["thing", "sign", "letter"]) (sc := defScope s_istext) (by decide +kernel)) (fun _ _ _ _ _ => (pg_name (i := 2) sc_istext.nd rfl (Or.inl rfl))) (fun _ _ _ _ _ => pts_nil) (fun _ _ _ _ _ => (pe_c c_isint hr (by decide) (by rfl) (pa_cons (pv 2) pa_nil)))) pa_nil))))))), ?_⟩
      walk_at "go"
      refine w_isi (b := false) (.base (.tup h)) (kit_ty (by decide +kernel)) ?_
      walk_at "go"
      refine iteF ?_
      walk_at "go"
      intro p hp
      walk_at "go"
      have h1 := upd_new (o := .tup [.ty "list", .ty "tuple"]) hp h
      refine w_isi2 (b := true) upd_same (.base (.tup h1)) (kitA (by decide +kernel)) ?_
      walk_at "go"
      refine iteT ?_
      walk_at "go"
      intro D hD
      refine lc_pure (ls.map V.int) ((ls.map fun _ => true).map V.bl) walk_tup hD (fun _ sm => sqt (sm _ _ h1)) (by simp) (by simp; exact l) (fun _ => rfl) ?_ ?_
      · intro i x y H' hx hy sm Q' q'
        obtain ⟨c, hc, rfl⟩ := get_map hx
        obtain ⟨b, hb, rfl⟩ := get_map hy
        obtain ⟨d, hd, rfl⟩ := get_map hb
        walk_at "go"
        refine use_isInt ?_
        exact q' _ (Same.refl _)
      · intro H' sm hH
        walk_at "go"
        refine w_all (sq hH) ?_
        rw [all_true]
        exact k _ ((Same.new hp).trans sm)
noncomputable abbrev s_read : Stmt := (top 25)
theorem sc_read : FnScope ["text", "sign"] ["text"] (defScope s_read) :=
  ⟨rfl, rfl, rfl, by decide +kernel, rfl, by decide +kernel, by decide +kernel⟩
theorem ok_read (F : Dn K mg "read" s_read ["text"]) (T : Bt mg) : Cal P w K mg base 1 "read" spRead [] := by
  refine F.cal sc_read (fun vs H Q E h => ?_) (fun f cdv A outer s H vs Q E hr h => ?_)
  · obtain ⟨v, ls, rfl, _⟩ := h
    rfl
  · obtain ⟨v, ls, rfl, tx, k⟩ := h
    refine ⟨_, (pss_cons (ps_if (pt_val (pe_callB call_isi (by rfl) T.isinstance (by decide +kernel) (pa_cons (pv 0) (pa_cons (pe_bltn (v := .ty "str") (by rfl) T.str (by decide +kernel) rfl) pa_nil)))) (pss_one (ps_ret (pe_callTy cTupOf (by rfl) T.tuple (by decide +kernel) (pa_cons (pe_lc (own := [("sign", 1)]) (g := gName 1) (tt := tYes) (te := (tCB _ (tCons (tVar 1) tNil))) rfl sc_read.nd (pi_str (pv 0)) (blkOk_by (own := [("sign", 1)]) (N := ["text", "sign"]) (sc := defScope s_read) (by decide +kernel)) (fun _ _ _ _ _ => (pg_name (i := 1) sc_read.nd rfl (Or.inl rfl))) (fun _ _ _ _ _ => pts_nil) (fun _ _ _ _ _ => (pe_callB cOrd (by rfl) T.ord (by decide +kernel) (pa_cons (pv 1) pa_nil)))) pa_nil)))) pss_nil)
      (pss_one (ps_ret (pe_callTy cTupOf (by rfl) T.tuple (by decide +kernel) (pa_cons (pv 0) pa_nil))))), ?_⟩
    cases tx with
    | str z hz hl =>
      walk_at "go"
      refine w_isi (b := true) (.base (.str z)) (kit_ty (by decide +kernel)) ?_
      walk_at "go"
      refine iteT ?_
      walk_at "go"
      intro D hD
      refine lc_pure (z.cps.toList.map fun c => V.str ⟨#[c]⟩) ((z.cps.toList.map Int.ofNat).map V.int) walk_strY hD (fun _ _ => trivial) (by simp) (by simp; exact hl) (fun _ => rfl) ?_ ?_
      · intro i x y H' hx hy sm Q' q'
        obtain ⟨c, hc, rfl⟩ := get_map hx
        obtain ⟨b, hb, rfl⟩ := get_map hy
        obtain ⟨d, hd, rfl⟩ := get_map hb
        rw [hc] at hd
        cases hd
        walk_at "go"
        exact q' _ (Same.refl _)
      · intro H' sm hH
        walk_at "go"
        refine w_tupL (sq hH) fun t ht => ?_
        walk_at "go"
        exact k _ _ (sm.trans (Same.new ht)) upd_same
    | lst a _ h l =>
      walk_at "go"
      refine w_isi (b := false) (.base (.lst h)) (kit_ty (by decide +kernel)) ?_
      walk_at "go"
      refine iteF ?_
      walk_at "go"
      refine w_tupL (sq h) fun t ht => ?_
      walk_at "go"
      exact k _ _ (Same.new ht) upd_same
    | tup a _ h l =>
      walk_at "go"
      refine w_isi (b := false) (.base (.tup h)) (kit_ty (by decide +kernel)) ?_
      walk_at "go"
      refine iteF ?_
      walk_at "go"
      refine w_tupT (sqt h) ?_
      walk_at "go"
      exact k _ _ (Same.refl _) h
noncomputable abbrev s_reqtext : Stmt := (top 26)
theorem sc_reqtext : FnScope ["thing"] ["thing"] (defScope s_reqtext) :=
  ⟨rfl, rfl, rfl, by decide +kernel, rfl, by decide +kernel, by decide +kernel⟩
theorem ok_reqtext (F : Dn K mg "require_text" s_reqtext ["thing"]) (T : Bt mg) (c_istext : Cal P w K mg base 2 "is_text" spIsText []) (c_read : Cal P w K mg base 1 "read" spRead []) : Cal P w K mg base 3 "require_text" spRead [] := by
  refine F.cal sc_reqtext (fun vs H Q E h => ?_) (fun f cdv A outer s H vs Q E hr h => ?_)
  · obtain ⟨v, ls, rfl, _⟩ := h
    rfl
  · obtain ⟨v, ls, rfl, tx, k⟩ := h
    refine ⟨_, (pss_cons (ps_if (pt_not (pt_val (pe_c c_istext hr (by decide) (by rfl) (pa_cons (pv 0) pa_nil)))) (pss_one ps_never) pss_nil)
      (pss_one (ps_ret (pe_c c_read hr (by decide) (by rfl) (pa_cons (pv 0) pa_nil))))), ?_⟩
    walk_at "go"
    refine ⟨v, ls, rfl, tx, fun H1 s1 => ?_⟩
    walk_at "go"
    refine iteF ?_
    walk_at "go"
    refine ⟨v, ls, rfl, tx.same s1, fun H2 t s2 ht => ?_⟩
    walk_at "go"
    exact k _ _ (s1.trans s2) ht
noncomputable abbrev s_isfac : Stmt := (top 20)
theorem sc_isfac : FnScope ["thing", "least", "prime", "power"] ["thing", "least"] (defScope s_isfac) :=
  ⟨rfl, rfl, rfl, by decide +kernel, rfl, by decide +kernel, by decide +kernel⟩
theorem ok_isfac (F : Dn K mg "is_factor" s_isfac ["thing", "least"]) (T : Bt mg) (c_isint : Cal P w K mg base 1 "is_integer" (spIsInt K) []) (c_prime : Cal P w K mg base 1 "is_prime_number" spPrime []) : Cal P w K mg base 2 "is_factor" spIsFactor [] := by
  refine F.cal sc_isfac (fun vs H Q E h => ?_) (fun f cdv A outer s H vs Q E hr h => ?_)
  · obtain ⟨t, l, p, k, rfl, _⟩ := h
    rfl
  · obtain ⟨t, l, p, k, rfl, ht, hp, q⟩ := h
    refine ⟨_, (pss_cons (ps_if (PW.pt (pw_or (pt_not (pt_val (pe_callB call_isi (by rfl) T.isinstance (by decide +kernel) (pa_cons (pv 0) (pa_cons (pe_bltn (v := .ty "tuple") (by rfl) T.tuple (by decide +kernel) rfl) pa_nil))))) (pw_or1 (pt_cmpR op_ne (pe_callB cLen (by rfl) T.len (by decide +kernel) (pa_cons (pv 0) pa_nil)) pe_int (nomark _))))) (pss_one (ps_ret pe_bl)) pss_nil)
      (pss_cons (ps_asg (pv 0) (pg_tup rfl (pgs_cons (pg_name (i := 2) sc_isfac.nd rfl (Or.inl rfl)) (pgs_cons (pg_name (i := 3) sc_isfac.nd rfl (Or.inl rfl)) pgs_nil))))
      (pss_cons (ps_if (PW.pt (pw_or (pt_not (pt_val (pe_c c_isint hr (by decide) (by rfl) (pa_cons (pv 2) pa_nil)))) (pw_or1 (pt_not (pt_val (pe_c c_isint hr (by decide) (by rfl) (pa_cons (pv 3) pa_nil))))))) (pss_one (ps_ret pe_bl)) pss_nil)
      (pss_one (ps_ret (pe_and (pe_cmpR op_gt (pv 2) (pv 1) (nomark _)) (pe_and (pe_cmpR op_gt (pv 3) pe_int (nomark _)) (pe_one (pe_c c_prime hr (by decide) (by rfl) (pa_cons (pv 2) pa_nil)))))))))), ?_⟩
    walk_at "go"
    refine w_isi (b := true) (.base (.tup ht)) (kit_ty (by decide +kernel)) ?_
    walk_at "go"
    refine iteF ?_
    walk_at "go"
    refine iteNS rfl ?_
    walk_at "go"
    refine use_isInt ?_
    walk_at "go"
    refine iteF ?_
    walk_at "go"
    refine use_isInt ?_
    walk_at "go"
    refine iteF ?_
    walk_at "go"
    refine ite_d (fun h1 => ?_) (fun h1 => ?_)
    · walk_at "go"
      refine ite_d (fun h2 => ?_) (fun h2 => ?_)
      · walk_at "go"
        refine ⟨p, rfl, hp, fun b hb => ?_⟩
        walk_at "go"
        exact q b (hb.trans ⟨fun z => ⟨h1, h2, z⟩, fun z => z.2.2⟩)
      · walk_at "go"
        exact q false ⟨(fun z => by cases z), fun z => absurd z.2.1 h2⟩
    · walk_at "go"
      exact q false ⟨(fun z => by cases z), fun z => absurd z.1 h1⟩
noncomputable abbrev s_modinit : Stmt := (inClass (top 21) 0)
theorem sc_modinit : FnScope ["self", "factors", "number", "least", "place", "factor"] ["self", "factors"] (defScope s_modinit) :=
  ⟨rfl, rfl, rfl, by decide +kernel, rfl, by decide +kernel, by decide +kernel⟩
theorem ok_modinit {c : CA} {f : Addr} {fd : FuncData} (F : FunD K "__init__" "Modulus.__init__" (defArgs s_modinit) (defBody s_modinit) (defScope s_modinit) [] [] f fd) (T : Bt mg) (X : Kx K mg c) (c_isfac : Cal P w K mg base 2 "is_factor" spIsFactor []) (c_raised : Cal P w K mg base 1 "raised" spRaised []) :
    FnOk P w K mg base L2.CX0 3 f fd ["self", "factors"] (spModInit c) := by
  refine fnD_ok F sc_modinit (fun vs H Q E h => ?_) (fun cdv A outer s H vs Q E hr h => ?_)
  · obtain ⟨x, dx, l, ts, ps, rfl, _⟩ := h
    rfl
  · obtain ⟨x, dx, l, ts, ps, rfl, hx, hl, hp, ha, hs, k⟩ := h
    refine ⟨_, (pss_cons (ps_if (pt_not (pt_val (pe_callB call_isiT (by rfl) T.isinstance (by decide +kernel) (pa_cons (pv 1) (pa_cons (pe_tup (pa_cons (pe_bltn (v := .ty "list") (by rfl) T.list (by decide +kernel) rfl) (pa_cons (pe_bltn (v := .ty "tuple") (by rfl) T.tuple (by decide +kernel) rfl) pa_nil))) pa_nil))))) (pss_one ps_never) pss_nil)
      (pss_cons (ps_set (i := 2) sc_modinit.nd rfl (Or.inl rfl) pe_int)
      (pss_cons (ps_set (i := 3) sc_modinit.nd rfl (Or.inl rfl) pe_int)
      (pss_cons (ps_for PassesOwn.never rfl (pi_enum (by rfl) T.enumerate (pa_cons (pv 1) pa_nil)) (pg_tup rfl (pgs_cons (pg_name (i := 4) sc_modinit.nd rfl (Or.inl rfl)) (pgs_cons (pg_name (i := 5) sc_modinit.nd rfl (Or.inl rfl)) pgs_nil))) (pss_cons (ps_if (pt_not (pt_val (pe_c c_isfac hr (by decide) (by rfl) (pa_cons (pv 5) (pa_cons (pv 3) pa_nil))))) (pss_one ps_never) pss_nil)
      (pss_cons (ps_set (i := 3) sc_modinit.nd rfl (Or.inl rfl) (pe_ix ix_tup (pv 5) pe_int (fun _ _ => rfl)))
      (pss_one (ps_set (i := 2) sc_modinit.nd rfl (Or.inl rfl) (pe_op oMul (pv 2) (pe_c c_raised hr (by decide) (by rfl) (pa_cons (pe_ix ix_tup (pv 5) pe_int (fun _ _ => rfl)) (pa_cons (pe_ix ix_tup (pv 5) pe_int (fun _ _ => rfl)) pa_nil)))))))))
      (pss_cons (ps_fld (pv 0) (pv 2) rfl)
      (pss_one (ps_fld (pv 0) (pe_callTy cTupOf (by rfl) T.tuple (by decide +kernel) (pa_cons (pv 1) pa_nil)) rfl))))))), ?_⟩
    walk_at "go"
    intro p np
    walk_at "go"
    have hl1 := upd_new (o := .tup [.ty "list", .ty "tuple"]) np hl
    have hx1 := upd_new (o := .tup [.ty "list", .ty "tuple"]) np hx
    refine w_isi2 (b := true) upd_same (.base (.lst hl1)) (kitA (by decide +kernel)) ?_
    walk_at "go"
    refine iteF ?_
    walk_at "go"
    refine w_enumi (sq hl1) ?_
    refine for_it (walk_enum (xs := ts.map V.ref)) (fun i σ H' => ∃ (u1 u2 : Option V), σ = [some (.ref x), some (.ref l), some (.int (num (ps.take i))), some (.int (((ps.take i).getLast?.map (·.1)).getD 0)), u1, u2] ∧ Same (upd H p (.tup [.ty "list", .ty "tuple"])) H')
      ⟨none, none, rfl, Same.refl _⟩ (fun i σ H' _ z => by obtain ⟨_, _, _, z⟩ := z; exact sq (z _ _ hl1)) ?_ ?_
    · rintro i y σ H1 H2 hi ⟨u1, u2, rfl, sm⟩ ⟨t, z1, z2, rfl, nt, rfl, e1, e2⟩
      cases e1
      obtain ⟨tt, htt, rfl⟩ := get_map e2
      obtain ⟨pr, hpr, ht⟩ := paired_get hp htt
      have s2 : Same H (upd H1 t (.tup [.int (i : Nat), .ref tt])) := (Same.new np).trans (sm.trans (Same.new nt))
      have ht2 := s2 _ _ ht
      have hsm := hs.1 pr (List.mem_of_getElem? hpr)
      have hasc := ha.at_ hpr
      refine w_gtup (sqt upd_same) rfl ?_
      walk_at "go"
      refine ⟨tt, _, pr.1, pr.2, rfl, ht2, by omega, fun b hb => ?_⟩
      have hb1 : b = true := hb.mpr hasc
      subst hb1
      walk_at "go"
      refine iteF ?_
      walk_at "go"
      refine ⟨pr.1, pr.2, 10, rfl, by omega, by omega, by show pr.1.natAbs < 1024; omega, by omega, ?_⟩
      walk_at "go"
      · refine ⟨some (.int (i : Nat)), some (.ref tt), ?_, (sm.trans (Same.new nt))⟩
        have hi2 : i < ps.length := (List.getElem?_eq_some_iff.mp hpr).1
        have e3 : (ps.take (i + 1)).getLast? = some pr := by
          rw [List.take_succ_eq_append_getElem hi2, List.getLast?_concat, (List.getElem?_eq_some_iff.mp hpr).2]
        rw [num_take hpr, e3]
        rfl
      · have hi2 : i < ps.length := (List.getElem?_eq_some_iff.mp hpr).1
        have h7 := num_bound hs i (by omega)
        refine mx_w h7.2 (natAbs_pow_lt (b := 10) (by show pr.1.natAbs < 1024; omega) pr.2.toNat) ?_
        have := hs.2
        omega
    · rintro σ H1 ⟨u1, u2, rfl, sm⟩
      have hlen : (ts.map V.ref).length = ps.length := by
        rw [List.length_map]
        exact hp.length.symm
      rw [hlen, List.take_length]
      have hx2 := sm _ _ hx1
      have hl2 := sm _ _ hl1
      walk_at "go"
      refine w_sfldi hx2 X.md.cl X.number (by decide) ?_
      walk_at "go"
      have nxl : l ≠ x := fun z => by rw [z, hx] at hl; cases hl
      refine w_tupL (sq ((upd_ne nxl).trans hl2)) fun t ht => ?_
      walk_at "go"
      have nxt : x ≠ t := fun z => by rw [z, upd_same] at ht; cases ht
      refine w_sfldi ((upd_ne nxt).trans upd_same) X.md.cl X.factors (by show 1 < 1000; decide) ?_
      walk_at "go"
      refine k _ t (fun b o nb hb => ?_) ?_ ?_
      · have hb2 := sm _ _ (Same.new np _ _ hb)
        have hbt : b ≠ t := fun z => by rw [z] at nb hb2; rw [upd_ne nb, hb2] at ht; cases ht
        rw [upd_ne nb, upd_ne hbt, upd_ne nb]
        exact hb2
      · rw [upd_same]
        show some (HO.ins c.md dx (putF "factors" (.ref t) [("number", _)])) = _
        rw [putS (by decide +kernel)]
        rfl
      · rw [upd_ne nxt.symm, upd_same]
noncomputable abbrev s_reqmod : Stmt := (top 22)
theorem sc_reqmod : FnScope ["modulus"] ["modulus"] (defScope s_reqmod) :=
  ⟨rfl, rfl, rfl, by decide +kernel, rfl, by decide +kernel, by decide +kernel⟩
theorem ok_reqmod {c : CA} (F : Dn K mg "require_modulus" s_reqmod ["modulus"]) (T : Bt mg) (X : Kx K mg c) : Cal P w K mg base 1 "require_modulus" (spReqMod c) [] := by
  refine F.cal sc_reqmod (fun vs H Q E h => ?_) (fun f cdv A outer s H vs Q E hr h => ?_)
  · obtain ⟨m, dx, fs, rfl, _⟩ := h
    rfl
  · obtain ⟨m, dx, fs, rfl, hm, q⟩ := h
    refine ⟨_, (pss_one (ps_if (pt_not (pt_val (pe_callB call_isi (by rfl) T.isinstance (by decide +kernel) (pa_cons (pv 0) (pa_cons (pe_glob (v := .ref c.md) (by rfl) X.mgMd rfl) pa_nil))))) (pss_one ps_never) pss_nil)), ?_⟩
    walk_at "go"
    refine w_isiC (X.md.ty hm) kit_own ?_
    walk_at "go"
    refine iteF ?_
    walk_at "go"
    exact q
noncomputable abbrev s_mkinit : Stmt := (inClass (top 30) 0)
theorem sc_mkinit : FnScope ["self", "low", "shift", "lead"] ["self", "low", "shift", "lead"] (defScope s_mkinit) :=
  ⟨rfl, rfl, rfl, by decide +kernel, rfl, by decide +kernel, by decide +kernel⟩
theorem ok_mkinit {c : CA} {f : Addr} {fd : FuncData} {kws : List (Str × V)} (F : FunD K "__init__" "Marking.__init__" (defArgs s_mkinit) (defBody s_mkinit) (defScope s_mkinit) [] kws f fd) (T : Bt mg) (X : Kx K mg c) (c_isint : Cal P w K mg base 1 "is_integer" (spIsInt K) []) :
    FnOk P w K mg base L2.CX0 2 f fd ["self", "low", "shift", "lead"] (spMkInit c) := by
  refine fnD_ok F sc_mkinit (fun vs H Q E h => ?_) (fun cdv A outer s H vs Q E hr h => ?_)
  · obtain ⟨x, dx, l, sh, d, rfl, _⟩ := h
    rfl
  · obtain ⟨x, dx, l, sh, d, rfl, hx, k⟩ := h
    refine ⟨_, (pss_cons (ps_if (pt_not (pt_val (pe_callB call_isi (by rfl) T.isinstance (by decide +kernel) (pa_cons (pv 1) (pa_cons (pe_bltn (v := .ty "bool") (by rfl) T.bool (by decide +kernel) rfl) pa_nil))))) (pss_one ps_never) pss_nil)
      (pss_cons (ps_if (pt_not (pt_val (pe_c c_isint hr (by decide) (by rfl) (pa_cons (pv 2) pa_nil)))) (pss_one ps_never) pss_nil)
      (pss_cons (ps_if (pt_not (pt_val (pe_callB call_isi (by rfl) T.isinstance (by decide +kernel) (pa_cons (pv 3) (pa_cons (pe_bltn (v := .ty "bool") (by rfl) T.bool (by decide +kernel) rfl) pa_nil))))) (pss_one ps_never) pss_nil)
      (pss_cons (ps_fld (pv 0) (pv 1) rfl)
      (pss_cons (ps_fld (pv 0) (pv 2) rfl)
      (pss_one (ps_fld (pv 0) (pv 3) rfl))))))), ?_⟩
    walk_at "go"
    refine w_isi (b := true) (.base (.bl l)) (kit_ty (by decide +kernel)) ?_
    walk_at "go"
    refine iteF ?_
    walk_at "go"
    refine use_isInt ?_
    walk_at "go"
    refine iteF ?_
    walk_at "go"
    refine w_isi (b := true) (.base (.bl d)) (kit_ty (by decide +kernel)) ?_
    walk_at "go"
    refine iteF ?_
    walk_at "go"
    refine w_sfldi hx X.kg.cl X.low (by decide) ?_
    walk_at "go"
    refine w_sfldi upd_same X.kg.cl X.shift (by show 1 < 1000; decide) ?_
    walk_at "go"
    refine w_sfldi upd_same X.kg.cl X.lead (by rw [put0, putS (by decide +kernel)]; show 2 < 1000; decide) ?_
    walk_at "go"
    refine k _ (fun b o nb hb => by rw [upd_ne nb, upd_ne nb, upd_ne nb]; exact hb) ?_
    rw [upd_same, put0, putS (by decide +kernel), put0, putS (by decide +kernel), putS (by decide +kernel)]
    rfl
noncomputable abbrev s_hf : Stmt := (inClass (top 30) 2)
theorem sc_hf : FnScope ["self", "letters", "found", "letter"] ["self", "letters"] (defScope s_hf) :=
  ⟨rfl, rfl, rfl, by decide +kernel, rfl, by decide +kernel, by decide +kernel⟩
theorem ok_hf {c : CA} {f : Addr} {fd : FuncData} (F : FunD K "highest_first" "Marking.highest_first" (defArgs s_hf) (defBody s_hf) (defScope s_hf) [] [] f fd) (T : Bt mg) (X : Kx K mg c) :
    FnOk P w K mg base L2.CX0 1 f fd ["self", "letters"] (spHf c) := by
  refine fnD_ok F sc_hf (fun vs H Q E h => ?_) (fun cdv A outer s H vs Q E hr h => ?_)
  · obtain ⟨k, a, y, ls, rfl, _⟩ := h
    rfl
  · obtain ⟨k, a, y, ls, rfl, ⟨dx, hk⟩, ha, hl, q⟩ := h
    refine ⟨_, (pss_cons (ps_setLc (i := 2) (own := [("letter", 3)]) (g := gName 3) (tt := tYes) (te := (tOp _ (tVar 3) (tFld K (tVar 0) "shift"))) rfl sc_hf.nd rfl rfl (sw_true rfl rfl rfl (by decide +kernel)) (pi_tup (pv 1)) (blkOk_by (own := [("letter", 3)]) (N := ["self", "letters", "found", "letter"]) (sc := defScope s_hf) (by decide +kernel)) (fun _ _ _ _ _ => (pg_name (i := 3) sc_hf.nd rfl (Or.inl rfl))) (fun _ _ _ _ _ => pts_nil) (fun _ _ _ _ _ => (pe_op op_add (pv 3) (pe_fld (pv 0) rfl))))
      (pss_cons (ps_if (pt_val (pe_fld (pv 0) rfl)) (pss_one (ps_set (i := 2) sc_hf.nd rfl (Or.inl rfl) (pe_revL (pv 2)))) pss_nil)
      (pss_one (ps_ret (pe_op op_cat (pe_lst (pa_cons (pe_callTy cInt1 (by rfl) T.int (by decide +kernel) (pa_cons (pe_fld (pv 0) rfl) pa_nil)) pa_nil)) (pv 2)))))), ?_⟩
    walk_at "go"
    intro D hD
    refine lc_pure (ls.map V.int) ((ls.map (· + y.shift)).map V.int) walk_tup hD (fun _ sm => sqt (sm _ _ ha)) (by simp) (by simp; exact hl) (fun _ => rfl) ?_ ?_
    · intro i x z H' hx hz sm Q' q'
      obtain ⟨u, hu, rfl⟩ := get_map hx
      obtain ⟨v, hv, rfl⟩ := get_map hz
      obtain ⟨v', hv', rfl⟩ := get_map hv
      rw [hu] at hv'
      cases hv'
      walk_at "go"
      refine w_fldi (sm _ _ hk) X.kg.cl X.shift mk_shift ?_
      walk_at "go"
      exact q' _ (Same.refl _)
    · intro H1 s1 hD1
      walk_at "go"
      refine w_fldi (s1 _ _ hk) X.kg.cl X.low mk_low ?_
      walk_at "go"
      have fin : ∀ (H2 : Hp) (d : Addr), Same H1 H2 → H2 d = some (.lst ((if y.low then (ls.map (· + y.shift)).reverse else ls.map (· + y.shift)).map V.int)) →
          ∀ p, H2 p = none → ∀ r, (upd H2 p (.lst [.int (if y.lead then 1 else 0)])) r = none → Q (.ref r) (upd (upd H2 p (.lst [.int (if y.lead then 1 else 0)])) r (.lst ([V.int (if y.lead then 1 else 0)] ++ (if y.low then (ls.map (· + y.shift)).reverse else ls.map (· + y.shift)).map V.int))) := fun H2 d s2 hd p hp r hr =>
        q _ r ((s1.trans s2).trans ((Same.new hp).trans (Same.new hr))) (by rw [upd_same]; rfl)
      have hlen : (if y.low then (ls.map (· + y.shift)).reverse else ls.map (· + y.shift)).length = ls.length := by split <;> simp
      have hsz : ([V.int (if y.lead then 1 else 0)] : List V).length + ((if y.low then (ls.map (· + y.shift)).reverse else ls.map (· + y.shift)).map V.int).length ≤ sizeLine := by
        rw [List.length_map, hlen]
        have : (100001 : Nat) ≤ sizeLine := by decide
        simp only [List.length_cons, List.length_nil]
        omega
      by_cases hlow : y.low = true
      · rw [hlow]
        refine iteT ?_
        walk_at "go"
        refine w_revi (sq hD1) fun e he => ?_
        walk_at "go"
        have hk2 := upd_new (o := .lst (((ls.map (· + y.shift)).map V.int).reverse)) he (s1 _ _ hk)
        refine w_fldi hk2 X.kg.cl X.lead mk_lead ?_
        walk_at "go"
        intro p hp
        walk_at "go"
        have hd2 : upd H1 e (.lst (((ls.map (· + y.shift)).map V.int).reverse)) e = some (.lst ((if y.low then (ls.map (· + y.shift)).reverse else ls.map (· + y.shift)).map V.int)) := by
          rw [upd_same, if_pos hlow, map_rev]
        refine w_cat upd_same (upd_new hp hd2) hsz ?_
        exact fin _ e (Same.new he) hd2 p hp
      · have hlow' : y.low = false := by simpa using hlow
        rw [hlow']
        refine iteF ?_
        walk_at "go"
        refine w_fldi (s1 _ _ hk) X.kg.cl X.lead mk_lead ?_
        walk_at "go"
        intro p hp
        walk_at "go"
        have hd2 : H1 D = some (.lst ((if y.low then (ls.map (· + y.shift)).reverse else ls.map (· + y.shift)).map V.int)) := by
          rw [hD1, if_neg hlow]
        refine w_cat upd_same (upd_new hp hd2) hsz ?_
        exact fin _ D (Same.refl _) hd2 p hp
noncomputable abbrev s_mkof : Stmt := (top 31)
theorem sc_mkof : FnScope ["marking"] ["marking"] (defScope s_mkof) :=
  ⟨rfl, rfl, rfl, by decide +kernel, rfl, by decide +kernel, by decide +kernel⟩
theorem ok_mkof {c : CA} (F : Dn K mg "marking_of" s_mkof ["marking"]) (T : Bt mg) (X : Kx K mg c) (c_mk0 : Mak P w K mg base 2 "Marking" c.kg (spMkInit c) [.bl false, .int 0, .bl false]) : Cal P w K mg base 4 "marking_of" (spMkOf c) [] := by
  refine F.cal sc_mkof (fun vs H Q E h => ?_) (fun f cdv A outer s H vs Q E hr h => ?_)
  · obtain ⟨v, y, rfl, _⟩ := h
    rfl
  · obtain ⟨v, y, rfl, hv, q⟩ := h
    refine ⟨_, (pss_cons (ps_if (pt_cmpR op_isN1 (pv 0) pe_non (nomark _)) (pss_one (ps_ret (pe_mk0 c_mk0 hr (by decide) (by rfl)))) pss_nil)
      (pss_cons (ps_if (pt_not (pt_val (pe_callB call_isi (by rfl) T.isinstance (by decide +kernel) (pa_cons (pv 0) (pa_cons (pe_glob (v := .ref c.kg) (by rfl) X.mgMk rfl) pa_nil))))) (pss_one ps_never) pss_nil)
      (pss_one (ps_ret (pv 0))))), ?_⟩
    rcases hv with ⟨rfl, rfl⟩ | ⟨k, rfl, hk⟩
    · walk_at "go"
      refine iteT ?_
      walk_at "go"
      refine use_mk fun m H' _ s1 hm => ?_
      walk_at "go"
      exact q _ _ s1 hm
    · walk_at "go"
      refine iteF ?_
      walk_at "go"
      obtain ⟨dx, hk1⟩ := id hk
      refine w_isiC (X.kg.ty hk1) kit_own ?_
      walk_at "go"
      refine iteF ?_
      walk_at "go"
      exact q _ _ (Same.refl _) hk
noncomputable abbrev s_restat : Stmt := (top 32)
theorem sc_restat : FnScope ["coefficients", "base", "number", "found", "coefficient"] ["coefficients", "base", "number"] (defScope s_restat) :=
  ⟨rfl, rfl, rfl, by decide +kernel, rfl, by decide +kernel, by decide +kernel⟩
theorem ok_restat (F : Dn K mg "rest_at" s_restat ["coefficients", "base", "number"]) (T : Bt mg) : Cal P w K mg base 1 "rest_at" spRestAt [] := by
  refine F.cal sc_restat (fun vs H Q E h => ?_) (fun f cdv A outer s H vs Q E hr h => ?_)
  · obtain ⟨a, cs, b, n, B, rfl, _⟩ := h
    rfl
  · obtain ⟨a, cs, b, n, B, rfl, ha, b0, bn, hB, hB2, q⟩ := h
    refine ⟨_, (pss_cons (ps_set (i := 3) sc_restat.nd rfl (Or.inl rfl) pe_int)
      (pss_cons (ps_for PassesOwn.never rfl (pi_list (pv 0)) (pg_name (i := 4) sc_restat.nd rfl (Or.inl rfl)) (pss_one (ps_set (i := 3) sc_restat.nd rfl (Or.inl rfl) (pe_op op_mod (pe_op op_add (pe_op oMul (pv 3) (pv 1)) (pv 4)) (pv 2)))))
      (pss_one (ps_ret (pv 3))))), ?_⟩
    walk_at "go"
    refine for_list (K := K) (a := a) (xs := cs.map V.int) (fun i σ H' => ∃ (u : Option V), σ = [some (.ref a), some (.int b), some (.int n), some (.int (restAt (cs.take i) b n)), u] ∧ H' = H)
      ⟨none, rfl, rfl⟩ (fun i σ H' _ z => by obtain ⟨_, _, rfl⟩ := z; exact sq ha) ?_ ?_
    · rintro i x σ H' hi ⟨u, rfl, rfl⟩
      obtain ⟨v, hv, rfl⟩ := get_map hi
      have hr := rest_range (b := b) (show 0 < n by omega) (cs.take i)
      walk_at "go"
      · exact ⟨_, by rw [rest_take hv], rfl⟩
      · exact mx_w (a := B) (b := B) (wide_le hr.1 (Int.le_of_lt hr.2) hB) (wide_le b0 (Int.le_of_lt bn) hB) (by omega)
    · rintro σ H' ⟨u, rfl, rfl⟩
      rw [List.length_map, List.take_length]
      walk_at "go"
      exact q
noncomputable abbrev s_wayinit : Stmt := (inClass (top 33) 0)
theorem sc_wayinit : FnScope ["self", "base", "modulus", "marking"] ["self", "base", "modulus", "marking"] (defScope s_wayinit) :=
  ⟨rfl, rfl, rfl, by decide +kernel, rfl, by decide +kernel, by decide +kernel⟩
theorem ok_wayinit {c : CA} {f : Addr} {fd : FuncData} {dvs : List V} (F : FunD K "__init__" "Way.__init__" (defArgs s_wayinit) (defBody s_wayinit) (defScope s_wayinit) dvs [] f fd) (T : Bt mg) (X : Kx K mg c) (c_isint : Cal P w K mg base 1 "is_integer" (spIsInt K) [])
    (c_reqmod : Cal P w K mg base 1 "require_modulus" (spReqMod c) []) (c_mkof : Cal P w K mg base 4 "marking_of" (spMkOf c) []) :
    FnOk P w K mg base L2.CX0 5 f fd ["self", "base", "modulus", "marking"] (spWayInit c) := by
  refine fnD_ok F sc_wayinit (fun vs H Q E h => ?_) (fun cdv A outer s H vs Q E hr h => ?_)
  · obtain ⟨x, dx, m, b, mv, ps, y, rfl, _⟩ := h
    rfl
  · obtain ⟨x, dx, m, b, mv, ps, y, rfl, hx, hm, hk, q⟩ := h
    obtain ⟨dm, t, ts, hm1, hm2, hm3, hm4, hm5⟩ := id hm
    have hn := num_pos hm5
    have nmx : m ≠ x := fun z => by
      rw [z, hx] at hm1
      have := Option.some.inj hm1
      injection this with _ _ e
      cases e
    refine ⟨_, (pss_cons (ps_if (pt_not (pt_val (pe_c c_isint hr (by decide) (by rfl) (pa_cons (pv 1) pa_nil)))) (pss_one ps_never) pss_nil)
      (pss_cons (ps_expr (pe_c c_reqmod hr (by decide) (by rfl) (pa_cons (pv 2) pa_nil)))
      (pss_cons (ps_fld (pv 0) (pe_c c_mkof hr (by decide) (by rfl) (pa_cons (pv 3) pa_nil)) rfl)
      (pss_cons (ps_fld (pv 0) (pv 2) rfl)
      (pss_cons (ps_fld (pv 0) (pe_fld (pv 2) rfl) rfl)
      (pss_one (ps_fld (pv 0) (pe_op op_mod (pv 1) (pe_fld (pv 2) rfl)) rfl))))))), ?_⟩
    walk_at "go"
    refine use_isInt ?_
    walk_at "go"
    refine iteF ?_
    walk_at "go"
    refine ⟨m, dm, _, rfl, hm1, ?_⟩
    walk_at "go"
    refine ⟨mv, y, rfl, hk, fun H1 k s1 hk1 => ?_⟩
    obtain ⟨dk, hk2⟩ := id hk1
    walk_at "go"
    have nkx : k ≠ x := fun z => by
      rw [z, s1 _ _ hx] at hk2
      have := Option.some.inj hk2
      injection this with _ _ e
      cases e
    refine w_sfldi (s1 _ _ hx) X.wy.cl X.marking (by decide) ?_
    walk_at "go"
    refine w_sfldi upd_same X.wy.cl X.modulus (by show 1 < 1000; decide) ?_
    walk_at "go"
    have e1 : putF "modulus" (.ref m) (putF "marking" (.ref k) []) = ([("marking", V.ref k), ("modulus", .ref m)] : List (Str × V)) := by
      rw [put0, putS (by decide +kernel)]
      rfl
    rw [e1]
    have hmA : ∀ (o1 o2 : HO), upd (upd H1 x o1) x o2 m = some (.ins c.md dm (mdF (num ps) t)) := fun o1 o2 => by rw [upd_ne nmx, upd_ne nmx]; exact s1 _ _ hm1
    refine w_fldi (hmA _ _) X.md.cl X.number md_number ?_
    walk_at "go"
    refine w_sfldi upd_same X.wy.cl X.wnumber (by show 2 < 1000; decide) ?_
    walk_at "go"
    refine w_fldi (by rw [upd_ne nmx]; exact hmA _ _) X.md.cl X.number md_number ?_
    walk_at "go"
    have e2 : putF "number" (.int (num ps)) [("marking", V.ref k), ("modulus", .ref m)] = ([("marking", V.ref k), ("modulus", .ref m), ("number", .int (num ps))] : List (Str × V)) := by
      rw [putS (by decide +kernel), putS (by decide +kernel)]
      rfl
    rw [e2]
    refine w_sfldi upd_same X.wy.cl X.base (by show 3 < 1000; decide) ?_
    walk_at "go"
    have e3 : putF "base" (.int (b % num ps)) [("marking", V.ref k), ("modulus", .ref m), ("number", .int (num ps))] = wyF k m (num ps) (b % num ps) := by
      rw [putS (by decide +kernel), putS (by decide +kernel), putS (by decide +kernel)]
      rfl
    rw [e3]
    refine q _ k (fun b o nb hb => by rw [upd_ne nb, upd_ne nb, upd_ne nb, upd_ne nb]; exact s1 _ _ hb) upd_same ⟨dk, ?_⟩
    rw [upd_ne nkx, upd_ne nkx, upd_ne nkx, upd_ne nkx]
    exact hk2
noncomputable abbrev s_ofl : Stmt := (inClass (top 33) 2)
theorem sc_ofl : FnScope ["self", "letters"] ["self", "letters"] (defScope s_ofl) :=
  ⟨rfl, rfl, rfl, by decide +kernel, rfl, by decide +kernel, by decide +kernel⟩
theorem ok_ofl {c : CA} {f : Addr} {fd : FuncData} (F : FunD K "of_letters" "Way.of_letters" (defArgs s_ofl) (defBody s_ofl) (defScope s_ofl) [] [] f fd) (T : Bt mg) (X : Kx K mg c) (c_restat : Cal P w K mg base 1 "rest_at" spRestAt []) (c_hf : Met P w K mg base 1 c.kg "highest_first" (spHf c) []) :
    FnOk P w K mg base L2.CX0 2 f fd ["self", "letters"] (spOfLetters c) := by
  refine fnD_ok F sc_ofl (fun vs H Q E h => ?_) (fun cdv A outer s H vs Q E hr h => ?_)
  · obtain ⟨x, a, b, ps, y, ls, rfl, _⟩ := h
    rfl
  · obtain ⟨x, a, b, ps, y, ls, rfl, ⟨dx, m, k, hx, hm, ⟨dk, hk⟩, b0, bn⟩, ha, hl, q⟩ := h
    obtain ⟨_, _, _, _, _, _, _, hs⟩ := id hm
    refine ⟨_, (pss_one (ps_ret (pe_c c_restat hr (by decide) (by rfl) (pa_cons (pe_mt c_hf hr (by decide) (pe_fld (pv 0) rfl) (pa_cons (pv 1) pa_nil)) (pa_cons (pe_fld (pv 0) rfl) (pa_cons (pe_fld (pv 0) rfl) pa_nil)))))), ?_⟩
    walk_at "go"
    refine w_fldi hx X.wy.cl X.marking wy_marking ?_
    refine w_methi hk (mk_no (by decide +kernel) (by decide +kernel) (by decide +kernel)) ?_
    walk_at "go"
    refine ⟨k, a, y, ls, rfl, ⟨dk, hk⟩, ha, hl, fun H1 l s1 hl1 => ?_⟩
    walk_at "go"
    refine w_fldi (s1 _ _ hx) X.wy.cl X.base wy_base ?_
    walk_at "go"
    refine w_fldi (s1 _ _ hx) X.wy.cl X.wnumber wy_number ?_
    walk_at "go"
    refine ⟨l, hf y ls, b, num ps, 70000, rfl, hl1, b0, bn, num_lt hs, by decide, ?_⟩
    walk_at "go"
    exact q _ s1
noncomputable abbrev s_mixed : Stmt := (top 63)
theorem sc_mixed : FnScope ["_law_cell", "_law_k", "_law_stirred"] ["_law_cell", "_law_k"] (defScope s_mixed) :=
  ⟨rfl, rfl, rfl, by decide +kernel, rfl, by decide +kernel, by decide +kernel⟩
theorem ok_mixed (F : Dn K mg "_law_mixed" s_mixed ["_law_cell", "_law_k"]) (T : Bt mg) : Cal P w K mg base 1 "_law_mixed" spMixed [] := by
  refine F.cal sc_mixed (fun vs H Q E h => ?_) (fun f cdv A outer s H vs Q E hr h => ?_)
  · obtain ⟨a, b, rfl, _⟩ := h
    rfl
  · obtain ⟨a, b, rfl, a0, a1, b0, b1, k⟩ := h
    refine ⟨_, (pss_cons (ps_set (i := 2) sc_mixed.nd rfl (Or.inl rfl) (pe_op op_mod (pe_callTy cInt1 (by rfl) T.int (by decide +kernel) (pa_cons (pe_op op_add (pe_op op_add (pe_op op_add (pe_op oMul (pv 0) pe_int) (pe_op oMul (pe_op oMul pe_int (pv 1)) (pv 1))) (pe_op oMul pe_int (pv 1))) pe_int) pa_nil)) pe_int))
      (pss_one (ps_ret (pe_op op_fdivW (pe_op op_mod (pe_callTy cInt1 (by rfl) T.int (by decide +kernel) (pa_cons (pe_op op_add (pe_op op_add (pe_op oMul (pv 2) (pv 2)) (pe_op oMul pe_int (pv 2))) pe_int) pa_nil)) pe_int) pe_int)))), ?_⟩
    walk_at "go"
    · exact k _ (by omega) (by omega)
noncomputable abbrev s_purse : Stmt := (top 64)
theorem sc_purse : FnScope ["_law_cells", "_law_at", "_law_cell"] ["_law_cells", "_law_at"] (defScope s_purse) :=
  ⟨rfl, rfl, rfl, by decide +kernel, rfl, by decide +kernel, by decide +kernel⟩
theorem ok_purse (F : Dn K mg "_law_purse" s_purse ["_law_cells", "_law_at"]) (T : Bt mg) : Cal P w K mg base 1 "_law_purse" (spPurse K) [] := by
  refine F.cal sc_purse (fun vs H Q E h => ?_) (fun f cdv A outer s H vs Q E hr h => ?_)
  · obtain ⟨a, ns, i, rfl, _⟩ := h
    rfl
  · obtain ⟨a, ns, i, rfl, hS, i0, hl, k⟩ := h
    have e1 : CPowW 10 18 := ⟨by decide, by decide +kernel⟩
    have e2 : CPowW 10 60 := ⟨by decide, by decide +kernel⟩
    have e3 : CPowW (10 ^ Int.toNat 60) 8 := ⟨by decide, by decide +kernel⟩
    have e4 : (0 : Int) < (10 ^ Int.toNat 60) ^ Int.toNat 8 := by decide +kernel
    have e5 : ((10 : Int) ^ Int.toNat 60) ^ Int.toNat 8 < 2 ^ 1600 := by decide +kernel
    generalize e6 : ((10 : Int) ^ Int.toNat 60) ^ Int.toNat 8 = g at e4 e5
    have fin : ∀ c : Int, Q = Q → ∀ p, H p = none → Q (.ref p) (upd H p (.lst [.int ((if 0 > c - 10 ^ Int.toNat 18 then 0 else c - 10 ^ Int.toNat 18) % g), .int (c % 2147483647), .int (1000 * i)])) := fun c _ p np =>
      k p _ np (Same.new np) ⟨_, _, _, upd_same, Int.emod_nonneg _ (by omega), Int.lt_trans (Int.emod_lt_of_pos _ e4) e5, by omega, by omega, by omega, by omega⟩
    refine ⟨_, (pss_cons (ps_set (i := 2) sc_purse.nd rfl (Or.inl rfl) pe_int)
      (pss_cons (ps_if (pt_cmpR op_lt (pv 1) (pe_callB cLen (by rfl) T.len (by decide +kernel) (pa_cons (pv 0) pa_nil)) (nomark _)) (pss_one (ps_set (i := 2) sc_purse.nd rfl (Or.inl rfl) (pe_ix ix_list (pv 0) (pv 1) (fun _ _ => rfl)))) pss_nil)
      (pss_one (ps_ret (pe_lst (pa_cons (pe_op op_mod (pe_callTy cInt1 (by rfl) T.int (by decide +kernel) (pa_cons (pe_callB (cMax2 rfl) (by rfl) T.max (by decide +kernel) (pa_cons (pe_op op_sub (pv 2) (pe_op oPowW pe_int pe_int)) (pa_cons pe_int pa_nil))) pa_nil)) (pe_op oPowW (pe_op oPowW pe_int pe_int) pe_int)) (pa_cons (pe_op op_mod (pe_callTy cInt1 (by rfl) T.int (by decide +kernel) (pa_cons (pv 2) pa_nil)) pe_int) (pa_cons (pe_op oMul pe_int (pv 1)) pa_nil)))))))), ?_⟩
    walk_at "go"
    refine ite_d (fun h => ?_) (fun h => ?_)
    · walk_at "go"
      refine w_ixL hS (atI_ints i0 h) ?_
      walk_at "go"
      rw [e6]
      exact fin _ rfl
    · walk_at "go"
      rw [e6]
      exact fin _ rfl
noncomputable abbrev s_draw : Stmt := (top 65)
theorem sc_draw : FnScope ["_law_purse_here", "_law_out_of", "_law_drawn"] ["_law_purse_here", "_law_out_of"] (defScope s_draw) :=
  ⟨rfl, rfl, rfl, by decide +kernel, rfl, by decide +kernel, by decide +kernel⟩
theorem ok_draw (F : Dn K mg "_law_draw" s_draw ["_law_purse_here", "_law_out_of"]) (T : Bt mg) (c_mixed : Cal P w K mg base 1 "_law_mixed" spMixed []) : Cal P w K mg base 2 "_law_draw" spDraw [] := by
  refine F.cal sc_draw (fun vs H Q E h => ?_) (fun f cdv A outer s H vs Q E hr h => ?_)
  · obtain ⟨a, n, c, rfl, _⟩ := h
    rfl
  · obtain ⟨a, n, c, rfl, n0, n1, hc, ⟨x, y, z, hp, x0, x1, y0, y1, z0, z1⟩, k⟩ := h
    refine ⟨_, (pss_cons (ps_if (pt_cmpR op_gt (pe_ix ix_list (pv 0) pe_int (fun _ _ => rfl)) pe_int (nomark _)) (pss_cons (ps_set (i := 2) sc_draw.nd rfl (Or.inl rfl) (pe_op op_mod (pe_callTy cInt1 (by rfl) T.int (by decide +kernel) (pa_cons (pe_ix ix_list (pv 0) pe_int (fun _ _ => rfl)) pa_nil)) (pv 1)))
      (pss_cons (ps_asg (pe_op op_fdivW (pe_ix ix_list (pv 0) pe_int (fun _ _ => rfl)) (pv 1)) (pg_sub (pv 0) pe_int set_list))
      (pss_one (ps_ret (pv 2))))) pss_nil)
      (pss_cons (ps_asg (pe_op op_add (pe_ix ix_list (pv 0) pe_int (fun _ _ => rfl)) pe_int) (pg_sub (pv 0) pe_int set_list))
      (pss_one (ps_ret (pe_op op_mod (pe_callTy cInt1 (by rfl) T.int (by decide +kernel) (pa_cons (pe_c c_mixed hr (by decide) (by rfl) (pa_cons (pe_ix ix_list (pv 0) pe_int (fun _ _ => rfl)) (pa_cons (pe_ix ix_list (pv 0) pe_int (fun _ _ => rfl)) pa_nil))) pa_nil)) (pv 1)))))), ?_⟩
    walk_at "go"
    refine ite_d (fun h => ?_) (fun h => ?_)
    · walk_at "go"
      exact k _ _ (Int.emod_nonneg _ (by omega)) (Int.emod_lt_of_pos _ n0) Keep.refl.upd ⟨_, _, _, upd_same, Int.ediv_nonneg x0 (by omega), Int.lt_of_le_of_lt (Int.ediv_le_self _ x0) x1, y0, y1, z0, by omega⟩
    · walk_at "go"
      refine ⟨_, _, rfl, y0, y1, (by omega), (by omega), fun r r0 r1 => ?_⟩
      walk_at "go"
      exact k _ _ (Int.emod_nonneg _ (by omega)) (Int.emod_lt_of_pos _ n0) Keep.refl.upd ⟨_, _, _, upd_same, x0, x1, y0, y1, by omega, by omega⟩
noncomputable abbrev s_great : Stmt := (top 66)
theorem sc_great : FnScope ["_law_purse_here", "_law_figures", "_law_found", "_law_turn"] ["_law_purse_here", "_law_figures"] (defScope s_great) :=
  ⟨rfl, rfl, rfl, by decide +kernel, rfl, by decide +kernel, by decide +kernel⟩
theorem ok_great (F : Dn K mg "_law_great" s_great ["_law_purse_here", "_law_figures"]) (T : Bt mg) (c_draw : Cal P w K mg base 2 "_law_draw" spDraw []) : Cal P w K mg base 3 "_law_great" spGreat [] := by
  refine F.cal sc_great (fun vs H Q E h => ?_) (fun f cdv A outer s H vs Q E hr h => ?_)
  · obtain ⟨a, n, c, rfl, _⟩ := h
    rfl
  · obtain ⟨a, n, c, rfl, n0, n1, hc, p, k⟩ := h
    refine ⟨_, (pss_cons (ps_set (i := 2) sc_great.nd rfl (Or.inl rfl) pe_int)
      (pss_cons (ps_for PassesOwn.never rfl (pi_range1 (by rfl) T.range (pa_cons (pv 1) pa_nil)) (pg_name (i := 3) sc_great.nd rfl (Or.inl rfl)) (pss_one (ps_set (i := 2) sc_great.nd rfl (Or.inl rfl) (pe_op op_add (pe_op oMul pe_int (pv 2)) (pe_c c_draw hr (by decide) (by rfl) (pa_cons (pv 0) (pa_cons pe_int pa_nil)))))))
      (pss_one (ps_ret (pv 2))))), ?_⟩
    walk_at "go"
    refine for_range (lo := 0) (n := n.toNat) (fun i σ H' => ∃ (v : Int) (u : Option V), σ = [some (.ref a), some (.int n), some (.int v), u] ∧ 0 ≤ v ∧ v < 10 ^ i ∧ Keep a H H' ∧ Purse H' a (c + i))
      ⟨0, none, rfl, by decide, by decide, Keep.refl, p.le (by omega)⟩ ?_ ?_
    · rintro i σ H' hi ⟨v, u, rfl, v0, v1, kp, pu⟩
      walk_at "go"
      refine use_draw pu (by decide) (by decide) (by omega) (fun r H2 r0 r1 k2 p2 => ?_)
      walk_at "go"
      refine ⟨_, _, rfl, by omega, ?_, kp.trans k2, p2.le (by omega)⟩
      rw [Int.pow_succ]
      omega
    · rintro σ H' ⟨v, u, rfl, v0, v1, kp, pu⟩
      walk_at "go"
      exact k _ _ v0 v1 kp (pu.le (by omega))
noncomputable abbrev s_style : Stmt := (top 67)
theorem sc_style : FnScope ["_law_purse_here", "_law_moved"] ["_law_purse_here"] (defScope s_style) :=
  ⟨rfl, rfl, rfl, by decide +kernel, rfl, by decide +kernel, by decide +kernel⟩
theorem ok_style (F : Dn K mg "_law_style" s_style ["_law_purse_here"]) (T : Bt mg) (c_draw : Cal P w K mg base 2 "_law_draw" spDraw []) (c_great : Cal P w K mg base 3 "_law_great" spGreat []) : Cal P w K mg base 4 "_law_style" spStyle [] := by
  refine F.cal sc_style (fun vs H Q E h => ?_) (fun f cdv A outer s H vs Q E hr h => ?_)
  · obtain ⟨a, c, rfl, _⟩ := h
    rfl
  · obtain ⟨a, c, rfl, hc, p, k⟩ := h
    refine ⟨_, (pss_cons (ps_set (i := 1) sc_style.nd rfl (Or.inl rfl) (pe_ix ix_list (pe_lst (pa_cons pe_int (pa_cons pe_int (pa_cons pe_int (pa_cons (pe_op op_sub pe_int pe_int) (pa_cons (pe_c c_great hr (by decide) (by rfl) (pa_cons (pv 0) (pa_cons (pe_op op_add pe_int (pe_c c_draw hr (by decide) (by rfl) (pa_cons (pv 0) (pa_cons pe_int pa_nil)))) pa_nil))) pa_nil)))))) (pe_c c_draw hr (by decide) (by rfl) (pa_cons (pv 0) (pa_cons pe_int pa_nil))) (fun _ _ => rfl)))
      (pss_one (ps_ret (pe_lst (pa_cons (pe_cmpR op_eq (pe_c c_draw hr (by decide) (by rfl) (pa_cons (pv 0) (pa_cons pe_int pa_nil))) pe_int (nomark _)) (pa_cons (pv 1) (pa_cons (pe_cmpR op_eq (pe_c c_draw hr (by decide) (by rfl) (pa_cons (pv 0) (pa_cons pe_int pa_nil))) pe_int (nomark _)) pa_nil))))))), ?_⟩
    walk_at "go"
    refine use_draw p (by decide) (by decide) (by omega) (fun r1 H1 r10 r11 k1 p1 => ?_)
    walk_at "go"
    refine use_great p1 (by omega) (by omega) (by omega) (fun g H2 g0 g1 k2 p2 => ?_)
    walk_at "go"
    intro q1 f1
    have s1 : Same H2 (upd H2 q1 (.lst (([0, 0, 1, 0 - 97, g] : List Int).map V.int))) := Same.new f1
    have m1 := p2.fresh f1
    walk_at "go"
    refine use_draw (p2.same s1) (by decide) (by decide) (by omega) (fun r2 H3 r20 r21 k3 p3 => ?_)
    have h1 := k3.at_ m1 (upd_same (H := H2) (a := q1) (o := .lst (([0, 0, 1, 0 - 97, g] : List Int).map V.int)))
    refine w_ixL (xs := ([0, 0, 1, 0 - 97, g] : List Int).map V.int) (sq h1) (atI_ints r20 (by simpa using r21)) ?_
    have hb : (([0, 0, 1, 0 - 97, g] : List Int).getD r2.toNat 0).natAbs < 10 ^ 31 := by
      have hg : g.natAbs < 10 ^ 31 := by
        have h2 : (10 : Int) ^ (1 + r1).toNat ≤ 10 ^ 30 := by
          have e : (10 : Int) ^ (1 + r1).toNat = ((10 ^ (1 + r1).toNat : Nat) : Int) := by rw [Int.natCast_pow]; rfl
          have e2 : 10 ^ (1 + r1).toNat ≤ 10 ^ 30 := Nat.pow_le_pow_right (by decide) (by omega)
          rw [e]
          omega
        omega
      have hr : r2 = 0 ∨ r2 = 1 ∨ r2 = 2 ∨ r2 = 3 ∨ r2 = 4 := by omega
      rcases hr with rfl | rfl | rfl | rfl | rfl
      · show (0 : Int).natAbs < 10 ^ 31; decide
      · show (0 : Int).natAbs < 10 ^ 31; decide
      · show (1 : Int).natAbs < 10 ^ 31; decide
      · show (0 - 97 : Int).natAbs < 10 ^ 31; decide
      · exact hg
    generalize ([0, 0, 1, 0 - 97, g] : List Int).getD r2.toNat 0 = sh at hb
    walk_at "go"
    refine use_draw p3 (by decide) (by decide) (by omega) (fun r4 H4 r40 r41 k4 p4 => ?_)
    walk_at "go"
    refine use_draw p4 (by decide) (by decide) (by omega) (fun r5 H5 r50 r51 k5 p5 => ?_)
    walk_at "go"
    intro q2 f2
    walk_at "go"
    have kp : Keep a H H5 := k1.trans (k2.trans ((Keep.of s1).trans (k3.trans (k4.trans k5))))
    have g2 : H q2 = none := by
      cases e : H q2 with
      | none => rfl
      | some o =>
        by_cases z : q2 = a
        · rw [z] at f2
          obtain ⟨_, _, _, e2, _⟩ := p5
          rw [e2] at f2
          cases f2
        · rw [kp _ _ z e] at f2
          cases f2
    exact k q2 _ ⟨_, sh, _⟩ g2 (kp.trans (Keep.of (Same.new f2))) ((p5.same (Same.new f2)).le (by omega)) upd_same hb
noncomputable abbrev s_marking : Stmt := (top 68)
theorem sc_marking : FnScope ["_law_given"] ["_law_given"] (defScope s_marking) :=
  ⟨rfl, rfl, rfl, by decide +kernel, rfl, by decide +kernel, by decide +kernel⟩
theorem ok_marking {ca : CA} (F : Dn K mg "_law_marking" s_marking ["_law_given"]) (T : Bt mg) (c_mk3 : MakK P w K mg base 2 "Marking" ca.kg ["low", "shift", "lead"] (spMkInit ca) (fun vs zs => vs ++ zs)) : Cal P w K mg base 4 "_law_marking" (spMarking ca) [] := by
  refine F.cal sc_marking (fun vs H Q E h => ?_) (fun f cdv A outer s H vs Q E hr h => ?_)
  · obtain ⟨g, y, rfl, _⟩ := h
    rfl
  · obtain ⟨g, y, rfl, hg, q⟩ := h
    refine ⟨_, (pss_one (ps_ret (pe_mkK0 c_mk3 hr (by decide) (by rfl) (pk_cons (pe_ix ix_list (pv 0) pe_int (fun _ _ => rfl)) (pk_cons (pe_ix ix_list (pv 0) pe_int (fun _ _ => rfl)) (pk_cons (pe_ix ix_list (pv 0) pe_int (fun _ _ => rfl)) pk_nil)))))), ?_⟩
    walk_at "go"
    refine ⟨rfl, rfl, use_mk fun m H' nm s1 hm => ?_⟩
    walk_at "go"
    exact q _ _ nm s1 hm
noncomputable abbrev s_root : Stmt := (top 70)
theorem sc_root : FnScope ["_law_purse_here", "_law_size", "_law_some"] ["_law_purse_here", "_law_size"] (defScope s_root) :=
  ⟨rfl, rfl, rfl, by decide +kernel, rfl, by decide +kernel, by decide +kernel⟩
theorem ok_root (F : Dn K mg "_law_root" s_root ["_law_purse_here", "_law_size"]) (T : Bt mg) (c_draw : Cal P w K mg base 2 "_law_draw" spDraw []) (c_great : Cal P w K mg base 3 "_law_great" spGreat []) : Cal P w K mg base 4 "_law_root" spRoot [] := by
  refine F.cal sc_root (fun vs H Q E h => ?_) (fun f cdv A outer s H vs Q E hr h => ?_)
  · obtain ⟨a, n, c, rfl, _⟩ := h
    rfl
  · obtain ⟨a, n, c, rfl, n0, hc, p, k⟩ := h
    refine ⟨_, (pss_cons (ps_set (i := 2) sc_root.nd rfl (Or.inl rfl) (pe_lst (pa_cons (pe_c c_draw hr (by decide) (by rfl) (pa_cons (pv 0) (pa_cons pe_int pa_nil))) (pa_cons (pe_op op_sub pe_int (pe_c c_draw hr (by decide) (by rfl) (pa_cons (pv 0) (pa_cons pe_int pa_nil)))) (pa_cons (pv 1) (pa_cons (pe_op op_sub (pv 1) pe_int) (pa_cons (pe_op op_fdivW (pv 1) pe_int) (pa_cons (pe_c c_great hr (by decide) (by rfl) (pa_cons (pv 0) (pa_cons pe_int pa_nil))) pa_nil))))))))
      (pss_one (ps_ret (pe_ix ix_list (pv 2) (pe_c c_draw hr (by decide) (by rfl) (pa_cons (pv 0) (pa_cons pe_int pa_nil))) (fun _ _ => rfl))))), ?_⟩
    walk_at "go"
    refine use_draw p (by decide) (by decide) (by omega) (fun r1 H1 r10 r11 k1 p1 => ?_)
    walk_at "go"
    refine use_draw p1 (by decide) (by decide) (by omega) (fun r2 H2 r20 r21 k2 p2 => ?_)
    walk_at "go"
    refine use_great p2 (by omega) (by omega) (by omega) (fun g H3 g0 g1 k3 p3 => ?_)
    walk_at "go"
    intro q1 f1
    have s1 : Same H3 (upd H3 q1 (.lst (([r1, 0 - r2, n, n - 1, n / 2, g] : List Int).map V.int))) := Same.new f1
    have m1 := p3.fresh f1
    walk_at "go"
    refine use_draw (p3.same s1) (by decide) (by decide) (by omega) (fun r3 H4 r30 r31 k4 p4 => ?_)
    have h1 := k4.at_ m1 (upd_same (H := H3) (a := q1) (o := .lst (([r1, 0 - r2, n, n - 1, n / 2, g] : List Int).map V.int)))
    refine w_ixL (xs := ([r1, 0 - r2, n, n - 1, n / 2, g] : List Int).map V.int) (sq h1) (atI_ints r30 (by simpa using r31)) ?_
    walk_at "go"
    refine k _ _ ?_ (k1.trans (k2.trans (k3.trans ((Keep.of s1).trans k4)))) (p4.le (by omega))
    have hg : g < 10 ^ 40 := g1
    have hr : r3 = 0 ∨ r3 = 1 ∨ r3 = 2 ∨ r3 = 3 ∨ r3 = 4 ∨ r3 = 5 := by omega
    rcases hr with rfl | rfl | rfl | rfl | rfl | rfl
    · show r1.natAbs ≤ _; omega
    · show (0 - r2).natAbs ≤ _; omega
    · show n.natAbs ≤ _; omega
    · show (n - 1).natAbs ≤ _; omega
    · show (n / 2).natAbs ≤ _; omega
    · show g.natAbs ≤ _; omega
noncomputable abbrev s_call : Stmt := (inClass (top 33) 3)
theorem sc_call : FnScope ["self", "text"] ["self", "text"] (defScope s_call) :=
  ⟨rfl, rfl, rfl, by decide +kernel, rfl, by decide +kernel, by decide +kernel⟩
theorem ok_call {c : CA} {f : Addr} {fd : FuncData} (F : FunD K "__call__" "Way.__call__" (defArgs s_call) (defBody s_call) (defScope s_call) [] [] f fd) (T : Bt mg) (X : Kx K mg c) (c_reqtext : Cal P w K mg base 3 "require_text" spRead []) (c_ofl : Met P w K mg base 2 c.wy "of_letters" (spOfLetters c) []) :
    FnOk P w K mg base L2.CX0 4 f fd ["self", "text"] (spMarkOf c) := by
  refine fnD_ok F sc_call (fun vs H Q E h => ?_) (fun cdv A outer s H vs Q E hr h => ?_)
  · obtain ⟨x, v, b, ps, y, ls, rfl, _⟩ := h
    rfl
  · obtain ⟨x, v, b, ps, y, ls, rfl, hw, tv, q⟩ := h
    obtain ⟨dx, m, k, hx, r⟩ := id hw
    refine ⟨_, (pss_one (ps_ret (pe_mt c_ofl hr (by decide) (pv 0) (pa_cons (pe_c c_reqtext hr (by decide) (by rfl) (pa_cons (pv 1) pa_nil)) pa_nil)))), ?_⟩
    walk_at "go"
    refine w_methi hx (wy_no (by decide +kernel) (by decide +kernel) (by decide +kernel) (by decide +kernel)) ?_
    walk_at "go"
    refine ⟨v, ls, rfl, tv, fun H1 t1 s1 h1 => ?_⟩
    walk_at "go"
    refine ⟨x, t1, b, ps, y, ls, rfl, hw.same s1, h1, tv.len, fun H3 s3 => ?_⟩
    walk_at "go"
    exact q _ (s1.trans s3)
noncomputable abbrev s_reqway : Stmt := (top 34)
theorem sc_reqway : FnScope ["way"] ["way"] (defScope s_reqway) :=
  ⟨rfl, rfl, rfl, by decide +kernel, rfl, by decide +kernel, by decide +kernel⟩
theorem ok_reqway {c : CA} (F : Dn K mg "require_way" s_reqway ["way"]) (T : Bt mg) (X : Kx K mg c) : Cal P w K mg base 1 "require_way" (spReqWay c) [] := by
  refine F.cal sc_reqway (fun vs H Q E h => ?_) (fun f cdv A outer s H vs Q E hr h => ?_)
  · obtain ⟨m, dx, fs, rfl, _⟩ := h
    rfl
  · obtain ⟨m, dx, fs, rfl, hm, q⟩ := h
    refine ⟨_, (pss_one (ps_if (pt_not (pt_val (pe_callB call_isi (by rfl) T.isinstance (by decide +kernel) (pa_cons (pv 0) (pa_cons (pe_glob (v := .ref c.wy) (by rfl) X.mgWy rfl) pa_nil))))) (pss_one ps_never) pss_nil)), ?_⟩
    walk_at "go"
    refine w_isiC (X.wy.ty hm) kit_own ?_
    walk_at "go"
    refine iteF ?_
    walk_at "go"
    exact q
noncomputable abbrev s_reqstock : Stmt := (top 28)
theorem sc_reqstock : FnScope ["stock"] ["stock"] (defScope s_reqstock) :=
  ⟨rfl, rfl, rfl, by decide +kernel, rfl, by decide +kernel, by decide +kernel⟩
theorem ok_reqstock (F : Dn K mg "require_stock" s_reqstock ["stock"]) (T : Bt mg) (c_isint : Cal P w K mg base 1 "is_integer" (spIsInt K) []) : Cal P w K mg base 2 "require_stock" spReqStock [] := by
  refine F.cal sc_reqstock (fun vs H Q E h => ?_) (fun f cdv A outer s H vs Q E hr h => ?_)
  · obtain ⟨n, rfl, _⟩ := h
    rfl
  · obtain ⟨n, rfl, n1, q⟩ := h
    refine ⟨_, (pss_one (ps_if (PW.pt (pw_or (pt_not (pt_val (pe_c c_isint hr (by decide) (by rfl) (pa_cons (pv 0) pa_nil)))) (pw_or1 (pt_cmpR op_lt (pv 0) pe_int (nomark _))))) (pss_one ps_never) pss_nil)), ?_⟩
    walk_at "go"
    refine use_isInt ?_
    walk_at "go"
    refine iteF ?_
    walk_at "go"
    refine ite_d (fun h => by omega) (fun h => ?_)
    walk_at "go"
    exact q
noncomputable abbrev s_power : Stmt := (top 17)
theorem sc_power : FnScope ["base", "exponent", "number", "found", "factor"] ["base", "exponent", "number"] (defScope s_power) :=
  ⟨rfl, rfl, rfl, by decide +kernel, rfl, by decide +kernel, by decide +kernel⟩
theorem ok_power (F : Dn K mg "power_rest" s_power ["base", "exponent", "number"]) (T : Bt mg) : Cal P w K mg base 1 "power_rest" spPower [] := by
  refine F.cal sc_power (fun vs H Q E h => ?_) (fun f cdv A outer s H vs Q E hr h => ?_)
  · obtain ⟨b, e, n, B, rfl, _⟩ := h
    rfl
  · obtain ⟨b, e, n, B, rfl, e0, e1, hn, hB, hB2, q⟩ := h
    refine ⟨_, (pss_cons (ps_set (i := 3) sc_power.nd rfl (Or.inl rfl) (pe_op op_mod pe_int (pv 2)))
      (pss_cons (ps_set (i := 4) sc_power.nd rfl (Or.inl rfl) (pe_op op_mod (pv 0) (pv 2)))
      (pss_cons (ps_while PassesOwn.never (pt_cmpR op_gt (pv 1) pe_int (nomark _)) (pss_cons (ps_if (pt_cmpR op_eq (pe_op op_mod (pe_callTy cInt1 (by rfl) T.int (by decide +kernel) (pa_cons (pv 1) pa_nil)) pe_int) pe_int (nomark _)) (pss_one (ps_set (i := 3) sc_power.nd rfl (Or.inl rfl) (pe_op op_mod (pe_op oMul (pv 3) (pv 4)) (pv 2)))) pss_nil)
      (pss_cons (ps_set (i := 4) sc_power.nd rfl (Or.inl rfl) (pe_op op_mod (pe_op oMul (pv 4) (pv 4)) (pv 2)))
      (pss_one (ps_set (i := 1) sc_power.nd rfl (Or.inl rfl) (pe_op op_fdivW (pv 1) pe_int))))))
      (pss_one (ps_ret (pv 3)))))), ?_⟩
    walk_at "go"
    refine while_go (fun σ H' => ∃ g h x : Int, σ = [some (.int b), some (.int x), some (.int n), some (.int g), some (.int h)] ∧ (0 ≤ g ∧ g < n) ∧ (0 ≤ h ∧ h < n) ∧ (0 ≤ x ∧ x < 2 ^ 60) ∧ g * h ^ x.toNat % n = b ^ e.toNat % n ∧ H' = H) (fun σ _ => match σ with | [_, some (.int x), _, _, _] => x.toNat | _ => 0)
      ⟨_, _, e, rfl, ⟨Int.emod_nonneg _ (by omega), Int.emod_lt_of_pos _ hn⟩, ⟨Int.emod_nonneg _ (by omega), Int.emod_lt_of_pos _ hn⟩, ⟨e0, e1⟩, ?_, rfl⟩ ?_
    · have hp : ∀ k : Nat, (b % n) ^ k % n = b ^ k % n := fun k => by
        induction k with
        | zero => rw [Int.pow_zero, Int.pow_zero]
        | succ k ih => rw [Int.pow_succ, Int.pow_succ, Int.mul_emod, ih, Int.emod_emod_of_dvd _ (Int.dvd_refl n), ← Int.mul_emod]
      rw [Int.mul_emod, hp, Int.emod_emod_of_dvd _ (Int.dvd_refl n), ← Int.mul_emod, Int.one_mul]
    · rintro σ H' ⟨g, h, x, rfl, ⟨g0, g1⟩, ⟨h0, h1⟩, ⟨x0, x1⟩, hi, rfl⟩
      have bg := wide_le g0 (Int.le_of_lt g1) hB
      have bh := wide_le h0 (Int.le_of_lt h1) hB
      have m1 : CMx g h := mx_w bg bh (by omega)
      have m2 : CMx h h := mx_w bh bh (by omega)
      walk_at "go"
      refine ite_d (fun hx => ?_) (fun hx => ?_)
      · have hp := half_pow h x hx
        walk_at "go"
        rw [decI]
        refine ite_d (fun hodd => ?_) (fun hodd => ?_)
        · walk_at "go"
          refine ⟨?_, _, _, _, rfl, ⟨Int.emod_nonneg _ (by omega), Int.emod_lt_of_pos _ hn⟩, ⟨Int.emod_nonneg _ (by omega), Int.emod_lt_of_pos _ hn⟩, by omega, ?_, rfl⟩
          · show (x / 2).toNat < x.toNat
            omega
          · rw [← hi, hp, if_pos hodd, cg]
            have hq : ∀ k : Nat, (h * h % n) ^ k % n = (h * h) ^ k % n := fun k => by
              induction k with
              | zero => rw [Int.pow_zero, Int.pow_zero]
              | succ k ih => rw [Int.pow_succ, Int.pow_succ, Int.mul_emod, ih, Int.emod_emod_of_dvd _ (Int.dvd_refl n), ← Int.mul_emod]
            obtain ⟨k1, e1⟩ := cg.mp (hq (x / 2).toNat)
            obtain ⟨k2, e2⟩ := self_mod n (g * h)
            rw [e1, e2]
            generalize (h * h) ^ (x / 2).toNat = z
            exact ⟨g * h * k1 + k2 * z + n * k1 * k2, by grind⟩
        · walk_at "go"
          refine ⟨?_, _, _, _, rfl, ⟨g0, g1⟩, ⟨Int.emod_nonneg _ (by omega), Int.emod_lt_of_pos _ hn⟩, by omega, ?_, rfl⟩
          · show (x / 2).toNat < x.toNat
            omega
          · rw [← hi, hp, if_neg hodd, cg]
            have hq : ∀ k : Nat, (h * h % n) ^ k % n = (h * h) ^ k % n := fun k => by
              induction k with
              | zero => rw [Int.pow_zero, Int.pow_zero]
              | succ k ih => rw [Int.pow_succ, Int.pow_succ, Int.mul_emod, ih, Int.emod_emod_of_dvd _ (Int.dvd_refl n), ← Int.mul_emod]
            obtain ⟨k1, e1⟩ := cg.mp (hq (x / 2).toNat)
            rw [e1]
            generalize (h * h) ^ (x / 2).toNat = z
            exact ⟨g * k1, by grind⟩
      · have ex : x = 0 := by omega
        subst ex
        walk_at "go"
        have hi2 : g * 1 % n = b ^ e.toNat % n := by rw [← hi, show (0 : Int).toNat = 0 from rfl, Int.pow_zero]
        rw [Int.mul_one, Int.emod_eq_of_lt g0 g1] at hi2
        rw [hi2]
        exact q
noncomputable abbrev s_reqmark : Stmt := (top 35)
theorem sc_reqmark : FnScope ["way", "mark"] ["way", "mark"] (defScope s_reqmark) :=
  ⟨rfl, rfl, rfl, by decide +kernel, rfl, by decide +kernel, by decide +kernel⟩
theorem ok_reqmark {c : CA} (F : Dn K mg "require_mark" s_reqmark ["way", "mark"]) (T : Bt mg) (X : Kx K mg c) (c_isint : Cal P w K mg base 1 "is_integer" (spIsInt K) []) : Cal P w K mg base 2 "require_mark" (spReqMark c) [] := by
  refine F.cal sc_reqmark (fun vs H Q E h => ?_) (fun f cdv A outer s H vs Q E hr h => ?_)
  · obtain ⟨x, m, b, ps, y, rfl, _⟩ := h
    rfl
  · obtain ⟨x, m, b, ps, y, rfl, hw, m0, m1, q⟩ := h
    obtain ⟨dx, mm, k, hx, r⟩ := id hw
    refine ⟨_, (pss_one (ps_if (PW.pt (pw_or (pt_not (pt_val (pe_c c_isint hr (by decide) (by rfl) (pa_cons (pv 1) pa_nil)))) (pw_or1 (pt_not (pt_chain op_le op_lt pe_int (pv 1) (pe_fld (pv 0) rfl)))))) (pss_one ps_never) pss_nil)), ?_⟩
    walk_at "go"
    refine use_isInt ?_
    walk_at "go"
    refine iteF ?_
    walk_at "go"
    refine ite_d (fun _ => ?_) (fun h => absurd m0 h)
    walk_at "go"
    rw [decide_eq_true m1]
    refine iteF ?_
    walk_at "go"
    exact q
noncomputable abbrev s_reqlen : Stmt := (top 27)
theorem sc_reqlen : FnScope ["thing"] ["thing"] (defScope s_reqlen) :=
  ⟨rfl, rfl, rfl, by decide +kernel, rfl, by decide +kernel, by decide +kernel⟩
theorem ok_reqlen (F : Dn K mg "require_length" s_reqlen ["thing"]) (T : Bt mg) (c_isint : Cal P w K mg base 1 "is_integer" (spIsInt K) []) : Cal P w K mg base 2 "require_length" spReqLen [] := by
  refine F.cal sc_reqlen (fun vs H Q E h => ?_) (fun f cdv A outer s H vs Q E hr h => ?_)
  · obtain ⟨n, rfl, _⟩ := h
    rfl
  · obtain ⟨n, rfl, n0, q⟩ := h
    refine ⟨_, (pss_one (ps_if (PW.pt (pw_or (pt_not (pt_val (pe_c c_isint hr (by decide) (by rfl) (pa_cons (pv 0) pa_nil)))) (pw_or1 (pt_cmpR op_lt (pv 0) pe_int (nomark _))))) (pss_one ps_never) pss_nil)), ?_⟩
    walk_at "go"
    refine use_isInt ?_
    walk_at "go"
    refine iteF ?_
    walk_at "go"
    refine ite_d (fun h => by omega) (fun h => ?_)
    walk_at "go"
    exact q
noncomputable abbrev s_mod2 : Stmt := (top 71)
theorem sc_mod2 : FnScope ["_law_purse_here", "_law_most_here", "_law_found", "_law_size", "_law_prime", "_law_power"] ["_law_purse_here", "_law_most_here"] (defScope s_mod2) :=
  ⟨rfl, rfl, rfl, by decide +kernel, rfl, by decide +kernel, by decide +kernel⟩
theorem ok_mod2 (F : Dn K mg "_law_modulus" s_mod2 ["_law_purse_here", "_law_most_here"]) (T : Bt mg) (c_draw : Cal P w K mg base 2 "_law_draw" spDraw []) : Cal P w K mg base 3 "_law_modulus" spMod2 [] := by
  refine F.cal sc_mod2 (fun vs H Q E h => ?_) (fun f cdv A outer s H vs Q E hr h => ?_)
  · obtain ⟨a, n, c, rfl, _⟩ := h
    rfl
  · obtain ⟨a, n, c, rfl, n0, n1, hc, pu, q⟩ := h
    refine ⟨_, (pss_cons (ps_set (i := 2) sc_mod2.nd rfl (Or.inl rfl) (pe_lst pa_nil))
      (pss_cons (ps_set (i := 3) sc_mod2.nd rfl (Or.inl rfl) pe_int)
      (pss_cons (ps_for PassesOwn.never rfl (pi_list (pe_lst (pa_cons pe_int (pa_cons pe_int (pa_cons pe_int (pa_cons pe_int (pa_cons pe_int (pa_cons pe_int (pa_cons pe_int (pa_cons pe_int (pa_cons pe_int (pa_cons pe_int pa_nil)))))))))))) (pg_name (i := 4) sc_mod2.nd rfl (Or.inl rfl)) (pss_cons (ps_set (i := 5) sc_mod2.nd rfl (Or.inl rfl) pe_int)
      (pss_cons (ps_while PassesOwn.never (PW.pt (pw_and (pt_cmpR op_eq (pe_c c_draw hr (by decide) (by rfl) (pa_cons (pv 0) (pa_cons pe_int pa_nil))) pe_int (nomark _)) (pw_and1 (pt_cmpR op_le (pe_op oMul (pv 3) (pv 4)) (pv 1) (nomark _))))) (pss_cons (ps_set (i := 5) sc_mod2.nd rfl (Or.inl rfl) (pe_op op_add (pv 5) pe_int))
      (pss_one (ps_set (i := 3) sc_mod2.nd rfl (Or.inl rfl) (pe_op oMul (pv 3) (pv 4))))))
      (pss_one (ps_if (pt_cmpR op_gt (pv 5) pe_int (nomark _)) (pss_one (ps_expr (pe_bm PySem.F.plainAttrs_list PySem.F.slot_list_append PySem.F.type_list_append mt_append (pv 2) (pa_cons (pe_tup (pa_cons (pv 4) (pa_cons (pv 5) pa_nil))) pa_nil)))) pss_nil)))))
      (pss_one (ps_ret (pe_lst (pa_cons (pv 2) (pa_cons (pv 3) pa_nil)))))))), ?_⟩
    walk_at "go"
    refine alR pu fun fa H1 s1 u1 h1 m1 => ?_
    walk_at "go"
    refine alR u1 fun la H2 s2 u2 h2 m2 => ?_
    walk_at "go"
    have hla : rm fa (rm a H2) la = some (.lst (PL2.map V.int)) := rm_of (fun e => by rw [e, h1] at m2; cases m2) h2
    refine for_list (K := K) (a := la) (xs := PL2.map V.int) (fun i σ H' => ∃ (ts : List Addr) (ps : List (Int × Int)) (v4 v5 : Option V), σ = [some (.ref a), some (.int n), some (.ref fa), some (.int (num ps)), v4, v5] ∧ Same (rm a H) (rm fa (rm a H')) ∧ rm fa (rm a H') la = some (.lst (PL2.map V.int)) ∧ Purse H' a (c + i + num ps) ∧
        rm a H' fa = some (.lst (ts.map V.ref)) ∧ Paired (Tp (rm fa (rm a H'))) ps ts ∧ Asc 0 ps ∧ (ps.getLast?.map (·.1)).getD 0 < PL2.getD i 10000 ∧ (∀ q ∈ ps, 0 < q.1 ∧ q.1 < 1024 ∧ 0 < q.2 ∧ q.2 ≤ 100) ∧ ps.length ≤ i ∧ 1 ≤ num ps ∧ num ps ≤ n)
      ⟨[], [], none, none, rfl, rm_in m1 (by walk_at "same"), hla, u2.le (by show c ≤ c + ((0 : Nat) : Int) + 1; omega), hpL h1 (by walk_at "same"), .nil, trivial, by decide, (fun q hq => by cases hq), by simp, by decide, by show (1 : Int) ≤ n; omega⟩
      (fun i σ H' _ z => by obtain ⟨_, _, _, _, _, _, z, _⟩ := z; exact sq (rm_le _ _ (rm_le _ _ z))) ?_ ?_
    · rintro i x σ H3 hi ⟨ts, ps, v4, v5, rfl, s3, hla3, u3, hf3, hp, ha, hlast, hsm, hlen, hn1, hn2⟩
      obtain ⟨p, hpi, rfl⟩ := get_map hi
      have hi10 : i < 10 := (List.getElem?_eq_some_iff.mp hpi).1
      have hP := PL2_pr ⟨i, hi10⟩
      have ep : PL2.getD i 0 = p := by rw [List.getD_eq_getElem?_getD, hpi]; rfl
      have ep2 : PL2.getD i 10000 = p := by rw [List.getD_eq_getElem?_getD, hpi]; rfl
      dsimp only at hP
      rw [ep] at hP
      rw [ep2] at hlast
      obtain ⟨hpr, hp2, hp3, hnx⟩ := hP
      walk_at "go"
      refine while_m (fun m σ H' => ∃ (k : Nat), σ = [some (.ref a), some (.int n), some (.ref fa), some (.int (num ps * p ^ k)), some (.int p), some (.int k)] ∧ Same (rm a H3) (rm a H') ∧ Purse H' a (c + i + num ps * p ^ k) ∧ 1 ≤ num ps * p ^ k ∧ num ps * p ^ k ≤ n ∧ m = (n - num ps * p ^ k).toNat) _
        ⟨0, by rw [Int.pow_zero, Int.mul_one]; rfl, Same.refl _, u3.le (by rw [Int.pow_zero, Int.mul_one]; exact Int.le_refl _), by rw [Int.pow_zero, Int.mul_one]; exact hn1, by rw [Int.pow_zero, Int.mul_one]; exact hn2, rfl⟩ ?_
      rintro m σ H4 ⟨k, rfl, s4, u4, b1, b2, rfl⟩
      have hk10 := pow_small hp2 hn1 b2 n1
      walk_at "go"
      refine use_drawR u4 (by decide) (by decide) (by omega) fun r H5 r0 r1 s5 u5 => ?_
      walk_at "go"
      rw [decI]
      refine ite_d (fun hr => ?_) (fun hr => ?_)
      walk_at "go"
      refine ite_d (fun hs => ?_) (fun hs => ?_)
      · walk_at "go"
        have hgrow : num ps * p ^ k + 1 ≤ num ps * p ^ k * p := by
          have := Int.mul_le_mul_of_nonneg_left hp2 (show 0 ≤ num ps * p ^ k by omega)
          omega
        refine ⟨_, ?_, k + 1, by rw [Int.pow_succ, ← Int.mul_assoc]; rfl, by walk_at "same", u5.le ?_, ?_, ?_, rfl⟩
        · rw [Int.pow_succ, ← Int.mul_assoc]
          omega
        · rw [Int.pow_succ, ← Int.mul_assoc]
          omega
        · rw [Int.pow_succ, ← Int.mul_assoc]
          omega
        · rw [Int.pow_succ, ← Int.mul_assoc]
          exact hs
      all_goals
        try refine iteF ?_
        walk_at "go"
        refine ite_d (fun hk => ?_) (fun hk => ?_)
        · walk_at "go"
          refine alR u5 fun tq H6 s6 u6 h6 n6 => ?_
          walk_at "go"
          have h5f : rm a H5 fa = some (.lst (ts.map V.ref)) := by walk_at "hp"
          have ntq : tq ≠ fa := fun e => by rw [e, h5f] at n6; cases n6
          have hl2 : ps.length = ts.length := hp.length
          refine w_appendR u6 (xs := ts.map V.ref) (by walk_at "hp") (by rw [List.length_map]; have : (100000 : Nat) < sizeLine := (by decide); omega) fun H7 s7 u7 h7 => ?_
          walk_at "go"
          have hq7 : rm fa (rm a H7) tq = some (.tup [.int p, .int k]) := hpL (rm_of ntq h6) (by walk_at "same")
          have sG : Same (rm fa (rm a H3)) (rm fa (rm a H7)) := by walk_at "same"
          have en : num (ps ++ [(p, (k : Int))]) = num ps * p ^ k := by rw [num_snoc]; rfl
          refine ⟨ts ++ [tq], ps ++ [(p, (k : Int))], _, _, by rw [en], s3.trans sG, sG _ _ hla3, u7.le (by rw [en]; omega), by rw [h7, List.map_append]; rfl, Paired.snoc (paired_imp (fun _ _ z => sG _ _ z) hp) hq7, ha.snoc hlast (by show (0 : Int) < k; omega) hpr, ?_, ?_, ?_, by rw [en]; exact b1, by rw [en]; exact b2⟩
          · rw [List.getLast?_concat]
            exact hnx
          · intro q hq
            rcases List.mem_append.mp hq with h | h
            · exact hsm q h
            · have e : q = (p, (k : Int)) := by simpa using h
              subst e
              exact ⟨by show 0 < p; omega, hp3, by show (0 : Int) < k; omega, by show (k : Int) ≤ 100; omega⟩
          · rw [List.length_append]
            simp only [List.length_cons, List.length_nil]
            omega
        · have ek : k = 0 := by omega
          subst ek
          walk_at "go"
          rw [Int.pow_zero, Int.mul_one] at u5
          have sG : Same (rm fa (rm a H3)) (rm fa (rm a H5)) := by walk_at "same"
          exact ⟨ts, ps, _, _, by rw [Int.pow_zero, Int.mul_one], s3.trans sG, sG _ _ hla3, u5.le (by omega), by walk_at "hp", paired_imp (fun _ _ z => sG _ _ z) hp, ha, Int.lt_trans hlast hnx, hsm, by omega, hn1, hn2⟩
    · rintro σ H3 ⟨ts, ps, v4, v5, rfl, s3, hla3, u3, hf3, hp, ha, hlast, hsm, hlen, hn1, hn2⟩
      walk_at "go"
      refine alR u3 fun r H4 s4 u4 h4 n4 => ?_
      walk_at "go"
      have e10 : (PL2.map V.int).length = 10 := rfl
      rw [e10] at u4 hlen
      refine q r fa H4 ps (by walk_at "same") (u4.le (by omega)) h4 ⟨ts, by walk_at "hp", paired_imp (fun _ _ z => hpL z (by walk_at "same")) hp⟩ ha ⟨hsm, by omega⟩ hn2
noncomputable abbrev s_expin : Stmt := (top 51)
theorem sc_expin : FnScope ["number", "prime", "most", "found"] ["number", "prime", "most"] (defScope s_expin) :=
  ⟨rfl, rfl, rfl, by decide +kernel, rfl, by decide +kernel, by decide +kernel⟩
theorem ok_expin (F : Dn K mg "exponent_in" s_expin ["number", "prime", "most"]) (T : Bt mg) : Cal P w K mg base 1 "exponent_in" spExpIn [] := by
  refine F.cal sc_expin (fun vs H Q E h => ?_) (fun f cdv A outer s H vs Q E hr h => ?_)
  · obtain ⟨x, p, m, rfl, _⟩ := h
    rfl
  · obtain ⟨x, p, m, rfl, p2, p60, m0, q⟩ := h
    obtain ⟨m, rfl⟩ := Int.eq_ofNat_of_zero_le m0
    rw [Int.toNat_natCast] at q
    refine ⟨_, (pss_cons (ps_set (i := 3) sc_expin.nd rfl (Or.inl rfl) pe_int)
      (pss_cons (ps_while PassesOwn.never (PW.pt (pw_and (pt_cmpR op_lt (pv 3) (pv 2) (nomark _)) (pw_and1 (pt_cmpR op_eq (pe_op op_mod (pv 0) (pv 1)) pe_int (nomark _))))) (pss_cons (ps_set (i := 0) sc_expin.nd rfl (Or.inl rfl) (pe_op op_fdivW (pv 0) (pv 1)))
      (pss_one (ps_aug (i := 3) sc_expin.nd rfl (Or.inl rfl) pe_int ip_add))))
      (pss_one (ps_ret (pv 3))))), ?_⟩
    walk_at "go"
    refine while_m (fun k σ H' => ∃ (z : Int) (f : Nat), σ = [some (.int z), some (.int p), some (.int m), some (.int f)] ∧ H' = H ∧ f ≤ m ∧ f + vcap z p (m - f) = vcap x p m ∧ k = m - f) _ ⟨x, 0, rfl, rfl, Nat.zero_le _, by rw [Nat.zero_add, Nat.sub_zero], rfl⟩ ?_
    rintro k σ H' ⟨z, f, rfl, rfl, hf, hv, rfl⟩
    walk_at "go"
    refine ite_d (fun h1 => ?_) (fun h1 => ?_)
    walk_at "go"
    rw [decI]
    refine ite_d (fun h2 => ?_) (fun h2 => ?_)
    · obtain ⟨k, hk⟩ : ∃ k, m - f = k + 1 := ⟨m - f - 1, by omega⟩
      rw [hk, vcap_succ, if_pos h2] at hv
      walk_at "go"
      refine ⟨_, ?_, z / p, f + 1, by rw [Int.natCast_add]; rfl, rfl, by omega, ?_, rfl⟩
      · omega
      · rw [show m - (f + 1) = k by omega]
        omega
    · obtain ⟨k, hk⟩ : ∃ k, m - f = k + 1 := ⟨m - f - 1, by omega⟩
      rw [hk, vcap_succ, if_neg h2] at hv
      walk_at "go"
      rw [← hv] at q
      exact q
    · refine iteF ?_
      walk_at "go"
      rw [show m - f = 0 by omega, vcap_zero] at hv
      rw [← hv] at q
      exact q
noncomputable abbrev s_metfrom : Stmt := (top 52)
theorem sc_metfrom : FnScope ["way", "prime", "power", "stock", "in_base", "in_stock"] ["way", "prime", "power", "stock"] (defScope s_metfrom) :=
  ⟨rfl, rfl, rfl, by decide +kernel, rfl, by decide +kernel, by decide +kernel⟩
theorem ok_metfrom {c : CA} (F : Dn K mg "met_from" s_metfrom ["way", "prime", "power", "stock"]) (T : Bt mg) (X : Kx K mg c) (c_expin : Cal P w K mg base 1 "exponent_in" spExpIn []) : Cal P w K mg base 2 "met_from" (spMetFrom c) [] := by
  refine F.cal sc_metfrom (fun vs H Q E h => ?_) (fun f cdv A outer s H vs Q E hr h => ?_)
  · obtain ⟨x, A, b, q, ps, y, rfl, _⟩ := h
    rfl
  · obtain ⟨x, A, b, qq, ps, y, rfl, hw, p2, p3, k1, k2, q⟩ := h
    refine ⟨_, (pss_cons (ps_set (i := 4) sc_metfrom.nd rfl (Or.inl rfl) (pe_c c_expin hr (by decide) (by rfl) (pa_cons (pe_fld (pv 0) rfl) (pa_cons (pv 1) (pa_cons (pv 2) pa_nil)))))
      (pss_cons (ps_set (i := 5) sc_metfrom.nd rfl (Or.inl rfl) (pe_c c_expin hr (by decide) (by rfl) (pa_cons (pv 3) (pa_cons (pv 1) (pa_cons (pv 2) pa_nil)))))
      (pss_cons (ps_if (pt_cmpR op_le (pv 2) (pv 5) (nomark _)) (pss_one (ps_ret pe_int)) pss_nil)
      (pss_cons (ps_if (pt_chain op_le op_le pe_int (pv 4) (pv 5)) (pss_one (ps_ret (pe_op op_add pe_int (pe_op op_fdivW (pe_op op_sub (pe_op op_add (pe_op op_sub (pv 2) (pv 5)) (pv 4)) pe_int) (pv 4))))) pss_nil)
      (pss_one (ps_ret pe_non)))))), ?_⟩
    walk_at "go"
    refine ⟨_, _, _, rfl, p2, by omega, by omega, ?_⟩
    walk_at "go"
    refine ⟨_, _, _, rfl, p2, by omega, by omega, ?_⟩
    unfold metR metF at q
    have hv1 := vcap_le qq.1 qq.2.toNat b
    generalize vcap b qq.1 qq.2.toNat = be at q hv1
    generalize vcap A qq.1 qq.2.toNat = al at q
    walk_at "go"
    refine ite_d (fun h1 => ?_) (fun h1 => ?_)
    · rw [if_pos (by omega)] at q
      walk_at "go"
      exact q
    · rw [if_neg (by omega)] at q
      walk_at "go"
      refine ite_d (fun h2 => ?_) (fun h2 => ?_)
      walk_at "go"
      refine ite_d (fun h3 => ?_) (fun h3 => ?_)
      · rw [if_pos (by omega)] at q
        walk_at "go"
        have e : 1 + (qq.2 - (al : Int) + be - 1) / (be : Int) = ((1 + (qq.2.toNat - al + be - 1) / be : Nat) : Int) := by
          rw [Int.natCast_add, Int.natCast_ediv]
          congr 2
          omega
        rw [e]
        exact q
      · rw [if_neg (by omega)] at q
        walk_at "go"
        exact q
      · rw [if_neg (by omega)] at q
        walk_at "go"
        refine iteF ?_
        walk_at "go"
        exact q
noncomputable abbrev s_evenfrom : Stmt := (top 53)
theorem sc_evenfrom : FnScope ["way", "stock", "lengths", "prime", "power", "found", "length"] ["way", "stock"] (defScope s_evenfrom) :=
  ⟨rfl, rfl, rfl, by decide +kernel, rfl, by decide +kernel, by decide +kernel⟩
theorem ok_evenfrom {c : CA} {f : Addr} {fd : FuncData} (F : FunD K "even_from" "even_from" (defArgs s_evenfrom) (defBody s_evenfrom) (defScope s_evenfrom) [] [] f fd) (T : Bt mg) (X : Kx K mg c) (c_reqway : Cal P w K mg base 1 "require_way" (spReqWay c) []) (c_reqstock : Cal P w K mg base 2 "require_stock" spReqStock []) (c_metfrom : Cal P w K mg base 2 "met_from" (spMetFrom c) []) : FnOk P w K mg base L2.CX0 3 f fd ["way", "stock"] (spEvenFrom c) := by
  refine fnD_ok F sc_evenfrom (fun vs H Q E h => ?_) (fun cdv A outer s H vs Q E hr h => ?_)
  · obtain ⟨x, A, b, ps, y, rfl, _⟩ := h
    rfl
  · obtain ⟨x, A, b, ps, y, rfl, hw, A1, q⟩ := h
    obtain ⟨ha, hs⟩ := hw.facs
    refine ⟨_, (pss_cons (ps_expr (pe_c c_reqway hr (by decide) (by rfl) (pa_cons (pv 0) pa_nil)))
      (pss_cons (ps_expr (pe_c c_reqstock hr (by decide) (by rfl) (pa_cons (pv 1) pa_nil)))
      (pss_cons (ps_setLc (i := 2) (own := [("prime", 3), ("power", 4)]) (g := gTup _ 2 (gCons (gName 3) (gCons (gName 4) gNil))) (tt := tYes) (te := (tCall _ _ _ (tCons (tVar 0) (tCons (tVar 3) (tCons (tVar 4) (tCons (tVar 1) tNil)))))) rfl sc_evenfrom.nd rfl rfl (sw_true rfl rfl rfl (by decide +kernel)) (pi_tup (pe_fld (pe_fld (pv 0) rfl) rfl)) (blkOk_by (own := [("prime", 3), ("power", 4)]) (N := ["way", "stock", "lengths", "prime", "power", "found", "length"]) (sc := defScope s_evenfrom) (by decide +kernel)) (fun _ _ _ _ _ => (pg_tup rfl (pgs_cons (pg_name (i := 3) sc_evenfrom.nd rfl (Or.inl rfl)) (pgs_cons (pg_name (i := 4) sc_evenfrom.nd rfl (Or.inl rfl)) pgs_nil)))) (fun _ _ _ _ _ => pts_nil) (fun _ _ _ _ _ => (pe_c c_metfrom hr (by decide) (by rfl) (pa_cons (pv 0) (pa_cons (pv 3) (pa_cons (pv 4) (pa_cons (pv 1) pa_nil)))))))
      (pss_cons (ps_if (pt_cmpR op_in_seq pe_non (pv 2) (by rfl)) (pss_one (ps_ret pe_non)) pss_nil)
      (pss_cons (ps_set (i := 5) sc_evenfrom.nd rfl (Or.inl rfl) pe_int)
      (pss_cons (ps_for PassesOwn.never rfl (pi_list (pv 2)) (pg_name (i := 6) sc_evenfrom.nd rfl (Or.inl rfl)) (pss_one (ps_if (pt_cmpR op_gt (pv 6) (pv 5) (nomark _)) (pss_one (ps_set (i := 5) sc_evenfrom.nd rfl (Or.inl rfl) (pv 6))) pss_nil)))
      (pss_one (ps_ret (pv 5))))))))), ?_⟩
    walk_at "go"
    refine use_reqway hw ?_
    walk_at "go"
    refine ⟨A, rfl, A1, ?_⟩
    walk_at "go"
    intro D hD
    rename_i m0 hm0 t0 ts0 ht0 hp0
    have hlen : (ps.map fun q => ((V.int q.1, V.int q.2) : V × V)).length ≤ 100000 := by rw [List.length_map]; have := hs.2; omega
    refine lc_pairs (ps.map fun q => ((V.int q.1, V.int q.2) : V × V)) ts0 (fun _ => true) (fun q => match q with | (.int p, .int k) => optV (metR b A (p, k)) | _ => .non) walk_tup (paired_map hp0) hD (fun H' sm => sqt (sm _ _ ht0)) hlen (fun _ _ => rfl) ?_ ?_ ?_
    · intro n q H' hq sm Q' q'
      exact q' _ (Same.refl _)
    · intro n q H' hq _ sm Q' q'
      obtain ⟨pk, hpk, rfl⟩ := get_map' hq
      have hmem := List.mem_of_getElem? hpk
      have h1 := hs.1 pk hmem
      have h2 := two_of ha hmem
      walk_at "go"
      refine ⟨x, A, b, pk, ps, y, rfl, by walk_at "hp", h2, h1.2.1, h1.2.2.1, h1.2.2.2, ?_⟩
      exact q' _ (Same.refl _)
    · intro H1 s1 hD1
      rw [List.filter_eq_self.mpr (fun _ _ => rfl), List.map_map, show ((fun q => match q with | (V.int p, V.int k) => optV (metR b A (p, k)) | _ => V.non) ∘ fun q : Int × Int => ((V.int q.1, V.int q.2) : V × V)) = fun q => optV (metR b A q) from rfl, show (ps.map fun q => optV (metR b A q)) = (ps.map (metR b A)).map optV by rw [List.map_map]; rfl] at hD1
      generalize ps.map (metR b A) = ls at hD1 q
      have hll : ls.length ≤ ls.length := Nat.le_refl _
      unfold evenF at q
      walk_at "go"
      refine w_inN (by walk_at "hp") ?_
      walk_at "go"
      refine ite_d (fun hn => ?_) (fun hn => ?_)
      · rw [if_pos hn] at q
        walk_at "go"
        exact q _ s1
      · rw [if_neg hn] at q
        walk_at "go"
        refine for_list (K := K) (a := D) (xs := ls.map optV) (fun i σ H' => ∃ (v3 v4 v6 : Option V), σ = [some (.ref x), some (.int A), some (.ref D), v3, v4, some (.int ((ls.take i).foldl (fun m l => max m (l.getD 0)) 0 : Nat)), v6] ∧ H' = H1) ⟨_, _, _, rfl, rfl⟩ (fun i σ H' _ z => by obtain ⟨_, _, _, _, rfl⟩ := z; exact sq hD1) ?_ ?_
        · rintro i v σ H' hi ⟨v3, v4, v6, rfl, rfl⟩
          obtain ⟨o, ho, rfl⟩ := get_map hi
          cases o with
          | none => exact absurd (List.mem_of_getElem? ho) hn
          | some e =>
            dsimp only [optV]
            have hf := foldl_take (f := fun (m : Nat) (l : Option Nat) => max m (l.getD 0)) (b := 0) ho
            walk_at "go"
            generalize (ls.take i).foldl (fun m l => max m (l.getD 0)) 0 = m at hf
            refine ite_d (fun h1 => ?_) (fun h1 => ?_)
            · walk_at "go"
              refine ⟨_, _, _, by rw [hf, Nat.max_eq_right (show m ≤ (some e).getD 0 from by show m ≤ e; omega)]; rfl, rfl⟩
            · walk_at "go"
              refine ⟨_, _, _, by rw [hf, Nat.max_eq_left (show (some e).getD 0 ≤ m from by show e ≤ m; omega)]; rfl, rfl⟩
        · rintro σ H' ⟨v3, v4, v6, rfl, rfl⟩
          rw [List.length_map, List.take_length]
          walk_at "go"
          exact q _ s1
noncomputable abbrev s_countsof : Stmt := (top 55)
theorem sc_countsof : FnScope ["way", "stock", "length", "found", "turn", "ahead", "rest", "count", "letter"] ["way", "stock", "length"] (defScope s_countsof) :=
  ⟨rfl, rfl, rfl, by decide +kernel, rfl, by decide +kernel, by decide +kernel⟩
theorem ok_countsof {c : CA} (F : Dn K mg "counts_of" s_countsof ["way", "stock", "length"]) (T : Bt mg) (X : Kx K mg c) : Cal P w K mg base 1 "counts_of" (spCounts c) [] := by
  refine F.cal sc_countsof (fun vs H Q E h => ?_) (fun f cdv A outer s H vs Q E hr h => ?_)
  · obtain ⟨x, A, n, b, ps, y, rfl, _⟩ := h
    rfl
  · obtain ⟨x, A, n, b, ps, y, rfl, hw, hN2, A1, A2, n0, n1, q⟩ := h
    have hN := num_pos hw.facs.2
    have hb0 : 0 ≤ b ∧ b < num ps := by
      obtain ⟨_, _, _, _, _, _, h1, h2⟩ := hw
      exact ⟨h1, h2⟩
    have ix := fun z : Int => ix_lt hN z
    refine ⟨_, (pss_cons (ps_set (i := 3) sc_countsof.nd rfl (Or.inl rfl) (pe_op op_rep (pe_lst (pa_cons pe_int pa_nil)) (pe_fld (pv 0) rfl)))
      (pss_cons (ps_asg pe_int (pg_sub (pv 3) (pe_op op_mod (pe_callTy cInt1 (by rfl) T.int (by decide +kernel) (pa_cons (pe_fld (pe_fld (pv 0) rfl) rfl) pa_nil)) (pe_fld (pv 0) rfl)) set_list))
      (pss_cons (ps_for PassesOwn.never rfl (pi_range1 (by rfl) T.range (pa_cons (pv 2) pa_nil)) (pg_name (i := 4) sc_countsof.nd rfl (Or.inl rfl)) (pss_cons (ps_set (i := 5) sc_countsof.nd rfl (Or.inl rfl) (pe_op op_rep (pe_lst (pa_cons pe_int pa_nil)) (pe_fld (pv 0) rfl)))
      (pss_cons (ps_for PassesOwn.never rfl (pi_enum (by rfl) T.enumerate (pa_cons (pv 3) pa_nil)) (pg_tup rfl (pgs_cons (pg_name (i := 6) sc_countsof.nd rfl (Or.inl rfl)) (pgs_cons (pg_name (i := 7) sc_countsof.nd rfl (Or.inl rfl)) pgs_nil))) (pss_one (ps_for PassesOwn.never rfl (pi_range1 (by rfl) T.range (pa_cons (pv 1) pa_nil)) (pg_name (i := 8) sc_countsof.nd rfl (Or.inl rfl)) (pss_one (ps_augS (pv 5) (pe_op op_mod (pe_op op_add (pe_op op_add (pe_op oMul (pv 6) (pe_fld (pv 0) rfl)) (pv 8)) (pe_fld (pe_fld (pv 0) rfl) rfl)) (pe_fld (pv 0) rfl)) get_list (pv 7) ip_add set_list)))))
      (pss_one (ps_set (i := 3) sc_countsof.nd rfl (Or.inl rfl) (pv 5))))))
      (pss_one (ps_ret (pv 3)))))), ?_⟩
    walk_at "go"
    refine al fun p0 H0 _ s0 h0 => ?_
    walk_at "go"
    refine w_rep (xs := [.int 0]) h0 ⟨by omega, by omega, sz (by simp only [List.length_cons, List.length_nil]; omega)⟩ (al fun D H1 n1' s1 h1 => ?_)
    rw [rep00] at h1
    have nD : H D = none := s0.free n1'
    have S1 : Same H H1 := s0.trans s1
    clear s0 s1 n1' h0
    walk_at "go"
    refine w_setL (j := ((if y.lead = true then 1 else 0 : Int) % num ps).toNat) h1 ?_ ?_
    · have h3 := ix (if y.lead = true then 1 else 0)
      have h4 := Int.emod_nonneg (if y.lead = true then 1 else 0 : Int) (show num ps ≠ 0 by omega)
      unfold ixN
      rw [if_pos h4, List.length_map, List.length_replicate, if_pos (by omega)]
    walk_at "go"
    refine for_range (lo := 0) (n := n.toNat) (fun i σ H' => ∃ (D : Addr) (v4 v5 v6 v7 v8 : Option V), σ = [some (.ref x), some (.int A), some (.int n), some (.ref D), v4, v5, v6, v7, v8] ∧ H D = none ∧ Same H H' ∧ H' D = some (.lst ((cnt (num ps) b y.shift (ld y) A.toNat i).map V.int)))
      ⟨D, _, _, _, _, _, rfl, nD, same_apC nD S1, by rw [L2.upd_same, Bc.cnt, List.map_set]; rfl⟩ ?_ ?_
    · rintro i σ H2 hi ⟨D, v4, v5, v6, v7, v8, rfl, nD, s2, h2⟩
      have hxl := cnt_len (num ps) b y.shift (ld y) A.toNat i
      have ecnt : cnt (num ps) b y.shift (ld y) A.toNat (i + 1) = cOut (num ps) b y.shift A.toNat (cnt (num ps) b y.shift (ld y) A.toNat i) (num ps).toNat := rfl
      generalize cnt (num ps) b y.shift (ld y) A.toNat i = xs at h2 hxl ecnt
      walk_at "go"
      refine al fun p3 H3 _ s3 h3 => ?_
      walk_at "go"
      refine w_rep (xs := [.int 0]) h3 ⟨by omega, by omega, sz (by simp only [List.length_cons, List.length_nil]; omega)⟩ (al fun B H4 n4 s4 h4 => ?_)
      rw [rep00] at h4
      have S4 : Same H2 H4 := s3.trans s4
      have nB : H2 B = none := s3.free n4
      clear s3 s4 n4 h3
      walk_at "go"
      refine w_enumi (sq (S4 _ _ h2)) ?_
      refine for_it (walk_enum (xs := xs.map V.int)) (fun r σ H' => ∃ (v6 v7 v8 : Option V), σ = [some (.ref x), some (.int A), some (.int n), some (.ref D), some (.int (0 + (i : Int))), some (.ref B), v6, v7, v8] ∧ Same H2 H' ∧ H' B = some (.lst ((cOut (num ps) b y.shift A.toNat xs r).map V.int)))
        ⟨_, _, _, rfl, S4, h4⟩ (fun i σ H' _ z => by obtain ⟨_, _, _, _, z, _⟩ := z; exact sq (z _ _ h2)) ?_ ?_
      · rintro r yv σ H5 H6 hr5 ⟨v6, v7, v8, rfl, s5, h5⟩ ⟨t, z1, z2, rfl, nt, rfl, g1, g2⟩
        cases g1
        obtain ⟨z, hz, rfl⟩ := get_map g2
        rw [List.length_map] at hr5
        refine w_gtup (sqt upd_same) rfl ?_
        have s6 : Same H5 (upd H5 t (.tup [.int (r : Nat), .int z])) := Same.new nt
        generalize upd H5 t (.tup [.int (r : Nat), .int z]) = H6 at s6 ⊢
        have S6 := s5.trans s6
        have h6 := s6 _ _ h5
        clear s6 s5 h5
        have eout := cOut_succ (num ps) b y.shift A.toNat xs r
        have hol := cOut_len (num ps) b y.shift A.toNat xs r
        have ez : xs.getD r 0 = z := by rw [List.getD_eq_getElem?_getD, hz]; rfl
        rw [ez] at eout
        generalize cOut (num ps) b y.shift A.toNat xs r = ys at h6 eout hol
        walk_at "go"
        refine for_range (lo := 0) (n := A.toNat) (fun l σ H' => ∃ (v8 : Option V), σ = [some (.ref x), some (.int A), some (.int n), some (.ref D), some (.int (0 + (i : Int))), some (.ref B), some (.int (r : Nat)), some (.int z), v8] ∧ Same H2 H' ∧ H' B = some (.lst ((cIn (num ps) b y.shift r z l ys).map V.int)))
          ⟨_, rfl, S6, h6⟩ ?_ ?_
        · rintro l σ H7 hl ⟨v8, rfl, s7, h7⟩
          have ein := cIn_succ (num ps) b y.shift r z l ys
          have hil := cIn_len (num ps) b y.shift r z ys l
          generalize cIn (num ps) b y.shift r z l ys = us at h7 ein hil
          have hw7 := hw.same (s2.trans s7)
          have h3 := ix ((r : Int) * b + l + y.shift)
          have h4 := Int.emod_nonneg ((r : Int) * b + l + y.shift) (show num ps ≠ 0 by omega)
          have hul : ((r : Int) * b + l + y.shift) % num ps < us.length := by omega
          rw [show ((r : Nat) : Int) * b + (l : Int) + y.shift = (r : Nat) * b + (0 + (l : Int)) + y.shift by omega] at h3 h4 hul ein
          walk_at "go"
          refine w_ixL (xs := us.map V.int) (sq h7) (atI_map (x := us.getD ((((r : Nat) * b + (0 + (l : Int)) + y.shift) % num ps).toNat) 0) h4 ?_) ?_
          · rw [List.getD_eq_getElem?_getD, List.getElem?_eq_getElem (by omega)]
            rfl
          walk_at "go"
          refine w_setL (j := (((r : Nat) * b + (0 + (l : Int)) + y.shift) % num ps).toNat) h7 ?_ ?_
          · unfold ixN
            rw [if_pos h4, List.length_map, if_pos hul]
          walk_at "go"
          refine ⟨_, rfl, same_apC nB s7, ?_⟩
          rw [upd_same, ein, Bc.bump, List.map_set]
        · rintro σ H7 ⟨v8, rfl, s7, h7⟩
          walk_at "go"
          exact ⟨_, _, _, rfl, s7, by rw [eout]; exact h7⟩
      · rintro σ H5 ⟨v6, v7, v8, rfl, s5, h5⟩
        walk_at "go"
        rw [List.length_map, hxl, ← ecnt] at h5
        exact ⟨B, _, _, _, _, _, rfl, s2.free nB, s2.trans s5, h5⟩
    · rintro σ H2 ⟨D, v4, v5, v6, v7, v8, rfl, nD, s2, h2⟩
      walk_at "go"
      exact q H2 D nD s2 h2
noncomputable abbrev s_markcounts : Stmt := (top 54)
theorem sc_markcounts : FnScope ["way", "stock", "length"] ["way", "stock", "length"] (defScope s_markcounts) :=
  ⟨rfl, rfl, rfl, by decide +kernel, rfl, by decide +kernel, by decide +kernel⟩
theorem ok_markcounts {c : CA} {f : Addr} {fd : FuncData} (F : FunD K "mark_counts" "mark_counts" (defArgs s_markcounts) (defBody s_markcounts) (defScope s_markcounts) [] [] f fd) (T : Bt mg) (X : Kx K mg c) (c_reqway : Cal P w K mg base 1 "require_way" (spReqWay c) []) (c_reqstock : Cal P w K mg base 2 "require_stock" spReqStock []) (c_reqlen : Cal P w K mg base 2 "require_length" spReqLen []) (c_countsof : Cal P w K mg base 1 "counts_of" (spCounts c) []) :
    FnOk P w K mg base L2.CX0 3 f fd ["way", "stock", "length"] (spCounts c) := by
  refine fnD_ok F sc_markcounts (fun vs H Q E h => ?_) (fun cdv A outer s H vs Q E hr h => ?_)
  · obtain ⟨x, A, n, b, ps, y, rfl, _⟩ := h
    rfl
  · obtain ⟨x, A, n, b, ps, y, rfl, hw, hN2, A1, A2, n0, n1, q⟩ := h
    refine ⟨_, (pss_cons (ps_expr (pe_c c_reqway hr (by decide) (by rfl) (pa_cons (pv 0) pa_nil)))
      (pss_cons (ps_expr (pe_c c_reqstock hr (by decide) (by rfl) (pa_cons (pv 1) pa_nil)))
      (pss_cons (ps_expr (pe_c c_reqlen hr (by decide) (by rfl) (pa_cons (pv 2) pa_nil)))
      (pss_one (ps_ret (pe_c c_countsof hr (by decide) (by rfl) (pa_cons (pv 0) (pa_cons (pv 1) (pa_cons (pv 2) pa_nil))))))))), ?_⟩
    walk_at "go"
    refine use_reqway hw ?_
    walk_at "go"
    refine ⟨A, rfl, A1, ?_⟩
    walk_at "go"
    refine ⟨n, rfl, n0, ?_⟩
    walk_at "go"
    refine ⟨x, A, n, b, ps, y, rfl, hw, hN2, A1, A2, n0, n1, fun H1 l n1 s1 h1 => ?_⟩
    walk_at "go"
    exact q H1 l n1 s1 h1
noncomputable abbrev s_wtsof : Stmt := (top 58)
theorem sc_wtsof : FnScope ["way", "length", "found", "place"] ["way", "length"] (defScope s_wtsof) :=
  ⟨rfl, rfl, rfl, by decide +kernel, rfl, by decide +kernel, by decide +kernel⟩
theorem ok_wtsof {c : CA} (F : Dn K mg "weights_of" s_wtsof ["way", "length"]) (T : Bt mg) (X : Kx K mg c) (c_power : Cal P w K mg base 1 "power_rest" spPower []) : Cal P w K mg base 2 "weights_of" (spWts c) [] := by
  refine F.cal sc_wtsof (fun vs H Q E h => ?_) (fun f cdv A outer s H vs Q E hr h => ?_)
  · obtain ⟨x, n, b, ps, y, rfl, _⟩ := h
    rfl
  · obtain ⟨x, n, b, ps, y, rfl, hw, hN2, hn, q⟩ := h
    have hN := num_pos hw.facs.2
    refine ⟨_, (pss_cons (ps_setLc (i := 2) (own := [("place", 3)]) (g := gName 3) (tt := tYes) (te := (tCall _ _ _ (tCons (tFld K (tVar 0) "base") (tCons (tVar 3) (tCons (tFld K (tVar 0) "number") tNil))))) rfl sc_wtsof.nd rfl rfl (sw_true rfl rfl rfl (by decide +kernel)) (pi_range1 (by rfl) T.range (pa_cons (pv 1) pa_nil)) (blkOk_by (own := [("place", 3)]) (N := ["way", "length", "found", "place"]) (sc := defScope s_wtsof) (by decide +kernel)) (fun _ _ _ _ _ => (pg_name (i := 3) sc_wtsof.nd rfl (Or.inl rfl))) (fun _ _ _ _ _ => pts_nil) (fun _ _ _ _ _ => (pe_c c_power hr (by decide) (by rfl) (pa_cons (pe_fld (pv 0) rfl) (pa_cons (pv 3) (pa_cons (pe_fld (pv 0) rfl) pa_nil))))))
      (pss_one (ps_ret (pe_ifExp (pt_val (pe_fld (pe_fld (pv 0) rfl) rfl)) (pv 2) (pe_revL (pv 2)))))), ?_⟩
    walk_at "go"
    intro D hD
    refine lc_pure ((List.range (n : Int).toNat).map fun i : Nat => V.int (0 + (i : Int))) (((List.range n).map fun i : Nat => b ^ i % num ps).map V.int) walk_rangeY hD (fun _ _ => trivial) (by simp) (by simp; omega) (fun _ => rfl) ?_ ?_
    · intro i u z H' hu hz sm Q' q'
      have hi : i < n := by
        have := (List.getElem?_eq_some_iff.mp hu).1
        rw [List.length_map, List.length_range] at this
        omega
      rw [List.getElem?_map, List.getElem?_range (by omega)] at hu
      rw [List.map_map, List.getElem?_map, List.getElem?_range hi] at hz
      cases hu
      cases hz
      walk_at "go"
      refine ⟨_, _, _, 11, rfl, by omega, by omega, hN, by omega, by omega, ?_⟩
      rw [show (0 + (i : Int)).toNat = i by omega]
      exact q' _ (Same.refl _)
    · intro H1 s1 hD1
      walk_at "go"
      cases hlow : y.low with
      | true =>
        refine iteT ?_
        walk_at "go"
        refine q H1 D s1 ?_
        unfold wts
        rw [hlow, if_pos rfl]
        exact hD1
      | false =>
        refine iteF ?_
        walk_at "go"
        refine w_revi (sq hD1) fun e he => ?_
        walk_at "go"
        refine q _ e (s1.trans (Same.new he)) ?_
        unfold wts
        rw [hlow, if_neg (by decide), L2.upd_same, map_rev]
noncomputable abbrev s_summ : Stmt := (inClass (top 59) 1)
theorem sc_summ : FnScope ["self", "weight", "letter"] ["self", "weight", "letter"] (defScope s_summ) :=
  ⟨rfl, rfl, rfl, by decide +kernel, rfl, by decide +kernel, by decide +kernel⟩
theorem ok_summ {c : CA} {Cs : Addr} {f : Addr} {fd : FuncData} (F : FunD K "summand" "Sorted.summand" (defArgs s_summ) (defBody s_summ) (defScope s_summ) [] [] f fd) (T : Bt mg) (X : Kx K mg c) (S : Ks K mg Cs) :
    FnOk P w K mg base L2.CX0 1 f fd ["self", "weight", "letter"] (spSummand c Cs) := by
  refine fnD_ok F sc_summ (fun vs H Q E h => ?_) (fun cdv A outer s H vs Q E hr h => ?_)
  · obtain ⟨o, dx, x, fs, w, l, b, ps, y, rfl, _⟩ := h
    rfl
  · obtain ⟨o, dx, x, fs, w, l, b, ps, y, rfl, ho, hway, hw, hN2, w0, w1, q⟩ := h
    have hN := num_pos hw.facs.2
    refine ⟨_, (pss_one (ps_ret (pe_op op_mod (pe_op oMul (pe_op op_add (pv 2) (pe_fld (pe_fld (pe_fld (pv 0) rfl) rfl) rfl)) (pv 1)) (pe_fld (pe_fld (pv 0) rfl) rfl)))), ?_⟩
    walk_at "go"
    refine w_fldi ho S.cl.cl S.way hway ?_
    walk_at "go"
    refine w_fldi ho S.cl.cl S.way hway ?_
    walk_at "go"
    exact q
noncomputable abbrev s_ahead : Stmt := (inClass (top 59) 2)
theorem sc_ahead : FnScope ["self", "weight", "counts", "found", "letter", "added", "rest", "count"] ["self", "weight", "counts"] (defScope s_ahead) :=
  ⟨rfl, rfl, rfl, by decide +kernel, rfl, by decide +kernel, by decide +kernel⟩
theorem ok_ahead {c : CA} {Cs : Addr} {f : Addr} {fd : FuncData} (F : FunD K "counted_ahead" "Sorted.counted_ahead" (defArgs s_ahead) (defBody s_ahead) (defScope s_ahead) [] [] f fd) (T : Bt mg) (X : Kx K mg c) (S : Ks K mg Cs) (c_summ : Met P w K mg base 1 Cs "summand" (spSummand c Cs) []) :
    FnOk P w K mg base L2.CX0 2 f fd ["self", "weight", "counts"] (spAhead c Cs) := by
  refine fnD_ok F sc_ahead (fun vs H Q E h => ?_) (fun cdv A outer s H vs Q E hr h => ?_)
  · obtain ⟨o, dx, x, p, fs, w, A, b, ps, y, ws, rfl, _⟩ := h
    rfl
  · obtain ⟨o, dx, x, p, fs, w, A, b, ps, y, ws, rfl, ho, hway, hstock, hsum, hw, hN2, A1, A2, w0, w1, ⟨xs, hp, hxl, hxs⟩, q⟩ := h
    have hN := num_pos hw.facs.2
    have ix := fun z : Int => ix_lt hN z
    refine ⟨_, (pss_cons (ps_set (i := 3) sc_ahead.nd rfl (Or.inl rfl) (pe_op op_rep (pe_lst (pa_cons pe_int pa_nil)) (pe_fld (pe_fld (pv 0) rfl) rfl)))
      (pss_cons (ps_for PassesOwn.never rfl (pi_range1 (by rfl) T.range (pa_cons (pe_fld (pv 0) rfl) pa_nil)) (pg_name (i := 4) sc_ahead.nd rfl (Or.inl rfl)) (pss_cons (ps_set (i := 5) sc_ahead.nd rfl (Or.inl rfl) (pe_mt c_summ hr (by decide) (pv 0) (pa_cons (pv 1) (pa_cons (pv 4) pa_nil))))
      (pss_one (ps_for PassesOwn.never rfl (pi_enum (by rfl) T.enumerate (pa_cons (pv 2) pa_nil)) (pg_tup rfl (pgs_cons (pg_name (i := 6) sc_ahead.nd rfl (Or.inl rfl)) (pgs_cons (pg_name (i := 7) sc_ahead.nd rfl (Or.inl rfl)) pgs_nil))) (pss_one (ps_augS (pv 3) (pe_op op_mod (pe_op op_add (pv 6) (pv 5)) (pe_fld (pe_fld (pv 0) rfl) rfl)) get_list (pv 7) ip_add set_list))))))
      (pss_one (ps_ret (pv 3))))), ?_⟩
    walk_at "go"
    refine al fun p0 H0 _ s0 h0 => ?_
    walk_at "go"
    refine w_fldi (s0 _ _ ho) S.cl.cl S.way hway ?_
    walk_at "go"
    refine w_rep (xs := [.int 0]) h0 ⟨by omega, by omega, sz (by simp only [List.length_cons, List.length_nil]; omega)⟩ (al fun D H1 n1 s1 h1 => ?_)
    rw [rep00] at h1
    have nD : H D = none := s0.free n1
    have S1 : Same H H1 := s0.trans s1
    clear s0 s1 n1 h0
    walk_at "go"
    refine w_fldi (S1 _ _ ho) S.cl.cl S.stock hstock ?_
    walk_at "go"
    refine for_range (lo := 0) (n := A.toNat) (fun l σ H' => ∃ (ys : List Int) (v4 v5 v6 v7 : Option V), σ = [some (.ref o), some (.int w), some (.ref p), some (.ref D), v4, v5, v6, v7] ∧ Same H H' ∧ H' D = some (.lst (ys.map V.int)) ∧ ys.length = (num ps).toNat ∧ ∀ i, i < (num ps).toNat → ys.getD i 0 = sig l fun k => Gw (num ps) A.toNat y.shift ws ((i : Int) - ((k : Int) + y.shift) * w))
      ⟨_, none, none, none, none, rfl, S1, h1, by rw [List.length_replicate], fun i _ => by rw [getD_rep]; rfl⟩ ?_ ?_
    · rintro l σ H2 hl ⟨ys, v4, v5, v6, v7, rfl, s2, h2, hyl, hys⟩
      walk_at "go"
      refine w_methi (s2 _ _ ho) hsum ?_
      walk_at "go"
      refine ⟨o, dx, x, fs, w, _, b, ps, y, rfl, s2 _ _ ho, hway, by walk_at "hp", hN2, w0, w1, ?_⟩
      have hadd0 := Int.emod_nonneg ((0 + (l : Int) + y.shift) * w) (show num ps ≠ 0 by omega)
      obtain ⟨ad, had⟩ : ∃ ad, ad = (0 + (l : Int) + y.shift) * w % num ps := ⟨_, rfl⟩
      rw [← had] at hadd0 ⊢
      walk_at "go"
      refine w_enumi (sq (s2 _ _ hp)) ?_
      refine for_it (walk_enum (xs := xs.map V.int)) (fun r σ H' => ∃ (us : List Int) (v6 v7 : Option V), σ = [some (.ref o), some (.int w), some (.ref p), some (.ref D), some (.int (0 + (l : Int))), some (.int ad), v6, v7] ∧ Same H H' ∧ H' D = some (.lst (us.map V.int)) ∧ us.length = (num ps).toNat ∧ ∀ i, us.getD i 0 = ys.getD i 0 + sig r fun k => if (((k : Int) + ad) % num ps).toNat = i then xs.getD k 0 else 0)
        ⟨ys, _, _, rfl, s2, h2, hyl, fun i => by rw [sig, Int.add_zero]⟩ (fun i σ H' _ z => by obtain ⟨_, _, _, _, z, _⟩ := z; exact sq (z _ _ hp)) ?_ ?_
      · rintro r yv σ H5 H6 hr5 ⟨us, v6, v7, rfl, s5, h5, hul, hus⟩ ⟨t, z1, z2, rfl, nt, rfl, g1, g2⟩
        cases g1
        obtain ⟨z, hz, rfl⟩ := get_map g2
        rw [List.length_map] at hr5
        refine w_gtup (sqt upd_same) rfl ?_
        have s6 : Same H5 (upd H5 t (.tup [.int (r : Nat), .int z])) := Same.new nt
        generalize upd H5 t (.tup [.int (r : Nat), .int z]) = H6 at s6 ⊢
        have S6 := s5.trans s6
        have h6 := s6 _ _ h5
        clear s6 s5 h5
        have ez : xs.getD r 0 = z := by rw [List.getD_eq_getElem?_getD, hz]; rfl
        have h3 := ix ((r : Int) + ad)
        have h4 := Int.emod_nonneg ((r : Int) + ad) (show num ps ≠ 0 by omega)
        walk_at "go"
        refine w_fldi (S6 _ _ ho) S.cl.cl S.way hway ?_
        walk_at "go"
        refine w_ixL (xs := us.map V.int) (sq h6) (atI_map (x := us.getD (((r : Int) + ad) % num ps).toNat 0) h4 ?_) ?_
        · rw [List.getD_eq_getElem?_getD, List.getElem?_eq_getElem (by omega)]
          rfl
        walk_at "go"
        refine w_setL (j := (((r : Int) + ad) % num ps).toNat) h6 ?_ ?_
        · unfold ixN
          rw [if_pos h4, List.length_map, if_pos (by omega)]
        walk_at "go"
        refine ⟨Bc.bump us (((r : Int) + ad) % num ps).toNat z, _, _, rfl, same_apC nD S6, ?_, by rw [bump_len]; exact hul, fun i => ?_⟩
        · rw [upd_same, Bc.bump, List.map_set]
        · rw [bump_get (by omega), hus, sig, ez, Int.add_assoc]
      · rintro σ H5 ⟨us, v6, v7, rfl, s5, h5, hul, hus⟩
        walk_at "go"
        refine ⟨us, _, _, _, _, rfl, s5, h5, hul, fun i hi => ?_⟩
        rw [hus, hys i hi, sig, List.length_map, hxl, sig_row hN xs ad hi, hxs _ (ix _), Int.toNat_of_nonneg (Int.emod_nonneg _ (by omega)), had, sub_mod, per_mod (Gw_per ws), Int.zero_add]
    · rintro σ H2 ⟨ys, v4, v5, v6, v7, rfl, s2, h2, hyl, hys⟩
      walk_at "go"
      refine q H2 D nD s2 ⟨ys, h2, hyl, fun i hi => ?_⟩
      rw [hys i hi]
      rfl
noncomputable abbrev s_srinit : Stmt := (inClass (top 59) 0)
theorem sc_srinit : FnScope ["self", "way", "stock", "length", "last", "weight"] ["self", "way", "stock", "length"] (defScope s_srinit) :=
  ⟨rfl, rfl, rfl, by decide +kernel, rfl, by decide +kernel, by decide +kernel⟩
theorem ok_srinit {c : CA} {Cs : Addr} {f : Addr} {fd : FuncData} (F : FunD K "__init__" "Sorted.__init__" (defArgs s_srinit) (defBody s_srinit) (defScope s_srinit) [] [] f fd) (T : Bt mg) (X : Kx K mg c) (S : Ks K mg Cs) (c_power : Cal P w K mg base 1 "power_rest" spPower []) (c_wtsof : Cal P w K mg base 2 "weights_of" (spWts c) []) (c_ahead : Met P w K mg base 2 Cs "counted_ahead" (spAhead c Cs) []) :
    FnOk P w K mg base L2.CX0 3 f fd ["self", "way", "stock", "length"] (spSrInit c Cs) := by
  refine fnD_ok F sc_srinit (fun vs H Q E h => ?_) (fun cdv A outer s H vs Q E hr h => ?_)
  · obtain ⟨o, dx, x, A, b, n, ps, y, rfl, _⟩ := h
    rfl
  · obtain ⟨o, dx, x, A, b, n, ps, y, rfl, ho, hw, hN2, A1, A2, hn, q⟩ := h
    have hN := num_pos hw.facs.2
    have hwo := hw.out ho
    refine ⟨_, (pss_cons (ps_fld (pv 0) (pv 1) rfl)
      (pss_cons (ps_fld (pv 0) (pv 2) rfl)
      (pss_cons (ps_fld (pv 0) (pe_c c_wtsof hr (by decide) (by rfl) (pa_cons (pv 1) (pa_cons (pv 3) pa_nil))) rfl)
      (pss_cons (ps_fld (pv 0) (pe_op oMul (pe_callTy cInt1 (by rfl) T.int (by decide +kernel) (pa_cons (pe_fld (pe_fld (pv 1) rfl) rfl) pa_nil)) (pe_c c_power hr (by decide) (by rfl) (pa_cons (pe_fld (pv 1) rfl) (pa_cons (pv 3) (pa_cons (pe_fld (pv 1) rfl) pa_nil))))) rfl)
      (pss_cons (ps_set (i := 4) sc_srinit.nd rfl (Or.inl rfl) (pe_op op_rep (pe_lst (pa_cons pe_int pa_nil)) (pe_fld (pv 1) rfl)))
      (pss_cons (ps_asg pe_int (pg_sub (pv 4) pe_int set_list))
      (pss_cons (ps_fld (pv 0) (pe_lst (pa_cons (pv 4) pa_nil)) rfl)
      (pss_cons (ps_for PassesOwn.never rfl (pi_list (pe_revL (pe_fld (pv 0) rfl))) (pg_name (i := 5) sc_srinit.nd rfl (Or.inl rfl)) (pss_one (ps_expr (pe_bm PySem.F.plainAttrs_list PySem.F.slot_list_append PySem.F.type_list_append mt_append (pe_fld (pv 0) rfl) (pa_cons (pe_mt c_ahead hr (by decide) (pv 0) (pa_cons (pv 5) (pa_cons (pe_ix ix_list (pe_fld (pv 0) rfl) (pe_un un_neg pe_int) (fun _ _ => rfl)) pa_nil))) pa_nil)))))
      (pss_one (ps_fld (pv 0) (pe_revL (pe_fld (pv 0) rfl)) rfl)))))))))), ?_⟩
    walk_at "go"
    refine w_sfldi ho S.cl.cl S.way (by decide) ?_
    walk_at "go"
    refine w_sfldi upd_same S.cl.cl S.stock (by show 1 < 1000; decide) ?_
    have e1 : putF "stock" (.int A) (putF "way" (.ref x) []) = ([("way", V.ref x), ("stock", .int A)] : List (Str × V)) := by
      rw [put0, putS (by decide +kernel)]
      rfl
    rw [e1]
    have r2 : rm o (upd (upd H o (.ins Cs dx (putF "way" (.ref x) []))) o (.ins Cs dx [("way", V.ref x), ("stock", .int A)])) = rm o H := by rw [rm_updS, rm_updS]
    have k2 : ∀ a ob, a ≠ o → H a = some ob → upd (upd H o (.ins Cs dx (putF "way" (.ref x) []))) o (.ins Cs dx [("way", V.ref x), ("stock", .int A)]) a = some ob := fun a ob na e => by rw [upd_ne na, upd_ne na]; exact e
    have h2 : upd (upd H o (.ins Cs dx (putF "way" (.ref x) []))) o (.ins Cs dx [("way", V.ref x), ("stock", .int A)]) o = some (.ins Cs dx [("way", V.ref x), ("stock", .int A)]) := upd_same
    generalize upd (upd H o (.ins Cs dx (putF "way" (.ref x) []))) o (.ins Cs dx [("way", V.ref x), ("stock", .int A)]) = H2 at r2 k2 h2 ⊢
    have hw2 : WayAt c H2 x b ps y := WayAt.same (H := rm o H2) (by rw [r2]; exact hwo) rm_le
    walk_at "go"
    refine ⟨x, n, b, ps, y, rfl, hw2, hN2, hn, fun H3 sc s3 hsc => ?_⟩
    walk_at "go"
    refine w_sfldi (s3 _ _ h2) S.cl.cl S.scales (by show 2 < 1000; decide) ?_
    have e3 : putF "scales" (.ref sc) [("way", V.ref x), ("stock", .int A)] = ([("way", V.ref x), ("stock", .int A), ("scales", .ref sc)] : List (Str × V)) := by
      rw [putS (by decide +kernel), putS (by decide +kernel)]
      rfl
    rw [e3]
    have nsc : sc ≠ o := fun e => by
      have := s3 _ _ h2
      rw [← e, hsc] at this
      cases this
    have r4 : Same (rm o H) (rm o (upd H3 o (.ins Cs dx [("way", V.ref x), ("stock", .int A), ("scales", .ref sc)]))) := by rw [rm_updS, ← r2]; exact s3.rm
    have h4 : upd H3 o (.ins Cs dx [("way", V.ref x), ("stock", .int A), ("scales", .ref sc)]) o = some (.ins Cs dx [("way", V.ref x), ("stock", .int A), ("scales", .ref sc)]) := upd_same
    have hsc4 : upd H3 o (.ins Cs dx [("way", V.ref x), ("stock", .int A), ("scales", .ref sc)]) sc = some (.lst ((wts b (num ps) y.low n).map V.int)) := by rw [upd_ne nsc]; exact hsc
    have k4 : ∀ a ob, a ≠ o → H a = some ob → upd H3 o (.ins Cs dx [("way", V.ref x), ("stock", .int A), ("scales", .ref sc)]) a = some ob := fun a ob na e => by rw [upd_ne na]; exact s3 _ _ (k2 _ _ na e)
    generalize upd H3 o (.ins Cs dx [("way", V.ref x), ("stock", .int A), ("scales", .ref sc)]) = H4 at r4 k4 h4 hsc4 ⊢
    clear k2 r2 h2 s3 hsc
    have hw4 : WayAt c H4 x b ps y := (hwo.same r4).same rm_le
    have hpw0 := Int.emod_nonneg (b ^ n) (show num ps ≠ 0 by omega)
    have hpw1 := Int.emod_lt_of_pos (b ^ n) hN
    have hm : CMx (if y.lead = true then 1 else 0) (b ^ n % num ps) := mx_r ⟨by omega, by omega⟩
    walk_at "go"
    refine ⟨_, _, _, 11, rfl, by omega, by omega, hN, by omega, by omega, ?_⟩
    rw [Int.toNat_natCast]
    walk_at "go"
    refine w_sfldi h4 S.cl.cl S.lead (by show 3 < 1000; decide) ?_
    obtain ⟨kk, hkk⟩ : ∃ kk, (if y.lead = true then 1 else 0) * (b ^ n % num ps) = ld y * b ^ n + num ps * kk := by
      have := Int.mul_ediv_add_emod (b ^ n) (num ps)
      have e : ld y = if y.lead = true then 1 else 0 := rfl
      rw [← e]
      refine ⟨-(ld y * (b ^ n / num ps)), ?_⟩
      have h9 : ld y * b ^ n = ld y * (num ps * (b ^ n / num ps) + b ^ n % num ps) := by rw [this]
      rw [Int.mul_add, Int.mul_left_comm] at h9
      rw [Int.mul_neg]
      omega
    rw [hkk]
    obtain ⟨L, hL⟩ : ∃ L, L = ld y * b ^ n + num ps * kk := ⟨_, rfl⟩
    rw [← hL]
    have e5 : putF "lead" (.int L) [("way", V.ref x), ("stock", .int A), ("scales", .ref sc)] = ([("way", V.ref x), ("stock", .int A), ("scales", .ref sc), ("lead", .int L)] : List (Str × V)) := by
      rw [putS (by decide +kernel), putS (by decide +kernel), putS (by decide +kernel)]
      rfl
    rw [e5]
    have r5 : Same (rm o H) (rm o (upd H4 o (.ins Cs dx [("way", V.ref x), ("stock", .int A), ("scales", .ref sc), ("lead", .int L)]))) := by rw [rm_updS]; exact r4
    have h5 : upd H4 o (.ins Cs dx [("way", V.ref x), ("stock", .int A), ("scales", .ref sc), ("lead", .int L)]) o = some (.ins Cs dx [("way", V.ref x), ("stock", .int A), ("scales", .ref sc), ("lead", .int L)]) := upd_same
    have hsc5 : upd H4 o (.ins Cs dx [("way", V.ref x), ("stock", .int A), ("scales", .ref sc), ("lead", .int L)]) sc = some (.lst ((wts b (num ps) y.low n).map V.int)) := by rw [upd_ne nsc]; exact hsc4
    generalize upd H4 o (.ins Cs dx [("way", V.ref x), ("stock", .int A), ("scales", .ref sc), ("lead", .int L)]) = H5 at r5 h5 hsc5 ⊢
    clear k4 r4 h4 hsc4 hw4
    have hw5 : WayAt c H5 x b ps y := (hwo.same r5).same rm_le
    walk_at "go"
    refine al fun p6 H6 _ s6 h6 => ?_
    walk_at "go"
    refine w_rep (xs := [.int 0]) h6 ⟨by omega, by omega, sz (by simp only [List.length_cons, List.length_nil]; omega)⟩ (al fun D H7 n7 s7 h7 => ?_)
    rw [rep00] at h7
    have nD : H5 D = none := s6.free n7
    have S7 : Same H5 H7 := s6.trans s7
    clear s6 s7 n7 h6
    walk_at "go"
    refine w_setL (j := 0) h7 ?_ ?_
    · unfold ixN
      rw [if_pos (by decide), List.length_map, List.length_replicate, if_pos (by omega)]
      rfl
    have S8 : Same H5 (upd H7 D (.lst (((List.replicate (num ps).toNat (0 : Int)).map V.int).set 0 (.int 1)))) := same_apC nD S7
    have row8 : RowAt (num ps) A.toNat y.shift (upd H7 D (.lst (((List.replicate (num ps).toNat (0 : Int)).map V.int).set 0 (.int 1)))) [] D := by
      refine ⟨(List.replicate (num ps).toNat (0 : Int)).set 0 1, by rw [upd_same, List.map_set], by rw [List.length_set, List.length_replicate], fun i hi => ?_⟩
      rw [Bc.Gw, chi, Int.emod_eq_of_lt (by omega) (by omega), List.getD_eq_getElem?_getD, List.getElem?_set, List.length_replicate, if_pos (by omega : 0 < (num ps).toNat)]
      by_cases e : 0 = i
      · rw [if_pos e, if_pos (by omega)]
        rfl
      · rw [if_neg e, if_neg (by omega), List.getElem?_replicate, if_pos hi]
        rfl
    generalize upd H7 D (.lst (((List.replicate (num ps).toNat (0 : Int)).map V.int).set 0 (.int 1))) = H8 at S8 row8 ⊢
    clear h7 S7
    walk_at "go"
    refine al fun ct H9 n9 s9 h9 => ?_
    walk_at "go"
    have nct : ct ≠ o := fun e => by
      have := S8 _ _ h5
      rw [← e, n9] at this
      cases this
    refine w_sfldi (s9 _ _ (S8 _ _ h5)) S.cl.cl S.counts (by show 4 < 1000; decide) ?_
    have e6 : putF "counts" (.ref ct) [("way", V.ref x), ("stock", .int A), ("scales", .ref sc), ("lead", .int L)] = srF x A sc L ct := by
      rw [putS (by decide +kernel), putS (by decide +kernel), putS (by decide +kernel), putS (by decide +kernel)]
      rfl
    rw [e6]
    have S9 : Same H5 H9 := S8.trans s9
    have r10 : Same (rm o H) (rm o (upd H9 o (.ins Cs dx (srF x A sc L ct)))) := by rw [rm_updS]; exact r5.trans S9.rm
    have h10 : upd H9 o (.ins Cs dx (srF x A sc L ct)) o = some (.ins Cs dx (srF x A sc L ct)) := upd_same
    have hsc10 : upd H9 o (.ins Cs dx (srF x A sc L ct)) sc = some (.lst ((wts b (num ps) y.low n).map V.int)) := by rw [upd_ne nsc]; exact S9 _ _ hsc5
    have hct10 : upd H9 o (.ins Cs dx (srF x A sc L ct)) ct = some (.lst (([D] : List Addr).map V.ref)) := by rw [upd_ne nct]; exact h9
    have row10 : RowAt (num ps) A.toNat y.shift (upd H9 o (.ins Cs dx (srF x A sc L ct))) [] D := (row8.same s9).ins (S9 _ _ h5)
    have nct0 : rm o H ct = none := r5.free (rm_none (S8.free n9))
    generalize upd H9 o (.ins Cs dx (srF x A sc L ct)) = H10 at r10 h10 hsc10 hct10 row10 ⊢
    clear S8 s9 S9 n9 h9 row8 r5 h5 hsc5 hw5 nD e6
    have hwl := wts_len b (num ps) y.low n
    have hwlt := wts_lt (b := b) hN y.low n
    obtain ⟨ws, hws⟩ : ∃ ws, ws = wts b (num ps) y.low n := ⟨_, rfl⟩
    rw [← hws] at hsc10 hwl hwlt
    walk_at "go"
    refine w_fldi h10 S.cl.cl S.scales sr_scales ?_
    walk_at "go"
    refine w_revi (sq hsc10) fun R hR => ?_
    walk_at "go"
    have s11 : Same H10 (upd H10 R (.lst ((ws.map V.int).reverse))) := Same.new hR
    have hR11 : upd H10 R (.lst ((ws.map V.int).reverse)) R = some (.lst (ws.reverse.map V.int)) := by rw [upd_same, map_rev]
    have nRc : R ≠ ct := fun e => by rw [e, hct10] at hR; cases hR
    generalize upd H10 R (.lst ((ws.map V.int).reverse)) = H11 at s11 hR11 ⊢
    refine for_list (K := K) (a := R) (xs := ws.reverse.map V.int) (fun i σ H' => ∃ (cs : List Addr) (v5 : Option V), σ = [some (.ref o), some (.ref x), some (.int A), some (.int (n : Nat)), some (.ref D), v5] ∧ H' o = some (.ins Cs dx (srF x A sc L ct)) ∧ H' ct = some (.lst (cs.map V.ref)) ∧ cs.length = i + 1 ∧ H' sc = some (.lst (ws.map V.int)) ∧ H' R = some (.lst (ws.reverse.map V.int)) ∧ Same (rm o H) (rm o H') ∧
        ∀ (j : Nat) (p : Addr), cs[j]? = some p → RowAt (num ps) A.toNat y.shift H' (ws.drop (n - j)) p)
      ⟨[D], none, rfl, s11 _ _ h10, s11 _ _ hct10, rfl, s11 _ _ hsc10, hR11, r10.trans s11.rm, fun j p hj => ?_⟩ (fun i σ H' _ z => by obtain ⟨_, _, _, _, _, _, _, z, _⟩ := z; exact sq z) ?_ ?_
    · have hj0 : j = 0 := by
        have := (List.getElem?_eq_some_iff.mp hj).1
        simp at this
        exact this
      subst hj0
      cases hj
      rw [Nat.sub_zero, ← hwl, List.drop_length]
      exact row10.same s11
    · rintro i yv σ H' hi ⟨cs, v5, rfl, ho', hct', hcl, hsc', hR', r', rows⟩
      obtain ⟨w, hwi, rfl⟩ := get_map hi
      have hin : i < n := by
        have := (List.getElem?_eq_some_iff.mp hwi).1
        rw [List.length_reverse] at this
        omega
      rw [List.getElem?_reverse (by omega)] at hwi
      have hwb := hwlt w (List.mem_of_getElem? hwi)
      have hw' : WayAt c H' x b ps y := (hwo.same r').same rm_le
      obtain ⟨cs', last, hcs⟩ : ∃ cs' last, cs = cs' ++ [last] := by
        rcases List.eq_nil_or_concat cs with e | ⟨cs', last, e⟩
        · rw [e] at hcl; simp at hcl
        · exact ⟨cs', last, by rw [e, List.concat_eq_append]⟩
      have hcl2 : cs'.length = i := by rw [hcs, List.length_append] at hcl; simp at hcl; exact hcl
      have rl := rows i last (by rw [hcs, ← hcl2]; simp)
      walk_at "go"
      refine w_fldi ho' S.cl.cl S.counts sr_counts ?_
      walk_at "go"
      refine w_methi ho' (sr_no (by decide +kernel) (by decide +kernel) (by decide +kernel) (by decide +kernel) (by decide +kernel)) ?_
      walk_at "go"
      refine w_fldi ho' S.cl.cl S.counts sr_counts ?_
      walk_at "go"
      refine w_ixL (xs := cs.map V.ref) (v := .ref last) (sq hct') (by rw [hcs, List.map_append]; exact L2.atI_last _ _) ?_
      walk_at "go"
      refine ⟨o, dx, x, last, _, w, A, b, ps, y, ws.drop (n - i), rfl, ho', sr_way, sr_stock, sr_no (by decide +kernel) (by decide +kernel) (by decide +kernel) (by decide +kernel) (by decide +kernel), hw', hN2, A1, A2, hwb.1, hwb.2, rl, fun H2 l nl sl hl => ?_⟩
      walk_at "go"
      have hcne : cs ≠ [] := fun e => by rw [e] at hcl; simp at hcl
      refine w_append (sl _ _ hct') (by rw [List.length_map]; have : (100000 : Nat) < sizeLine := (by decide); omega) ?_
      walk_at "go"
      have nRl : ∀ {p : Addr} {xs : List Int}, H2 p = some (.lst (xs.map V.int)) → p ≠ ct := fun h => lst_ne hcne h (sl _ _ hct')
      refine ⟨cs ++ [l], _, rfl, by rw [upd_ne nct.symm]; exact sl _ _ ho', by rw [upd_same, List.map_append]; rfl, by rw [List.length_append, hcl]; rfl, by rw [upd_ne (nRl (sl _ _ hsc'))]; exact sl _ _ hsc', by rw [upd_ne (nRl (sl _ _ hR'))]; exact sl _ _ hR', ?_, fun j p hj => ?_⟩
      · rw [rm_upd nct]
        exact same_apC nct0 (r'.trans sl.rm)
      · rw [List.getElem?_append] at hj
        by_cases c : j < cs.length
        · rw [if_pos c] at hj
          exact ((rows j p hj).same sl).up hcne (sl _ _ hct')
        · rw [if_neg c] at hj
          have hj1 : j = i + 1 := by
            have := (List.getElem?_eq_some_iff.mp hj).1
            simp at this
            omega
          subst hj1
          rw [show i + 1 - cs.length = 0 by omega] at hj
          cases hj
          have hd : ws.drop (n - (i + 1)) = w :: ws.drop (n - i) := by
            rw [List.drop_eq_getElem_cons (by omega), show n - (i + 1) + 1 = n - i by omega]
            congr 1
            have e2 : ws[ws.length - 1 - i]? = ws[n - (i + 1)]? := by congr 1; omega
            rw [e2] at hwi
            exact (List.getElem?_eq_some_iff.mp hwi).2
          rw [hd]
          exact hl.up hcne (sl _ _ hct')
    · rintro σ H' ⟨cs, v5, rfl, ho', hct', hcl, hsc', hR', r', rows⟩
      rw [List.length_map, List.length_reverse, hwl] at hcl
      walk_at "go"
      refine w_fldi ho' S.cl.cl S.counts sr_counts ?_
      walk_at "go"
      refine w_revi (sq hct') fun p hp => ?_
      walk_at "go"
      have npo : p ≠ o := fun e => by rw [e, ho'] at hp; cases hp
      have sP : Same H' (upd H' p (.lst ((cs.map V.ref).reverse))) := Same.new hp
      have hpP : upd H' p (.lst ((cs.map V.ref).reverse)) p = some (.lst (cs.reverse.map V.ref)) := by rw [upd_same, List.map_reverse]
      generalize upd H' p (.lst ((cs.map V.ref).reverse)) = HP at sP hpP ⊢
      refine w_sfldi (sP _ _ ho') S.cl.cl S.counts (by show 5 < 1000; decide) ?_
      rw [sr_put]
      have rF : Same (rm o H) (rm o (upd HP o (.ins Cs dx (srF x A sc L p)))) := by rw [rm_updS]; exact r'.trans sP.rm
      walk_at "go"
      refine q _ (fun a ob na e => rm_le _ _ (rF _ _ (rm_of na e))) ⟨dx, sc, p, cs.reverse, kk, by rw [L2.upd_same, hL], (hwo.same rF).same rm_le, ?_, ?_, by rw [List.length_reverse]; exact hcl, fun i r hr => ?_⟩
      · rw [upd_ne nsc, ← hws]
        exact sP _ _ hsc'
      · rw [upd_ne npo]
        exact hpP
      · have hi : i < cs.length := by
          have := (List.getElem?_eq_some_iff.mp hr).1
          rwa [List.length_reverse] at this
        rw [List.getElem?_reverse hi] at hr
        have := rows _ _ hr
        rw [show n - (cs.length - 1 - i) = i by omega] at this
        rw [← hws]
        exact (this.same sP).ins (sP _ _ ho')
noncomputable abbrev s_textat : Stmt := (inClass (top 59) 3)
theorem sc_textat : FnScope ["self", "mark", "number", "left", "found", "place", "weight", "letter", "behind"] ["self", "mark", "number"] (defScope s_textat) :=
  ⟨rfl, rfl, rfl, by decide +kernel, rfl, by decide +kernel, by decide +kernel⟩
theorem ok_textat {c : CA} {Cs : Addr} {f : Addr} {fd : FuncData} (F : FunD K "text_at" "Sorted.text_at" (defArgs s_textat) (defBody s_textat) (defScope s_textat) [] [] f fd) (T : Bt mg) (X : Kx K mg c) (S : Ks K mg Cs) (c_summ : Met P w K mg base 1 Cs "summand" (spSummand c Cs) []) :
    FnOk P w K mg base L2.CX0 2 f fd ["self", "mark", "number"] (spTextAt c Cs) := by
  refine fnD_ok F sc_textat (fun vs H Q E h => ?_) (fun cdv A outer s H vs Q E hr h => ?_)
  · obtain ⟨o, x, m, k, A, b, n, ps, y, rfl, _⟩ := h
    rfl
  · obtain ⟨o, x, m, k, A, b, n, ps, y, rfl, hsr, hN2, A1, A2, hn, k0, k1, q⟩ := h
    obtain ⟨dx, sc, ct, cs, kk, ho, hw, hsc, hct, hcl, hrow⟩ := hsr
    have hN := num_pos hw.facs.2
    have hwl := wts_len b (num ps) y.low n
    have hwlt := wts_lt (b := b) hN y.low n
    generalize wts b (num ps) y.low n = ws at hsc hrow k1 q hwl hwlt
    obtain ⟨z0, hz0⟩ : ∃ z0, z0 = m - ld y * b ^ n := ⟨_, rfl⟩
    rw [← hz0] at k1 q
    refine ⟨_, (pss_cons (ps_set (i := 3) sc_textat.nd rfl (Or.inl rfl) (pe_op op_mod (pe_op op_sub (pv 1) (pe_fld (pv 0) rfl)) (pe_fld (pe_fld (pv 0) rfl) rfl)))
      (pss_cons (ps_set (i := 4) sc_textat.nd rfl (Or.inl rfl) (pe_lst pa_nil))
      (pss_cons (ps_for PassesOwn.never rfl (pi_enum (by rfl) T.enumerate (pa_cons (pe_fld (pv 0) rfl) pa_nil)) (pg_tup rfl (pgs_cons (pg_name (i := 5) sc_textat.nd rfl (Or.inl rfl)) (pgs_cons (pg_name (i := 6) sc_textat.nd rfl (Or.inl rfl)) pgs_nil))) (pss_cons (ps_set (i := 7) sc_textat.nd rfl (Or.inl rfl) pe_int)
      (pss_cons (ps_set (i := 8) sc_textat.nd rfl (Or.inl rfl) (pe_ix ix_list (pe_fld (pv 0) rfl) (pe_op op_add (pv 5) pe_int) (fun _ _ => rfl)))
      (pss_cons (ps_while PassesOwn.never (pt_cmpR op_ge (pv 2) (pe_ix ix_list (pv 8) (pe_op op_mod (pe_op op_sub (pv 3) (pe_mt c_summ hr (by decide) (pv 0) (pa_cons (pv 6) (pa_cons (pv 7) pa_nil)))) (pe_fld (pe_fld (pv 0) rfl) rfl)) (fun _ _ => rfl)) (nomark _)) (pss_cons (ps_aug (i := 2) sc_textat.nd rfl (Or.inl rfl) (pe_ix ix_list (pv 8) (pe_op op_mod (pe_op op_sub (pv 3) (pe_mt c_summ hr (by decide) (pv 0) (pa_cons (pv 6) (pa_cons (pv 7) pa_nil)))) (pe_fld (pe_fld (pv 0) rfl) rfl)) (fun _ _ => rfl)) ip_sub)
      (pss_one (ps_aug (i := 7) sc_textat.nd rfl (Or.inl rfl) pe_int ip_add))))
      (pss_cons (ps_set (i := 3) sc_textat.nd rfl (Or.inl rfl) (pe_op op_mod (pe_op op_sub (pv 3) (pe_mt c_summ hr (by decide) (pv 0) (pa_cons (pv 6) (pa_cons (pv 7) pa_nil)))) (pe_fld (pe_fld (pv 0) rfl) rfl)))
      (pss_one (ps_expr (pe_bm PySem.F.plainAttrs_list PySem.F.slot_list_append PySem.F.type_list_append mt_append (pv 4) (pa_cons (pv 7) pa_nil)))))))))
      (pss_one (ps_ret (pe_callTy cTupOf (by rfl) T.tuple (by decide +kernel) (pa_cons (pv 4) pa_nil))))))), ?_⟩
    walk_at "go"
    refine w_fldi ho S.cl.cl S.lead sr_lead ?_
    walk_at "go"
    refine w_fldi ho S.cl.cl S.way sr_way ?_
    walk_at "go"
    obtain ⟨zs, hzs, hzs0, hzs1⟩ : ∃ zs, zs = (m - (ld y * b ^ n + num ps * kk)) % num ps ∧ 0 ≤ zs ∧ zs < num ps := ⟨_, rfl, Int.emod_nonneg _ (by omega), Int.emod_lt_of_pos _ hN⟩
    rw [← hzs]
    obtain ⟨kz, hkz⟩ : ∃ kz, zs = z0 + num ps * kz := by
      have := Int.mul_ediv_add_emod (m - (ld y * b ^ n + num ps * kk)) (num ps)
      refine ⟨-kk - (m - (ld y * b ^ n + num ps * kk)) / num ps, ?_⟩
      rw [Int.mul_sub, Int.mul_neg]
      omega
    refine al fun D H1 nD s1 h1 => ?_
    walk_at "go"
    refine w_fldi (s1 _ _ ho) S.cl.cl S.scales sr_scales ?_
    walk_at "go"
    refine w_enumi (sq (s1 _ _ hsc)) ?_
    refine for_it (walk_enum (xs := ws.map V.int)) (fun i σ H' => ∃ (ts : List Int) (z k' : Int) (v5 v6 v7 v8 : Option V), σ = [some (.ref o), some (.int m), some (.int k'), some (.int z), some (.ref D), v5, v6, v7, v8] ∧ Same H H' ∧ H' D = some (.lst (ts.map V.int)) ∧ ts.length = i ∧ 0 ≤ z ∧ z < num ps ∧ 0 ≤ k' ∧ k' < Gw (num ps) A.toNat y.shift (ws.drop i) z ∧
        ∀ us, Gd (num ps) A.toNat y.shift (ws.drop i) z us → Gd (num ps) A.toNat y.shift ws z0 (ts ++ us) ∧ Rk (num ps) A.toNat y.shift ws z0 (ts ++ us) = k - k' + Rk (num ps) A.toNat y.shift (ws.drop i) z us)
      ⟨[], zs, k, none, none, none, none, rfl, s1, h1, rfl, hzs0, hzs1, k0, ?_, fun us g => ?_⟩ (fun i σ H' _ z => by obtain ⟨_, _, _, _, _, _, _, _, z, _⟩ := z; exact sq (z _ _ hsc)) ?_ ?_
    · rw [List.drop_zero, hkz]
      rw [show Gw (num ps) A.toNat y.shift ws (z0 + num ps * kz) = Gw (num ps) A.toNat y.shift ws z0 from (Gw_per ws).mul _ _]
      exact k1
    · rw [List.drop_zero] at g ⊢
      rw [List.nil_append]
      refine ⟨?_, by rw [hkz, Rk_per]; omega⟩
      have := g.move (-kz)
      rwa [show zs + num ps * -kz = z0 by rw [Int.mul_neg]; omega] at this
    · rintro i yv σ H5 H6 hi5 ⟨ts, z, k', v5, v6, v7, v8, rfl, s5, h5, htl, z0', z1', k0', k1', hrest⟩ ⟨t, t1, t2, rfl, nt, rfl, g1, g2⟩
      cases g1
      obtain ⟨w, hwi, rfl⟩ := get_map g2
      rw [List.length_map] at hi5
      have hwb := hwlt w (List.mem_of_getElem? hwi)
      refine w_gtup (sqt upd_same) rfl ?_
      have s6 : Same H5 (upd H5 t (.tup [.int (i : Nat), .int w])) := Same.new nt
      generalize upd H5 t (.tup [.int (i : Nat), .int w]) = H6 at s6 ⊢
      have S6 := s5.trans s6
      have h6 := s6 _ _ h5
      clear s6 s5 h5
      have hdrop : ws.drop i = w :: ws.drop (i + 1) := by rw [List.drop_eq_getElem_cons hi5, (List.getElem?_eq_some_iff.mp hwi).2]
      rw [hdrop] at k1' hrest
      have hci : i + 1 < cs.length := by omega
      have hcg : cs[i + 1]? = some cs[i + 1] := List.getElem?_eq_getElem hci
      generalize cs[i + 1] = rp at hcg
      have hrp := (hrow _ _ hcg).same S6
      generalize ws.drop (i + 1) = vs at k1' hrest hrp
      have ho6 := S6 _ _ ho
      have hw6 := hw.same S6
      walk_at "go"
      refine w_fldi ho6 S.cl.cl S.counts sr_counts ?_
      walk_at "go"
      refine w_ixL (xs := cs.map V.ref) (sq (S6 _ _ hct)) (atI_map (x := rp) (by omega) (by rw [show ((i : Int) + 1).toNat = i + 1 by omega]; exact hcg)) ?_
      walk_at "go"
      refine while_m (fun mm σ H' => ∃ (l : Nat) (kl : Int), σ = [some (.ref o), some (.int m), some (.int kl), some (.int z), some (.ref D), some (.int (i : Nat)), some (.int w), some (.int l), some (.ref rp)] ∧ H' = H6 ∧ l < A.toNat ∧ 0 ≤ kl ∧ k' = kl + (sig l fun j => Gw (num ps) A.toNat y.shift vs (z - ((j : Int) + y.shift) * w)) ∧ mm = A.toNat - l) _
        ⟨0, k', rfl, rfl, by omega, k0', by rw [sig, Int.add_zero], rfl⟩ ?_
      rintro mm σ H' ⟨l, kl, rfl, rfl, hl, kl0, hkl, rfl⟩
      walk_at "go"
      refine w_methi ho6 (sr_no (by decide +kernel) (by decide +kernel) (by decide +kernel) (by decide +kernel) (by decide +kernel)) ?_
      walk_at "go"
      refine ⟨o, dx, x, _, w, _, b, ps, y, rfl, ho6, sr_way, hw6, hN2, hwb.1, hwb.2, ?_⟩
      walk_at "go"
      refine w_fldi ho6 S.cl.cl S.way sr_way ?_
      walk_at "go"
      rw [sub_mod]
      refine row_read hN hrp ?_
      walk_at "go"
      obtain ⟨gv, hgv⟩ : ∃ gv, gv = Gw (num ps) A.toNat y.shift vs (z - ((l : Int) + y.shift) * w) := ⟨_, rfl⟩
      rw [← hgv]
      refine ite_d (fun c1 => ?_) (fun c1 => ?_)
      · walk_at "go"
        refine w_methi ho6 (sr_no (by decide +kernel) (by decide +kernel) (by decide +kernel) (by decide +kernel) (by decide +kernel)) ?_
        walk_at "go"
        refine ⟨o, dx, x, _, w, _, b, ps, y, rfl, ho6, sr_way, hw6, hN2, hwb.1, hwb.2, ?_⟩
        walk_at "go"
        refine w_fldi ho6 S.cl.cl S.way sr_way ?_
        walk_at "go"
        rw [sub_mod]
        refine row_read hN hrp ?_
        rw [← hgv]
        walk_at "go"
        have hl2 : l + 1 < A.toNat := by
          refine Nat.lt_of_not_le fun c => ?_
          have hA : A.toNat = l + 1 := by omega
          have : Gw (num ps) A.toNat y.shift (w :: vs) z = sig A.toNat fun j => Gw (num ps) A.toNat y.shift vs (z - ((j : Int) + y.shift) * w) := rfl
          rw [this] at k1'
          have e2 : (sig A.toNat fun j => Gw (num ps) A.toNat y.shift vs (z - ((j : Int) + y.shift) * w)) = (sig l fun j => Gw (num ps) A.toNat y.shift vs (z - ((j : Int) + y.shift) * w)) + gv := by
            rw [hgv]
            generalize hAn : A.toNat = An
            rw [hAn] at hA
            subst hA
            rfl
          omega
        refine ⟨_, ?_, l + 1, kl - gv, by rw [Int.natCast_succ]; rfl, rfl, hl2, by omega, ?_, rfl⟩
        · omega
        · rw [sig, ← hgv]
          omega
      · walk_at "go"
        refine w_methi ho6 (sr_no (by decide +kernel) (by decide +kernel) (by decide +kernel) (by decide +kernel) (by decide +kernel)) ?_
        walk_at "go"
        refine ⟨o, dx, x, _, w, _, b, ps, y, rfl, ho6, sr_way, hw6, hN2, hwb.1, hwb.2, ?_⟩
        walk_at "go"
        refine w_fldi ho6 S.cl.cl S.way sr_way ?_
        walk_at "go"
        rw [sub_mod]
        refine w_append h6 (by rw [List.length_map]; have : (100000 : Nat) < sizeLine := (by decide); omega) ?_
        walk_at "go"
        have hz2 := Int.emod_nonneg (z - ((l : Int) + y.shift) * w) (show num ps ≠ 0 by omega)
        have hz3 := Int.emod_lt_of_pos (z - ((l : Int) + y.shift) * w) hN
        have hz4 := Int.mul_ediv_add_emod (z - ((l : Int) + y.shift) * w) (num ps)
        refine ⟨ts ++ [(l : Int)], (z - ((l : Int) + y.shift) * w) % num ps, kl, _, _, _, _, rfl, same_apC nD S6, by rw [L2.upd_same, List.map_append]; rfl, by rw [List.length_append, htl]; rfl, hz2, hz3, kl0, ?_, fun us g => ?_⟩
        · rw [per_mod (Gw_per vs), ← hgv]
          omega
        · have g2 := g.move ((z - ((l : Int) + y.shift) * w) / num ps)
          have e3 : (z - ((l : Int) + y.shift) * w) % num ps + num ps * ((z - ((l : Int) + y.shift) * w) / num ps) = z - ((l : Int) + y.shift) * w := by omega
          rw [e3] at g2
          have g3 := Gd.cons (w := w) (l := (l : Int)) (z := z) (by omega) (by omega) g2
          obtain ⟨r1, r2⟩ := hrest _ g3
          rw [List.append_assoc]
          refine ⟨r1, ?_⟩
          show Rk (num ps) A.toNat y.shift ws z0 (ts ++ (l : Int) :: us) = _
          rw [r2, Rk, Int.toNat_natCast]
          have := Rk_per (N := num ps) (A := A.toNat) (s := y.shift) vs ((z - ((l : Int) + y.shift) * w) % num ps) ((z - ((l : Int) + y.shift) * w) / num ps) us
          rw [e3] at this
          rw [this]
          omega
    · rintro σ H5 ⟨ts, z, k', v5, v6, v7, v8, rfl, s5, h5, htl, z0', z1', k0', k1', hrest⟩
      rw [List.length_map] at htl k1' hrest
      rw [List.drop_length] at k1' hrest
      have hz : z % num ps = 0 ∧ k' = 0 := by
        rw [Bc.Gw, chi] at k1'
        by_cases c : z % num ps = 0
        · rw [if_pos c] at k1'
          exact ⟨c, by omega⟩
        · rw [if_neg c] at k1'
          omega
      obtain ⟨r1, r2⟩ := hrest [] ⟨rfl, (fun t h => by cases h), by rw [show wsum y.shift [] [] = 0 from rfl, Int.sub_zero]; exact hz.1⟩
      rw [List.append_nil] at r1 r2
      walk_at "go"
      refine w_tupL (sq h5) (al fun p H6 n6 s6 h6 => ?_)
      refine q H6 p ts (s5.free n6) (s5.trans s6) h6 r1 ?_
      rw [r2, hz.2, show Rk (num ps) A.toNat y.shift [] z [] = 0 from rfl]
      omega
noncomputable abbrev s_numm : Stmt := (inClass (top 59) 4)
theorem sc_numm : FnScope ["self", "text", "left", "found", "place", "weight", "letter"] ["self", "text"] (defScope s_numm) :=
  ⟨rfl, rfl, rfl, by decide +kernel, rfl, by decide +kernel, by decide +kernel⟩
theorem ok_numm {c : CA} {Cs : Addr} {f : Addr} {fd : FuncData} (F : FunD K "number_of" "Sorted.number_of" (defArgs s_numm) (defBody s_numm) (defScope s_numm) [] [] f fd) (T : Bt mg) (X : Kx K mg c) (S : Ks K mg Cs) (c_ofl : Met P w K mg base 2 c.wy "of_letters" (spOfLetters c) []) (c_summ : Met P w K mg base 1 Cs "summand" (spSummand c Cs) []) :
    FnOk P w K mg base L2.CX0 3 f fd ["self", "text"] (spNumM c Cs) := by
  refine fnD_ok F sc_numm (fun vs H Q E h => ?_) (fun cdv A outer s H vs Q E hr h => ?_)
  · obtain ⟨o, x, p, A, b, ts, ps, y, rfl, _⟩ := h
    rfl
  · obtain ⟨o, x, p, A, b, ts, ps, y, rfl, hsr, hN2, A1, A2, hn, hp, hts, q⟩ := h
    obtain ⟨dx, sc, ct, cs, kk, ho, hw, hsc, hct, hcl, hrow⟩ := hsr
    have hN := num_pos hw.facs.2
    have hwl := wts_len b (num ps) y.low ts.length
    have hwlt := wts_lt (b := b) hN y.low ts.length
    generalize wts b (num ps) y.low ts.length = ws at hsc hrow q hwl hwlt
    refine ⟨_, (pss_cons (ps_set (i := 2) sc_numm.nd rfl (Or.inl rfl) (pe_op op_mod (pe_op op_sub (pe_mt c_ofl hr (by decide) (pe_fld (pv 0) rfl) (pa_cons (pv 1) pa_nil)) (pe_fld (pv 0) rfl)) (pe_fld (pe_fld (pv 0) rfl) rfl)))
      (pss_cons (ps_set (i := 3) sc_numm.nd rfl (Or.inl rfl) pe_int)
      (pss_cons (ps_for PassesOwn.never rfl (pi_enum (by rfl) T.enumerate (pa_cons (pe_fld (pv 0) rfl) pa_nil)) (pg_tup rfl (pgs_cons (pg_name (i := 4) sc_numm.nd rfl (Or.inl rfl)) (pgs_cons (pg_name (i := 5) sc_numm.nd rfl (Or.inl rfl)) pgs_nil))) (pss_cons (ps_for PassesOwn.never rfl (pi_range1 (by rfl) T.range (pa_cons (pe_ix ix_tup (pv 1) (pv 4) (fun _ _ => rfl)) pa_nil)) (pg_name (i := 6) sc_numm.nd rfl (Or.inl rfl)) (pss_one (ps_aug (i := 3) sc_numm.nd rfl (Or.inl rfl) (pe_ix ix_list (pe_ix ix_list (pe_fld (pv 0) rfl) (pe_op op_add (pv 4) pe_int) (fun _ _ => rfl)) (pe_op op_mod (pe_op op_sub (pv 2) (pe_mt c_summ hr (by decide) (pv 0) (pa_cons (pv 5) (pa_cons (pv 6) pa_nil)))) (pe_fld (pe_fld (pv 0) rfl) rfl)) (fun _ _ => rfl)) ip_add)))
      (pss_one (ps_set (i := 2) sc_numm.nd rfl (Or.inl rfl) (pe_op op_mod (pe_op op_sub (pv 2) (pe_mt c_summ hr (by decide) (pv 0) (pa_cons (pv 5) (pa_cons (pe_ix ix_tup (pv 1) (pv 4) (fun _ _ => rfl)) pa_nil)))) (pe_fld (pe_fld (pv 0) rfl) rfl))))))
      (pss_one (ps_ret (pv 3)))))), ?_⟩
    walk_at "go"
    refine w_fldi ho S.cl.cl S.way sr_way ?_
    walk_at "go"
    obtain ⟨dw, mw, kw, hx, rx⟩ := id hw
    refine w_methi hx (wy_no (by decide +kernel) (by decide +kernel) (by decide +kernel) (by decide +kernel)) ?_
    walk_at "go"
    refine ⟨x, p, b, ps, y, ts, rfl, hw, hp, by omega, fun H1 s1 => ?_⟩
    clear hx rx
    walk_at "go"
    refine w_fldi (s1 _ _ ho) S.cl.cl S.lead sr_lead ?_
    walk_at "go"
    refine w_fldi (s1 _ _ ho) S.cl.cl S.way sr_way ?_
    walk_at "go"
    have q2 := fun H' => q H'
    clear q
    generalize mark y b (num ps) ts = m at q2 ⊢
    obtain ⟨z0, hz0⟩ : ∃ z0, z0 = m - ld y * b ^ ts.length := ⟨_, rfl⟩
    rw [← hz0] at q2
    obtain ⟨zs, hzs, hzs0, hzs1⟩ : ∃ zs, zs = (m - (ld y * b ^ ts.length + num ps * kk)) % num ps ∧ 0 ≤ zs ∧ zs < num ps := ⟨_, rfl, Int.emod_nonneg _ (by omega), Int.emod_lt_of_pos _ hN⟩
    rw [← hzs]
    obtain ⟨kz, hkz⟩ : ∃ kz, zs = z0 + num ps * kz := by
      have := Int.mul_ediv_add_emod (m - (ld y * b ^ ts.length + num ps * kk)) (num ps)
      refine ⟨-kk - (m - (ld y * b ^ ts.length + num ps * kk)) / num ps, ?_⟩
      rw [Int.mul_sub, Int.mul_neg]
      omega
    refine w_fldi (s1 _ _ ho) S.cl.cl S.scales sr_scales ?_
    walk_at "go"
    refine w_enumi (sq (s1 _ _ hsc)) ?_
    refine for_it (walk_enum (xs := ws.map V.int)) (fun i σ H' => ∃ (z fo : Int) (v4 v5 v6 : Option V), σ = [some (.ref o), some (.ref p), some (.int z), some (.int fo), v4, v5, v6] ∧ Same H H' ∧ 0 ≤ z ∧ z < num ps ∧ Rk (num ps) A.toNat y.shift ws z0 ts = fo + Rk (num ps) A.toNat y.shift (ws.drop i) z (ts.drop i))
      ⟨zs, 0, none, none, none, rfl, s1, hzs0, hzs1, by rw [List.drop_zero, List.drop_zero, hkz, Rk_per, Int.zero_add]⟩ (fun i σ H' _ z => by obtain ⟨_, _, _, _, _, _, z, _⟩ := z; exact sq (z _ _ hsc)) ?_ ?_
    · rintro i yv σ H5 H6 hi5 ⟨z, fo, v4, v5, v6, rfl, s5, z0', z1', hrk⟩ ⟨t, t1, t2, rfl, nt, rfl, g1, g2⟩
      cases g1
      obtain ⟨w, hwi, rfl⟩ := get_map g2
      rw [List.length_map] at hi5
      have hwb := hwlt w (List.mem_of_getElem? hwi)
      refine w_gtup (sqt upd_same) rfl ?_
      have s6 : Same H5 (upd H5 t (.tup [.int (i : Nat), .int w])) := Same.new nt
      generalize upd H5 t (.tup [.int (i : Nat), .int w]) = H6 at s6 ⊢
      have S6 := s5.trans s6
      clear s6 s5
      have hit : i < ts.length := by omega
      have hti : ts[i]? = some ts[i] := List.getElem?_eq_getElem hit
      have hdt : ts.drop i = ts[i] :: ts.drop (i + 1) := List.drop_eq_getElem_cons hit
      generalize ts[i] = tv at hti hdt
      obtain ⟨tv0, tv1⟩ := hts tv (List.mem_of_getElem? hti)
      have hdrop : ws.drop i = w :: ws.drop (i + 1) := by rw [List.drop_eq_getElem_cons hi5, (List.getElem?_eq_some_iff.mp hwi).2]
      rw [hdrop, hdt, Rk] at hrk
      have hci : i + 1 < cs.length := by omega
      have hcg : cs[i + 1]? = some cs[i + 1] := List.getElem?_eq_getElem hci
      generalize cs[i + 1] = rp at hcg
      have hrp := (hrow _ _ hcg).same S6
      generalize ws.drop (i + 1) = vs at hrk hrp ⊢
      have ho6 := S6 _ _ ho
      have hw6 := hw.same S6
      walk_at "go"
      refine w_ixT (xs := ts.map V.int) (sqt (S6 _ _ hp)) (atI_map (x := tv) (by omega) (by rw [Int.toNat_natCast]; exact hti)) ?_
      walk_at "go"
      refine for_range (lo := 0) (n := tv.toNat) (fun l σ H' => ∃ (v6 : Option V), σ = [some (.ref o), some (.ref p), some (.int z), some (.int (fo + (sig l fun j => Gw (num ps) A.toNat y.shift vs (z - ((j : Int) + y.shift) * w)))), some (.int (i : Nat)), some (.int w), v6] ∧ H' = H6)
        ⟨_, by rw [sig, Int.add_zero]; rfl, rfl⟩ ?_ ?_
      · rintro l σ H' hl ⟨v6, rfl, rfl⟩
        walk_at "go"
        refine w_fldi ho6 S.cl.cl S.counts sr_counts ?_
        walk_at "go"
        refine w_ixL (xs := cs.map V.ref) (sq (S6 _ _ hct)) (atI_map (x := rp) (by omega) (by rw [show ((i : Int) + 1).toNat = i + 1 by omega]; exact hcg)) ?_
        walk_at "go"
        refine w_methi ho6 (sr_no (by decide +kernel) (by decide +kernel) (by decide +kernel) (by decide +kernel) (by decide +kernel)) ?_
        walk_at "go"
        refine ⟨o, dx, x, _, w, _, b, ps, y, rfl, ho6, sr_way, hw6, hN2, hwb.1, hwb.2, ?_⟩
        walk_at "go"
        refine w_fldi ho6 S.cl.cl S.way sr_way ?_
        walk_at "go"
        rw [sub_mod]
        refine row_read hN hrp ?_
        walk_at "go"
        exact ⟨_, by rw [sig, Int.zero_add, Int.add_assoc]; rfl, rfl⟩
      · rintro σ H' ⟨v6, rfl, rfl⟩
        walk_at "go"
        refine w_methi ho6 (sr_no (by decide +kernel) (by decide +kernel) (by decide +kernel) (by decide +kernel) (by decide +kernel)) ?_
        walk_at "go"
        refine w_ixT (xs := ts.map V.int) (sqt (S6 _ _ hp)) (atI_map (x := tv) (by omega) (by rw [Int.toNat_natCast]; exact hti)) ?_
        walk_at "go"
        refine ⟨o, dx, x, _, w, _, b, ps, y, rfl, ho6, sr_way, hw6, hN2, hwb.1, hwb.2, ?_⟩
        walk_at "go"
        refine w_fldi ho6 S.cl.cl S.way sr_way ?_
        walk_at "go"
        rw [sub_mod]
        have hz4 := Int.mul_ediv_add_emod (z - (tv + y.shift) * w) (num ps)
        refine ⟨(z - (tv + y.shift) * w) % num ps, _, _, _, _, rfl, S6, Int.emod_nonneg _ (by omega), Int.emod_lt_of_pos _ hN, ?_⟩
        rw [hrk]
        have := Rk_per (N := num ps) (A := A.toNat) (s := y.shift) vs ((z - (tv + y.shift) * w) % num ps) ((z - (tv + y.shift) * w) / num ps) (ts.drop (i + 1))
        rw [show (z - (tv + y.shift) * w) % num ps + num ps * ((z - (tv + y.shift) * w) / num ps) = z - (tv + y.shift) * w by omega] at this
        rw [this]
        omega
    · rintro σ H5 ⟨z, fo, v4, v5, v6, rfl, s5, z0', z1', hrk⟩
      rw [List.length_map, List.drop_length, show ∀ us, Rk (num ps) A.toNat y.shift [] z us = 0 from fun us => by simp [Rk], Int.add_zero] at hrk
      walk_at "go"
      have := q2 H5 s5
      rw [hrk] at this
      exact this
noncomputable abbrev s_cntm : Stmt := (top 57)
theorem sc_cntm : FnScope ["way", "stock", "length", "mark"] ["way", "stock", "length", "mark"] (defScope s_cntm) :=
  ⟨rfl, rfl, rfl, by decide +kernel, rfl, by decide +kernel, by decide +kernel⟩
theorem ok_cntm {c : CA} {f : Addr} {fd : FuncData} (F : FunD K "count_marked" "count_marked" (defArgs s_cntm) (defBody s_cntm) (defScope s_cntm) [] [] f fd) (T : Bt mg) (X : Kx K mg c) (c_reqway : Cal P w K mg base 1 "require_way" (spReqWay c) []) (c_reqstock : Cal P w K mg base 2 "require_stock" spReqStock []) (c_reqlen : Cal P w K mg base 2 "require_length" spReqLen []) (c_reqmark : Cal P w K mg base 2 "require_mark" (spReqMark c) []) (c_countsof : Cal P w K mg base 1 "counts_of" (spCounts c) []) :
    FnOk P w K mg base L2.CX0 3 f fd ["way", "stock", "length", "mark"] (spCountM c) := by
  refine fnD_ok F sc_cntm (fun vs H Q E h => ?_) (fun cdv A outer s H vs Q E hr h => ?_)
  · obtain ⟨x, A, m, b, n, ps, y, rfl, _⟩ := h
    rfl
  · obtain ⟨x, A, m, b, n, ps, y, rfl, hw, hN2, A1, A2, hn, m0, m1, q⟩ := h
    refine ⟨_, (pss_cons (ps_expr (pe_c c_reqway hr (by decide) (by rfl) (pa_cons (pv 0) pa_nil)))
      (pss_cons (ps_expr (pe_c c_reqstock hr (by decide) (by rfl) (pa_cons (pv 1) pa_nil)))
      (pss_cons (ps_expr (pe_c c_reqlen hr (by decide) (by rfl) (pa_cons (pv 2) pa_nil)))
      (pss_cons (ps_expr (pe_c c_reqmark hr (by decide) (by rfl) (pa_cons (pv 0) (pa_cons (pv 3) pa_nil))))
      (pss_one (ps_ret (pe_ix ix_list (pe_c c_countsof hr (by decide) (by rfl) (pa_cons (pv 0) (pa_cons (pv 1) (pa_cons (pv 2) pa_nil)))) (pv 3) (fun _ _ => rfl)))))))), ?_⟩
    walk_at "go"
    refine use_reqway hw ?_
    walk_at "go"
    refine ⟨A, rfl, A1, ?_⟩
    walk_at "go"
    refine ⟨n, rfl, by omega, ?_⟩
    walk_at "go"
    refine ⟨x, m, b, ps, y, rfl, hw, m0, m1, ?_⟩
    walk_at "go"
    refine ⟨x, A, n, b, ps, y, rfl, hw, hN2, A1, A2, by omega, by omega, fun H1 l n1 s1 h1 => ?_⟩
    rw [Int.toNat_natCast] at h1
    have hl := cnt_len (num ps) b y.shift (ld y) A.toNat n
    walk_at "go"
    refine w_ixL (xs := (cnt (num ps) b y.shift (ld y) A.toNat n).map V.int) (sq h1) (atI_map (x := (cnt (num ps) b y.shift (ld y) A.toNat n).getD m.toNat 0) m0 ?_) ?_
    · rw [List.getD_eq_getElem?_getD, List.getElem?_eq_getElem (by omega)]
      rfl
    exact q H1 s1
noncomputable abbrev s_mkdt : Stmt := (top 60)
theorem sc_mkdt : FnScope ["way", "stock", "length", "mark", "number", "count"] ["way", "stock", "length", "mark", "number"] (defScope s_mkdt) :=
  ⟨rfl, rfl, rfl, by decide +kernel, rfl, by decide +kernel, by decide +kernel⟩
theorem ok_mkdt {c : CA} {Cs : Addr} {f : Addr} {fd : FuncData} (F : FunD K "marked_text" "marked_text" (defArgs s_mkdt) (defBody s_mkdt) (defScope s_mkdt) [] [] f fd) (T : Bt mg) (X : Kx K mg c) (c_isint : Cal P w K mg base 1 "is_integer" (spIsInt K) []) (c_cntm : Cal P w K mg base 3 "count_marked" (spCountM c) []) (c_srt : Mak P w K mg base 3 "Sorted" Cs (spSrInit c Cs) []) (c_textat : Met P w K mg base 2 Cs "text_at" (spTextAt c Cs) []) :
    FnOk P w K mg base L2.CX0 5 f fd ["way", "stock", "length", "mark", "number"] (spMarkedT c) := by
  refine fnD_ok F sc_mkdt (fun vs H Q E h => ?_) (fun cdv A outer s H vs Q E hr h => ?_)
  · obtain ⟨x, A, m, k, b, n, ps, y, rfl, _⟩ := h
    rfl
  · obtain ⟨x, A, m, k, b, n, ps, y, rfl, hw, hN2, A1, A2, hn, m0, m1, k0, k1, q⟩ := h
    have hN := num_pos hw.facs.2
    refine ⟨_, (pss_cons (ps_set (i := 5) sc_mkdt.nd rfl (Or.inl rfl) (pe_c c_cntm hr (by decide) (by rfl) (pa_cons (pv 0) (pa_cons (pv 1) (pa_cons (pv 2) (pa_cons (pv 3) pa_nil))))))
      (pss_cons (ps_if (PW.pt (pw_or (pt_not (pt_val (pe_c c_isint hr (by decide) (by rfl) (pa_cons (pv 4) pa_nil)))) (pw_or1 (pt_cmpR op_lt (pv 4) pe_int (nomark _))))) (pss_one ps_never) pss_nil)
      (pss_cons (ps_if (pt_cmpR op_ge (pv 4) (pv 5) (nomark _)) (pss_one ps_never) pss_nil)
      (pss_one (ps_ret (pe_mt c_textat hr (by decide) (pe_mk c_srt hr (by decide) (by rfl) (pa_cons (pv 0) (pa_cons (pv 1) (pa_cons (pv 2) pa_nil)))) (pa_cons (pv 3) (pa_cons (pv 4) pa_nil)))))))), ?_⟩
    walk_at "go"
    refine ⟨x, A, m, b, n, ps, y, rfl, hw, hN2, A1, A2, hn, m0, m1, fun H1 s1 => ?_⟩
    walk_at "go"
    refine use_isInt ?_
    walk_at "go"
    refine iteF ?_
    walk_at "go"
    refine ite_d (fun h => by omega) (fun _ => ?_)
    walk_at "go"
    refine ite_d (fun h => by omega) (fun _ => ?_)
    walk_at "go"
    refine use_sr (hw.same s1) hN2 A1 A2 hn fun o H2 no s2 hso => ?_
    obtain ⟨dx, sc, ct, cs, kk, ho, ro⟩ := id hso
    refine w_methi ho (sr_no (by decide +kernel) (by decide +kernel) (by decide +kernel) (by decide +kernel) (by decide +kernel)) ?_
    clear ho ro
    walk_at "go"
    refine ⟨o, x, m, k, A, b, n, ps, y, rfl, hso, hN2, A1, A2, hn, k0, ?_, fun H3 p ts n3 s3 h3 g r => ?_⟩
    · have e := cnt_Gw (b := b) (s := y.shift) (d := ld y) (A := A.toNat) hN y.low n (x := m.toNat) (by omega)
      rw [Int.toNat_of_nonneg m0] at e
      rw [← e]
      exact k1
    exact q H3 p ts (s1.free (s2.free n3)) (s1.trans (s2.trans s3)) h3 ⟨g, r⟩
noncomputable abbrev s_numof : Stmt := (top 61)
theorem sc_numof : FnScope ["way", "stock", "text", "read_letters", "letter"] ["way", "stock", "text"] (defScope s_numof) :=
  ⟨rfl, rfl, rfl, by decide +kernel, rfl, by decide +kernel, by decide +kernel⟩
theorem ok_numof {c : CA} {Cs : Addr} {f : Addr} {fd : FuncData} (F : FunD K "number_of" "number_of" (defArgs s_numof) (defBody s_numof) (defScope s_numof) [] [] f fd) (T : Bt mg) (X : Kx K mg c) (c_reqway : Cal P w K mg base 1 "require_way" (spReqWay c) []) (c_reqstock : Cal P w K mg base 2 "require_stock" spReqStock []) (c_reqtext : Cal P w K mg base 3 "require_text" spRead []) (c_srt : Mak P w K mg base 3 "Sorted" Cs (spSrInit c Cs) []) (c_numm : Met P w K mg base 3 Cs "number_of" (spNumM c Cs) []) :
    FnOk P w K mg base L2.CX0 5 f fd ["way", "stock", "text"] (spNumberOf c) := by
  refine fnD_ok F sc_numof (fun vs H Q E h => ?_) (fun cdv A outer s H vs Q E hr h => ?_)
  · obtain ⟨x, v, A, b, ts, ps, y, rfl, _⟩ := h
    rfl
  · obtain ⟨x, v, A, b, ts, ps, y, rfl, hw, hN2, A1, A2, tv, hn, hts, q⟩ := h
    refine ⟨_, (pss_cons (ps_expr (pe_c c_reqway hr (by decide) (by rfl) (pa_cons (pv 0) pa_nil)))
      (pss_cons (ps_expr (pe_c c_reqstock hr (by decide) (by rfl) (pa_cons (pv 1) pa_nil)))
      (pss_cons (ps_set (i := 3) sc_numof.nd rfl (Or.inl rfl) (pe_c c_reqtext hr (by decide) (by rfl) (pa_cons (pv 2) pa_nil)))
      (pss_cons (ps_for PassesOwn.never rfl (pi_tup (pv 3)) (pg_name (i := 4) sc_numof.nd rfl (Or.inl rfl)) (pss_one (ps_if (pt_not (pt_chain op_le op_lt pe_int (pv 4) (pv 1))) (pss_one ps_never) pss_nil)))
      (pss_one (ps_ret (pe_mt c_numm hr (by decide) (pe_mk c_srt hr (by decide) (by rfl) (pa_cons (pv 0) (pa_cons (pv 1) (pa_cons (pe_callB cLen (by rfl) T.len (by decide +kernel) (pa_cons (pv 3) pa_nil)) pa_nil)))) (pa_cons (pv 3) pa_nil)))))))), ?_⟩
    walk_at "go"
    refine use_reqway hw ?_
    walk_at "go"
    refine ⟨A, rfl, A1, ?_⟩
    walk_at "go"
    refine ⟨v, ts, rfl, tv, fun H1 t s1 h1 => ?_⟩
    walk_at "go"
    refine for_tup (K := K) (a := t) (xs := ts.map V.int) (fun i σ H' => ∃ (v4 : Option V), σ = [some (.ref x), some (.int A), some v, some (.ref t), v4] ∧ H' = H1) ⟨_, rfl, rfl⟩ (fun i σ H' _ z => by obtain ⟨_, _, rfl⟩ := z; exact sqt h1) ?_ ?_
    · rintro i u σ H' hi ⟨v4, rfl, rfl⟩
      obtain ⟨l, hl, rfl⟩ := get_map hi
      have hb := hts l (List.mem_of_getElem? hl)
      walk_at "go"
      refine ite_d (fun _ => ?_) (fun z => absurd hb.1 z)
      walk_at "go"
      rw [decide_eq_true hb.2]
      refine iteF ?_
      walk_at "go"
      exact ⟨_, rfl, rfl⟩
    · rintro σ H' ⟨v4, rfl, rfl⟩
      walk_at "go"
      rw [List.length_map]
      refine use_sr (hw.same s1) hN2 A1 A2 hn fun o H2 no s2 hso => ?_
      obtain ⟨dx, sc, ct, cs, kk, ho, ro⟩ := id hso
      refine w_methi ho (sr_no (by decide +kernel) (by decide +kernel) (by decide +kernel) (by decide +kernel) (by decide +kernel)) ?_
      clear ho ro
      walk_at "go"
      refine ⟨o, x, t, A, b, ts, ps, y, rfl, hso, hN2, A1, A2, hn, s2 _ _ h1, hts, fun H3 s3 => ?_⟩
      exact q H3 (s1.trans (s2.trans s3))
noncomputable abbrev s_scinit : Stmt := (inClass (top 37) 0)
theorem sc_scinit : FnScope ["self", "bases", "number", "low", "base"] ["self", "bases", "number", "low"] (defScope s_scinit) :=
  ⟨rfl, rfl, rfl, by decide +kernel, rfl, by decide +kernel, by decide +kernel⟩
theorem ok_scinit {Cq : Addr} {f : Addr} {fd : FuncData} (F : FunD K "__init__" "Scale.__init__" (defArgs s_scinit) (defBody s_scinit) (defScope s_scinit) [] [] f fd) (T : Bt mg) (S : KSc K mg Cq) : FnOk P w K mg base L2.CX0 1 f fd ["self", "bases", "number", "low"] (spScInit Cq) := by
  refine fnD_ok F sc_scinit (fun vs H Q E h => ?_) (fun cdv A outer s H vs Q E hr h => ?_)
  · obtain ⟨o, dx, l, bs, N, lw, rfl, _⟩ := h
    rfl
  · obtain ⟨o, dx, l, bs, N, lw, rfl, ho, hl, hb, q⟩ := h
    refine ⟨_, (pss_cons (ps_fld (pv 0) (pv 1) rfl)
      (pss_cons (ps_fld (pv 0) (pv 2) rfl)
      (pss_cons (ps_fld (pv 0) (pv 3) rfl)
      (pss_one (ps_fld (pv 0) (pe_callTy cTupOf (by rfl) T.tuple (by decide +kernel) (pa_cons (pe_lc (own := [("base", 4)]) (g := gName 4) (tt := tYes) (te := _) rfl sc_scinit.nd (pi_list (pv 1)) (blkOk_by (own := [("base", 4)]) (N := ["self", "bases", "number", "low", "base"]) (sc := defScope s_scinit) (by decide +kernel)) (fun _ _ _ _ _ => (pg_name (i := 4) sc_scinit.nd rfl (Or.inl rfl))) (fun _ _ _ _ _ => pts_nil) (fun _ _ _ _ _ => pe_int)) pa_nil)) rfl))))), ?_⟩
    have nlo : l ≠ o := fun e => by rw [e, ho] at hl; cases hl
    walk_at "go"
    refine w_sfldi ho S.cl.cl S.bases (by decide) ?_
    walk_at "go"
    refine w_sfldi L2.upd_same S.cl.cl S.number (by show 1 < 1000; decide) ?_
    walk_at "go"
    refine w_sfldi L2.upd_same S.cl.cl S.low (by rw [put0, putS (by decide +kernel), put0]; show 2 < 1000; decide) ?_
    have e1 : putF "low" (.bl lw) (putF "number" (.int N) (putF "bases" (.ref l) [])) = ([("bases", V.ref l), ("number", .int N), ("low", .bl lw)] : List (Str × V)) := by
      rw [put0, putS (by decide +kernel), put0, putS (by decide +kernel), putS (by decide +kernel)]
      rfl
    rw [e1]
    generalize hH2 : upd (upd (upd H o (.ins Cq dx (putF "bases" (.ref l) []))) o (.ins Cq dx (putF "number" (.int N) (putF "bases" (.ref l) [])))) o (.ins Cq dx [("bases", V.ref l), ("number", .int N), ("low", .bl lw)]) = H2
    have h2 : H2 o = some (.ins Cq dx [("bases", V.ref l), ("number", .int N), ("low", .bl lw)]) := by rw [← hH2, L2.upd_same]
    have k2 : ∀ a ob, a ≠ o → H a = some ob → H2 a = some ob := fun a ob na e => by rw [← hH2, upd_ne na, upd_ne na, upd_ne na]; exact e
    have l2 := k2 _ _ nlo hl
    walk_at "go"
    intro D hD
    refine lc_pure (bs.map V.int) ((zr bs).map V.int) walk_list hD (fun H' s => sq (s _ _ l2)) (by unfold zr; simp) (by unfold zr; simp; omega) (fun _ => rfl) ?_ ?_
    · intro i x z H' hx hz sm Q' q'
      obtain ⟨z0, hz0, rfl⟩ := get_map hz
      have : z0 = 0 := by
        unfold zr at hz0
        obtain ⟨_, _, rfl⟩ := get_map hz0
        rfl
      subst this
      walk_at "go"
      exact q' _ (Same.refl _)
    · intro H3 s3 hD3
      walk_at "go"
      refine w_tupL (sq hD3) (al fun z H4 n4 s4 h4 => ?_)
      walk_at "go"
      have ho4 := s4 _ _ (s3 _ _ h2)
      refine w_sfldi ho4 S.cl.cl S.zero (by show 3 < 1000; decide) ?_
      have e5 : putF "zero" (.ref z) [("bases", V.ref l), ("number", .int N), ("low", .bl lw)] = scF l N lw z := by
        rw [putS (by decide +kernel), putS (by decide +kernel), putS (by decide +kernel)]
        rfl
      rw [e5]
      walk_at "go"
      have nzo : z ≠ o := fun e => by rw [e] at h4; rw [ho4] at h4; cases h4
      refine q _ (fun b o' nb e => ?_) ⟨dx, l, z, L2.upd_same, ?_, ?_⟩
      · rw [upd_ne nb]
        exact s4 _ _ (s3 _ _ (k2 _ _ nb e))
      · rw [upd_ne nlo]
        exact s4 _ _ (s3 _ _ l2)
      · rw [upd_ne nzo]
        exact h4
noncomputable abbrev s_led : Stmt := (inClass (top 37) 3)
theorem sc_led : FnScope ["self", "rests", "step", "rest", "base"] ["self", "rests", "step"] (defScope s_led) :=
  ⟨rfl, rfl, rfl, by decide +kernel, rfl, by decide +kernel, by decide +kernel⟩
theorem ok_led {Cq : Addr} {f : Addr} {fd : FuncData} (F : FunD K "led" "Scale.led" (defArgs s_led) (defBody s_led) (defScope s_led) [] [] f fd) (T : Bt mg) (S : KSc K mg Cq) : FnOk P w K mg base L2.CX0 1 f fd ["self", "rests", "step"] (spLed Cq) := by
  refine fnD_ok F sc_led (fun vs H Q E h => ?_) (fun cdv A outer s H vs Q E hr h => ?_)
  · obtain ⟨o, p, bs, r, N, st, lw, rfl, _⟩ := h
    rfl
  · obtain ⟨o, p, bs, r, N, st, lw, rfl, ⟨dx, l, z, ho, hl, hz⟩, hp, hrl, hb, hN, hN2, hr0, hb0, hs, q⟩ := h
    refine ⟨_, (pss_one (ps_ret (pe_callTy cTupOf (by rfl) T.tuple (by decide +kernel) (pa_cons (pe_lc (own := [("rest", 3), ("base", 4)]) (g := gTup _ 2 (gCons (gName 3) (gCons (gName 4) gNil))) (tt := tYes) (te := (tOp _ (tOp _ (tOp _ (tVar 3) (tVar 4)) (tVar 2)) (tFld K (tVar 0) "number"))) rfl sc_led.nd (pi_zipTL (by rfl) T.zip (pa_cons (pv 1) (pa_cons (pe_fld (pv 0) rfl) pa_nil))) (blkOk_by (own := [("rest", 3), ("base", 4)]) (N := ["self", "rests", "step", "rest", "base"]) (sc := defScope s_led) (by decide +kernel)) (fun _ _ _ _ _ => (pg_tup rfl (pgs_cons (pg_name (i := 3) sc_led.nd rfl (Or.inl rfl)) (pgs_cons (pg_name (i := 4) sc_led.nd rfl (Or.inl rfl)) pgs_nil)))) (fun _ _ _ _ _ => pts_nil) (fun _ _ _ _ _ => (pe_op op_mod (pe_op op_add (pe_op oMul (pv 3) (pv 4)) (pv 2)) (pe_fld (pv 0) rfl)))) pa_nil)))), ?_⟩
    walk_at "go"
    refine w_iZipTL ?_
    walk_at "go"
    refine w_fldi ho S.cl.cl S.bases sc_bases ?_
    walk_at "go"
    refine ⟨p, l, r.map V.int, bs.map V.int, rfl, sqt hp, sq hl, ?_⟩
    intro D hD
    refine lc_zipQ r bs (ledV bs N r st) hrl (by rw [ledV_len hrl, hrl]) hD (fun H' sm => ⟨sqt (sm _ _ hp), sq (sm _ _ hl)⟩) (by omega) (fun _ _ => rfl) ?_ ?_
    · intro i x y zz H' hx hy hz sm Q' q'
      have hxb := hr0 x (List.mem_of_getElem? hx)
      have hyb := hb0 y (List.mem_of_getElem? hy)
      have ez : zz = (x * y + st) % N := by
        unfold ledV at hz
        rw [List.getElem?_zipWith, hx, hy] at hz
        exact (Option.some.inj hz).symm
      walk_at "go"
      refine w_fldi (sm _ _ ho) S.cl.cl S.number sc_number ?_
      walk_at "go"
      rw [← ez]
      exact q' _ (Same.refl _)
    · intro H1 s1 hD1
      walk_at "go"
      refine w_tupL (sq hD1) (al fun t H2 n2 s2 h2 => ?_)
      exact q H2 t (s1.free n2) (s1.trans s2) h2
noncomputable abbrev s_scof : Stmt := (top 38)
theorem sc_scof : FnScope ["way"] ["way"] (defScope s_scof) :=
  ⟨rfl, rfl, rfl, by decide +kernel, rfl, by decide +kernel, by decide +kernel⟩
theorem ok_scof {c : CA} {Cq : Addr} (F : Dn K mg "scale_of" s_scof ["way"]) (T : Bt mg) (X : Kx K mg c) (c_sc : Mak P w K mg base 1 "Scale" Cq (spScInit Cq) []) : Cal P w K mg base 3 "scale_of" (spScaleOf c Cq) [] := by
  refine F.cal sc_scof (fun vs H Q E h => ?_) (fun f cdv A outer s H vs Q E hr h => ?_)
  · obtain ⟨x, b, ps, y, rfl, _⟩ := h
    rfl
  · obtain ⟨x, b, ps, y, rfl, hw, q⟩ := h
    refine ⟨_, (pss_one (ps_ret (pe_mk c_sc hr (by decide) (by rfl) (pa_cons (pe_lst (pa_cons (pe_fld (pv 0) rfl) pa_nil)) (pa_cons (pe_fld (pv 0) rfl) (pa_cons (pe_fld (pe_fld (pv 0) rfl) rfl) pa_nil)))))), ?_⟩
    walk_at "go"
    refine al fun l H1 n1 s1 h1 => ?_
    walk_at "go"
    refine use_sc (bs := [b]) h1 (by simp) fun o H2 n2 s2 h2 => ?_
    exact q H2 o (s1.trans s2) h2
noncomputable abbrev s_alltrue : Stmt := (top 39)
theorem sc_alltrue : FnScope ["things", "found", "thing"] ["things"] (defScope s_alltrue) :=
  ⟨rfl, rfl, rfl, by decide +kernel, rfl, by decide +kernel, by decide +kernel⟩
theorem ok_alltrue (F : Dn K mg "all_true" s_alltrue ["things"]) (T : Bt mg) : Cal P w K mg base 1 "all_true" spAllTrue [] := by
  refine F.cal sc_alltrue (fun vs H Q E h => ?_) (fun f cdv A outer s H vs Q E hr h => ?_)
  · obtain ⟨l, tss, rfl, _⟩ := h
    rfl
  · obtain ⟨l, tss, rfl, ⟨ts, hl, hts⟩, hsz, q⟩ := h
    refine ⟨_, (pss_cons (ps_set (i := 1) sc_alltrue.nd rfl (Or.inl rfl) pe_dnewT)
      (pss_cons (ps_for PassesOwn.never rfl (pi_list (pv 0)) (pg_name (i := 2) sc_alltrue.nd rfl (Or.inl rfl)) (pss_one (ps_asg pe_bl (pg_sub (pv 1) (pv 2) (set_dict (u66q hr))))))
      (pss_one (ps_ret (pv 1))))), ?_⟩
    walk_at "go"
    refine w_dnewT (al fun d H1 n1 s1 h1 => ?_)
    walk_at "go"
    have hll := hts.length
    refine for_list (K := K) (a := l) (xs := ts.map V.ref) (fun i σ H' => ∃ (ks : List (List Int)) (v2 : Option V), σ = [some (.ref l), some (.ref d), v2] ∧ Same H H' ∧ H' d = some (.dT (ks.map fun k => (kk k, V.bl true))) ∧ ks.Nodup ∧ ks.length ≤ i ∧ ∀ k, k ∈ ks ↔ k ∈ tss.take i)
      ⟨[], none, rfl, s1, h1, List.nodup_nil, Nat.le_refl _, fun k => by simp⟩ (fun i σ H' _ z => by obtain ⟨_, _, _, z, _⟩ := z; exact sq (z _ _ hl)) ?_ ?_
    · rintro i x σ H2 hi ⟨ks, v2, rfl, s2, h2, hn, hkl, hks⟩
      obtain ⟨t, ht, rfl⟩ := get_map hi
      obtain ⟨u, hu, htu⟩ := paired_get hts ht
      have hil : i < ts.length := (List.getElem?_eq_some_iff.mp ht).1
      obtain ⟨ks', e1, e2, e3, e4⟩ := dt_put (k := u) hn
      have hszl : (100000 : Nat) < sizeLine := by decide
      walk_at "go"
      refine w_setDq ⟨d, _, rfl, DPut.t (k := kk u) h2 (by rw [kk_val]; exact s2 _ _ htu) (by rw [List.length_map]; omega), ?_⟩
      rw [e1]
      walk_at "go"
      refine ⟨ks', _, rfl, same_apC n1 s2, L2.upd_same, e2, by omega, fun k => ?_⟩
      rw [e4, hks, List.take_add_one, hu]
      simp
    · rintro σ H2 ⟨ks, v2, rfl, s2, h2, hn, hkl, hks⟩
      rw [List.length_map, ← hll, List.take_length] at hks
      walk_at "go"
      exact q H2 d n1 s2 ⟨ks, h2, hn, hks⟩
noncomputable abbrev s_lstlen : Stmt := (top 40)
theorem sc_lstlen : FnScope ["scale", "stock", "steps", "sums", "step", "length", "rests"] ["scale", "stock"] (defScope s_lstlen) :=
  ⟨rfl, rfl, rfl, by decide +kernel, rfl, by decide +kernel, by decide +kernel⟩
theorem ok_lstlen {Cq : Addr} (F : Dn K mg "least_length" s_lstlen ["scale", "stock"]) (T : Bt mg) (S : KSc K mg Cq) (c_led : Met P w K mg base 1 Cq "led" (spLed Cq) []) (c_alltrue : Cal P w K mg base 1 "all_true" spAllTrue []) : Cal P w K mg base 2 "least_length" (spLeastLen Cq) [] := by
  refine F.cal sc_lstlen (fun vs H Q E h => ?_) (fun f cdv A' outer s H vs Q E hr h => ?_)
  · obtain ⟨o, bs, N, A, lw, rfl, _⟩ := h
    rfl
  · obtain ⟨o, bs, N, A, lw, rfl, hsc, hb, hN, hN2, hbs, A1, A2, q1, q2⟩ := h
    obtain ⟨dx, l, z, ho, hl, hz⟩ := id hsc
    refine ⟨_, (pss_cons (ps_if (pt_cmpR op_eq (pv 1) pe_int (nomark _)) (pss_one (ps_ret pe_non)) pss_nil)
      (pss_cons (ps_set (i := 2) sc_lstlen.nd rfl (Or.inr rfl) (pe_listRg rfl (by rfl) T.list (prg_2 (by rfl) T.range (pe_op op_sub pe_int (pv 1)) (pv 1))))
      (pss_cons (ps_set (i := 3) sc_lstlen.nd rfl (Or.inl rfl) (pe_c c_alltrue hr (by decide) (by rfl) (pa_cons (pe_lc (own := [("step", 4)]) (g := gName 4) (tt := (tTest (tOp _ (tVar 4) _))) (te := (tMeth _ _ _ _ _ (tVar 0) (tCons (tFld K (tVar 0) "zero") (tCons (tVar 4) tNil)))) rfl sc_lstlen.nd (pi_list (pv 2)) (blkOk_by (own := [("step", 4)]) (N := ["scale", "stock", "steps", "sums", "step", "length", "rests"]) (sc := defScope s_lstlen) (by decide +kernel)) (fun _ _ _ _ _ => (pg_name (i := 4) sc_lstlen.nd rfl (Or.inl rfl))) (fun _ _ _ _ _ => (pts_one (pt_cmpR op_ne (pv 4) pe_int (nomark _)))) (fun _ _ _ _ _ => (pe_mt c_led hr (by decide) (pv 0) (pa_cons (pe_fld (pv 0) rfl) (pa_cons (pv 4) pa_nil))))) pa_nil)))
      (pss_cons (ps_set (i := 5) sc_lstlen.nd rfl (Or.inl rfl) pe_int)
      (pss_cons (ps_while PassesOwn.never (pt_cmp (pc_dnotin (u66q hr) (pe_fld (pv 0) rfl) (pv 3))) (pss_cons (ps_set (i := 3) sc_lstlen.nd rfl (Or.inl rfl) (pe_c c_alltrue hr (by decide) (by rfl) (pa_cons (pe_lock (pe_lc2 (own := [("rests", 6), ("step", 4)]) (vs1 := [4]) (g := gName 6) (g1 := gName 4) (tt := tYes) (tt1 := tYes) (wi1 := (iList K (tVar 2))) (te := (tMeth _ _ _ _ _ (tVar 0) (tCons (tVar 6) (tCons (tVar 4) tNil)))) rfl sc_lstlen.nd (pi_keys (pv 3)) (blkOk_by (own := [("rests", 6), ("step", 4)]) (N := ["scale", "stock", "steps", "sums", "step", "length", "rests"]) (sc := defScope s_lstlen) (by decide +kernel)) (by decide) (fun _ _ _ _ _ => (pg_name (i := 6) sc_lstlen.nd rfl (Or.inl rfl))) (fun _ _ _ _ _ => pts_nil) (fun _ _ _ _ _ => (pi_list (pv 2))) (fun _ _ _ _ _ => (pg_name (i := 4) sc_lstlen.nd rfl (Or.inl rfl))) (fun _ _ _ _ _ => pts_nil) (fun _ _ _ _ _ => (pe_mt c_led hr (by decide) (pv 0) (pa_cons (pv 6) (pa_cons (pv 4) pa_nil)))))) pa_nil)))
      (pss_one (ps_aug (i := 5) sc_lstlen.nd rfl (Or.inl rfl) pe_int ip_add))))
      (pss_one (ps_ret (pv 5)))))))), ?_⟩
    walk_at "go"
    rw [decI]
    refine ite_d (fun hA => ?_) (fun hA => ?_)
    · walk_at "go"
      exact q1 hA
    · obtain ⟨M, M0, hfew, hM, hleast, q⟩ := q2 hA
      walk_at "go"
      refine al fun sp H1 n1 s1 h1 => ?_
      have eL : (stps A.toNat).map V.int = (List.range (A - (1 - A)).toNat).map fun i : Nat => V.int (1 - A + i) := by
        unfold stps
        rw [List.map_map, show (A - (1 - A)).toNat = 2 * A.toNat - 1 by omega, Int.toNat_of_nonneg (by omega)]
        rfl
      have hst : H1 sp = some (.lst ((stps A.toNat).map V.int)) := by rw [eL]; exact h1
      clear h1 eL
      have hsl := stps_len A.toNat
      have hM2 : M * (2 * A.toNat - 1) ≤ 100000 := Nat.le_trans (Nat.mul_le_mul_left _ (by omega)) hM
      walk_at "go"
      intro D hD
      refine lc_relF ((stps A.toNat).map V.int) (fun v => match v with | .int s => decide (s ≠ 0) | _ => false) (fun x y G => ∃ (p : Addr) (s : Int), x = .int s ∧ y = .ref p ∧ G p = some (.tup ((ledV bs N (zr bs) s).map V.int))) (fun x y G G' sg hz => by obtain ⟨p, s, e1, e2, e3⟩ := hz; exact ⟨p, s, e1, e2, sg _ _ e3⟩) walk_list hD (fun H' sm => sq (sm _ _ hst)) (by rw [List.length_map, hsl]; omega) (fun _ => rfl) ?_ ?_ ?_
      · intro i x H2 hx s2 Q' q'
        obtain ⟨s0, hs0, rfl⟩ := get_map hx
        walk_at "go"
        rw [decI, ← decide_not]
        exact q'
      · rintro i x H2 hx hp s2 ⟨acc, hacc⟩ Q' q'
        obtain ⟨s0, hs0, rfl⟩ := get_map hx
        have hsb := stps_mem.mp (List.mem_of_getElem? hs0)
        walk_at "go"
        refine w_methi (s2 _ _ (s1 _ _ ho)) (sc_no (by decide +kernel) (by decide +kernel) (by decide +kernel) (by decide +kernel)) ?_
        walk_at "go"
        refine w_fldi (s2 _ _ (s1 _ _ ho)) S.cl.cl S.zero sc_zero ?_
        walk_at "go"
        refine ⟨o, z, bs, zr bs, N, s0, lw, rfl, (hsc.same s1).same s2, s2 _ _ (s1 _ _ hz), by unfold zr; simp, hb, hN, hN2, (fun x hx => by unfold zr at hx; obtain ⟨_, _, rfl⟩ := List.mem_map.mp hx; omega), hbs, by omega, fun H3 p n3 s3 h3 => ?_⟩
        exact q' _ _ s3 ⟨p, s0, rfl, rfl, rm_of (fun e => by rw [← e, n3] at hacc; cases hacc) h3⟩
      · intro H2 ys s2 hD2 hp2
        have hT : TLq H2 D (((stps A.toNat).filter fun s => decide (s ≠ 0)).map (ledV bs N (zr bs))) := by
          have key : ∀ {ss : List Int} {ys : List V}, Paired (fun x y => ∃ (p : Addr) (s : Int), x = .int s ∧ y = .ref p ∧ H2 p = some (.tup ((ledV bs N (zr bs) s).map V.int))) (ss.map V.int) ys → ∃ ts : List Addr, ys = ts.map V.ref ∧ Paired (fun us t => H2 t = some (.tup (us.map V.int))) (ss.map (ledV bs N (zr bs))) ts := by
            intro ss
            induction ss with
            | nil =>
              intro ys h
              cases h
              exact ⟨[], rfl, .nil⟩
            | cons s ss ih =>
              intro ys h
              cases h with
              | cons r t =>
                obtain ⟨p, s', e1, rfl, e3⟩ := r
                obtain ⟨ts, rfl, h2⟩ := ih t
                have e1 : s = s' := V.int.inj e1
                subst e1
                exact ⟨p :: ts, rfl, .cons e3 h2⟩
          have ef : ((stps A.toNat).map V.int).filter (fun v => match v with | .int s => decide (s ≠ 0) | _ => false) = ((stps A.toNat).filter fun s => decide (s ≠ 0)).map V.int := by
            rw [List.filter_map]
            rfl
          rw [ef] at hp2
          obtain ⟨ts, rfl, h2⟩ := key hp2
          exact ⟨ts, hD2, h2⟩
        walk_at "go"
        have hlf := List.length_filter_le (fun s => decide (s ≠ 0)) (stps A.toNat)
        refine ⟨D, _, rfl, hT, by rw [List.length_map]; omega, fun H3 d n3 s3 hd3 => ?_⟩
        have S3 : Same H1 H3 := s2.trans s3
        have nd3 : H1 d = none := s2.free n3
        walk_at "go"
        refine while_go (fun σ H' => ∃ (m : Nat) (d : Addr) (SS : List (List Int)) (v4 v6 : Option V), σ = [some (.ref o), some (.int A), some (.ref sp), some (.ref d), v4, some (.int (m : Nat)), v6] ∧ Same H1 H' ∧ DtAt H' d SS ∧ (∀ k, k ∈ SS ↔ Sms bs N A.toNat m k) ∧ 1 ≤ m ∧ m ≤ M0) (fun σ _ => match σ with | [_, _, _, _, _, some (.int x), _] => M0 - x.toNat | _ => 0)
          ⟨1, d, _, _, _, rfl, S3, hd3, fun k => Sms.first.symm, Nat.le_refl _, hleast.pos⟩ ?_
        rintro σ H4 ⟨m, d4, SS, v4, v6, rfl, s4, ⟨ks, hd4, hn4, hk4⟩, hSS, m1, m2⟩
        have sc4 : ScAt Cq H4 o bs N lw := (hsc.same s1).same s4
        have hz4 := s4 _ _ (s1 _ _ hz)
        have ho4 := s4 _ _ (s1 _ _ ho)
        refine w_tB (w_dnotin ?_)
        walk_at "go"
        refine w_fldi ho4 S.cl.cl S.zero sc_zero ?_
        walk_at "go"
        refine ⟨d4, _, rfl, DGet.t (k := kk (zr bs)) hd4 (by rw [kk_val]; exact hz4), ?_⟩
        rw [dt_val]
        by_cases hin : zr bs ∈ ks
        · rw [if_pos hin]
          have hS : Sms bs N A.toNat m (zr bs) := (hSS _).mp ((hk4 _).mp hin)
          have hm : m = M0 := by
            refine Classical.byContradiction fun c => ?_
            exact hleast.no m (by omega) hS
          walk_at "go"
          refine iteF ?_
          walk_at "go"
          rw [hm]
          exact q H4 (s1.trans s4)
        · rw [if_neg hin]
          have hlt : m < M0 := by
            refine Classical.byContradiction fun c => ?_
            have e : m = M0 := by omega
            exact hin ((hk4 _).mpr ((hSS _).mpr (by rw [e]; exact hleast.hit)))
          walk_at "go"
          refine iteT ?_
          walk_at "go"
          refine ⟨d4, _, hd4, trivial, fun od => ?_⟩
          have hkM : ks.length ≤ M := hfew ks hn4 fun k hk => by
            have := (hSS k).mp ((hk4 k).mp hk)
            exact ⟨this.len, this.rng hN⟩
          have hprod : ks.length * (2 * A.toNat - 1) ≤ 100000 := Nat.le_trans (Nat.mul_le_mul_right _ hkM) hM2
          obtain ⟨H5, hH5⟩ : ∃ H5, H5 = upd H4 d4 (.frz od (.dT (ks.map fun k => (kk k, V.bl true)))) := ⟨_, rfl⟩
          rw [← hH5]
          have so : Same (rm d4 H4) H5 := by
            rw [hH5]
            intro b ob e
            by_cases c : b = d4
            · subst c
              unfold rm at e
              rw [if_pos rfl] at e
              cases e
            · rw [upd_ne c]
              exact rm_le _ _ e
          have oo : ∀ {b : Addr} {C dx' : Addr} {fs : List (Str × V)}, H4 b = some (.ins C dx' fs) → rm d4 H4 b = some (.ins C dx' fs) := fun e => rm_of (fun z => by rw [z, hd4] at e; cases e) e
          have ol : ∀ {b : Addr} {xs : List V}, H4 b = some (.lst xs) → rm d4 H4 b = some (.lst xs) := fun e => rm_of (fun z => by rw [z, hd4] at e; cases e) e
          have ot : ∀ {b : Addr} {xs : List V}, H4 b = some (.tup xs) → rm d4 H4 b = some (.tup xs) := fun e => rm_of (fun z => by rw [z, hd4] at e; cases e) e
          have sc5 : ScAt Cq (rm d4 H4) o bs N lw := ⟨dx, l, z, oo ho4, ol (s4 _ _ (s1 _ _ hl)), ot hz4⟩
          have sp5 := ol (s4 _ _ hst)
          have ho5 := oo ho4
          have hd5 : H5 d4 = some (.frz od (.dT (ks.map fun k => (kk k, V.bl true)))) := by rw [hH5, L2.upd_same]
          have hun : ∀ H6, Same H5 H6 → Same H4 (upd H6 d4 (.dT (ks.map fun k => (kk k, V.bl true)))) := fun H6 s6 b ob e => by
            by_cases c : b = d4
            · subst c
              rw [L2.upd_same, ← e, hd4]
            · rw [upd_ne c]
              exact s6 _ _ (by rw [hH5, upd_ne c]; exact e)
          clear hH5
          unfold tLc2 iKeys
          walk_at "go"
          refine ⟨d4, od, rfl, .inr ⟨_, hd5, ?_⟩⟩
          intro D2 hD2'
          have nD2 : D2 ≠ d4 := fun e => by rw [e, hd5] at hD2'; cases hD2'
          have hrowlen : ∀ k : List Int, ((stps A.toNat).map (ledV bs N k)).length = ((stps A.toNat).map V.int).length := fun k => by rw [List.length_map, List.length_map]
          refine lc2_kt (K := K) (a := sp) (steps := (stps A.toNat).map V.int) (fun k => (stps A.toNat).map (ledV bs N (unk k))) (fun kv _ => hrowlen _) (by rw [List.length_map, List.length_map, hsl]; omega) hd5 (so _ _ sp5) hD2' (fun _ => rfl) (fun _ _ => rfl) ?_ ?_ ?_
          · intro v H6 R s6 hR
            refine w_iList ?_
            walk_at "go"
            exact hR
          · rintro kv qq li x us H6 hkv hx hrx s6 hqq ⟨acc, hacc⟩ Q' q'
            obtain ⟨k, hk, rfl⟩ := List.mem_map.mp hkv
            have hSk := (hSS k).mp ((hk4 k).mp hk)
            obtain ⟨s0, hs0, rfl⟩ := get_map hx
            have hsb := stps_mem.mp (List.mem_of_getElem? hs0)
            have eus : us = ledV bs N k s0 := by
              rw [show unk (kk k) = k from unk_kk k, List.getElem?_map, hs0] at hrx
              exact (Option.some.inj hrx).symm
            subst eus
            have hqq : H6 qq = some (.tup (k.map V.int)) := by rw [← kk_val]; exact hqq
            have sc6 : ScAt Cq H6 o bs N lw := (sc5.same so).same s6
            walk_at "go"
            refine w_methi (s6 _ _ (so _ _ ho5)) (sc_no (by decide +kernel) (by decide +kernel) (by decide +kernel) (by decide +kernel)) ?_
            walk_at "go"
            refine ⟨o, qq, bs, k, N, s0, lw, rfl, sc6, hqq, hSk.len, hb, hN, hN2, hSk.rng hN, hbs, by omega, fun H7 p n7 s7 h7 => ?_⟩
            exact q' p H7 s7 n7 h7
          · intro H6 ys s6 hD6 hp6
            refine ⟨s6 _ _ hd5, ?_⟩
            have hS6 := hun H6 s6
            have hD6' : upd H6 d4 (.dT (ks.map fun k => (kk k, V.bl true))) D2 = some (.lst (ys.map V.ref)) := by rw [upd_ne nD2]; exact hD6
            have hp6' : Paired (fun us t => upd H6 d4 (.dT (ks.map fun k => (kk k, V.bl true))) t = some (.tup (us.map V.int))) (ks.flatMap fun k => (stps A.toNat).map (ledV bs N k)) ys := by
              have e : ((ks.map fun k => (kk k, V.bl true)).flatMap fun kv => (stps A.toNat).map (ledV bs N (unk kv.1))) = ks.flatMap fun k => (stps A.toNat).map (ledV bs N k) := by
                rw [List.flatMap_map]
                congr 1
                funext k
                show (stps A.toNat).map (ledV bs N (unk (kk k))) = _
                rw [unk_kk]
              rw [e] at hp6
              refine paired_imp (fun us t hh => ?_) hp6
              rw [upd_ne (fun e => by rw [e, s6 _ _ hd5] at hh; cases hh)]
              exact hh
            generalize upd H6 d4 (.dT (ks.map fun k => (kk k, V.bl true))) = H7 at hS6 hD6' hp6' ⊢
            walk_at "go"
            have hflen : (ks.flatMap fun k => (stps A.toNat).map (ledV bs N k)).length = ks.length * (2 * A.toNat - 1) := flat_lenQ _ fun k => by rw [List.length_map, hsl]
            refine ⟨D2, _, rfl, ⟨ys, hD6', hp6'⟩, by rw [hflen]; exact hprod, fun H8 d8 n8 s8 hd8 => ?_⟩
            walk_at "go"
            refine ⟨?_, m + 1, d8, _, _, _, rfl, s4.trans (hS6.trans s8), hd8, fun k => ?_, by omega, by omega⟩
            · show M0 - ((m : Int) + 1).toNat < M0 - (m : Int).toNat
              omega
            · rw [List.mem_flatMap, Sms.succ m1]
              constructor
              · rintro ⟨k', h1, h2⟩
                obtain ⟨s0, h3, rfl⟩ := List.mem_map.mp h2
                exact ⟨k', (hSS k').mp ((hk4 k').mp h1), s0, h3, rfl⟩
              · rintro ⟨k', h1, s0, h3, rfl⟩
                exact ⟨k', (hk4 k').mpr ((hSS k').mpr h1), List.mem_map.mpr ⟨s0, h3, rfl⟩⟩
noncomputable abbrev s_scweight : Stmt := (inClass (top 37) 1)
theorem sc_scweight : FnScope ["self", "exponent", "base"] ["self", "exponent"] (defScope s_scweight) :=
  ⟨rfl, rfl, rfl, by decide +kernel, rfl, by decide +kernel, by decide +kernel⟩
theorem ok_scweight {Cq : Addr} {f : Addr} {fd : FuncData} (F : FunD K "weight" "Scale.weight" (defArgs s_scweight) (defBody s_scweight) (defScope s_scweight) [] [] f fd) (T : Bt mg) (S : KSc K mg Cq) (c_power : Cal P w K mg base 1 "power_rest" spPower []) : FnOk P w K mg base L2.CX0 2 f fd ["self", "exponent"] (spScW Cq) := by
  refine fnD_ok F sc_scweight (fun vs H Q E h => ?_) (fun cdv A outer s H vs Q E hr h => ?_)
  · obtain ⟨o, bs, N, e, lw, rfl, _⟩ := h
    rfl
  · obtain ⟨o, bs, N, e, lw, rfl, ⟨dx, l, z, ho, hl, hz⟩, sb, he, q⟩ := h
    refine ⟨_, (pss_one (ps_ret (pe_callTy cTupOf (by rfl) T.tuple (by decide +kernel) (pa_cons (pe_lc (own := [("base", 2)]) (g := gName 2) (tt := tYes) (te := (tCall _ _ _ (tCons (tVar 2) (tCons (tVar 1) (tCons (tFld K (tVar 0) "number") tNil))))) rfl sc_scweight.nd (pi_list (pe_fld (pv 0) rfl)) (blkOk_by (own := [("base", 2)]) (N := ["self", "exponent", "base"]) (sc := defScope s_scweight) (by decide +kernel)) (fun _ _ _ _ _ => (pg_name (i := 2) sc_scweight.nd rfl (Or.inl rfl))) (fun _ _ _ _ _ => pts_nil) (fun _ _ _ _ _ => (pe_c c_power hr (by decide) (by rfl) (pa_cons (pv 2) (pa_cons (pv 1) (pa_cons (pe_fld (pv 0) rfl) pa_nil)))))) pa_nil)))), ?_⟩
    have hN := sb.pos
    have hN2 := sb.le
    have hbl := sb.len
    walk_at "go"
    refine w_fldi ho S.cl.cl S.bases sc_bases ?_
    walk_at "go"
    intro D hD
    refine lc_pure (bs.map V.int) ((wtV bs (pwF N e)).map V.int) walk_list hD (fun H' s => sq (s _ _ hl)) (by unfold wtV; simp) (by unfold wtV; simp; omega) (fun _ => rfl) ?_ ?_
    · intro i x zz H' hx hz' sm Q' q'
      obtain ⟨b, hb, rfl⟩ := get_map hx
      unfold wtV at hz'
      rw [List.getElem?_map, List.getElem?_map, hb] at hz'
      cases hz'
      walk_at "go"
      refine w_fldi (sm _ _ ho) S.cl.cl S.number sc_number ?_
      walk_at "go"
      refine ⟨b, e, N, 11, rfl, by omega, by omega, hN, by omega, by decide, ?_⟩
      rw [Int.toNat_natCast]
      exact q' _ (Same.refl _)
    · intro H1 s1 hD1
      walk_at "go"
      refine w_tupL (sq hD1) (al fun t H2 n2 s2 h2 => ?_)
      exact q H2 t (s1.free n2) (s1.trans s2) h2
noncomputable abbrev s_scweights : Stmt := (inClass (top 37) 2)
theorem sc_scweights : FnScope ["self", "length", "found", "place"] ["self", "length"] (defScope s_scweights) :=
  ⟨rfl, rfl, rfl, by decide +kernel, rfl, by decide +kernel, by decide +kernel⟩
theorem ok_scweights {Cq : Addr} {f : Addr} {fd : FuncData} (F : FunD K "weights" "Scale.weights" (defArgs s_scweights) (defBody s_scweights) (defScope s_scweights) [] [] f fd) (T : Bt mg) (S : KSc K mg Cq) (c_scweight : C8.Met P w K mg base 2 Cq "weight" (spScW Cq) []) : FnOk P w K mg base L2.CX0 3 f fd ["self", "length"] (spWeights Cq) := by
  refine fnD_ok F sc_scweights (fun vs H Q E h => ?_) (fun cdv A outer s H vs Q E hr h => ?_)
  · obtain ⟨o, bs, N, n, lw, rfl, _⟩ := h
    rfl
  · obtain ⟨o, bs, N, n, lw, rfl, hsc, sb, hn, q⟩ := h
    obtain ⟨dx, l, z, ho, hl, hz⟩ := id hsc
    refine ⟨_, (pss_cons (ps_setLc (i := 2) (own := [("place", 3)]) (g := gName 3) (tt := tYes) (te := (tMeth _ _ _ _ _ (tVar 0) (tCons (tVar 3) tNil))) rfl sc_scweights.nd rfl rfl (sw_true rfl rfl rfl (by decide +kernel)) (pi_range1 (by rfl) T.range (pa_cons (pv 1) pa_nil)) (blkOk_by (own := [("place", 3)]) (N := ["self", "length", "found", "place"]) (sc := defScope s_scweights) (by decide +kernel)) (fun _ _ _ _ _ => (pg_name (i := 3) sc_scweights.nd rfl (Or.inl rfl))) (fun _ _ _ _ _ => pts_nil) (fun _ _ _ _ _ => (pe_mt c_scweight hr (by decide) (pv 0) (pa_cons (pv 3) pa_nil))))
      (pss_one (ps_ret (pe_ifExp (pt_val (pe_fld (pv 0) rfl)) (pv 2) (pe_revL (pv 2)))))), ?_⟩
    walk_at "go"
    intro D hD
    rw [Int.toNat_natCast]
    refine lc_rel ((List.range n).map fun i : Nat => V.int (0 + (i : Int))) (fun x y G => ∃ t, y = .ref t ∧ ∀ i : Nat, x = .int (0 + (i : Int)) → G t = some (.tup ((wtV bs (pwF N i)).map V.int))) (fun x y G G' s h => by
        obtain ⟨t, e, h⟩ := h
        exact ⟨t, e, fun i ei => s _ _ (h i ei)⟩) walk_rangeY hD (fun _ _ => trivial) (by rw [List.length_map, List.length_range]; omega) (fun _ => rfl) ?_ ?_
    · rintro i x H4 hx s4 ⟨acc, hacc⟩ Q' q'
      obtain ⟨i', hi', rfl⟩ := get_map hx
      obtain ⟨hil, e0⟩ := List.getElem?_eq_some_iff.mp hi'
      rw [List.getElem_range] at e0
      subst e0
      rw [List.length_range] at hil
      rw [Int.zero_add]
      walk_at "go"
      refine w_methi (s4 _ _ ho) (sc_no (by decide +kernel) (by decide +kernel) (by decide +kernel) (by decide +kernel)) ?_
      walk_at "go"
      refine ⟨o, bs, N, i, lw, rfl, hsc.same s4, sb, by omega, fun H5 t n5 s5 h5 => ?_⟩
      refine q' _ _ s5 ⟨t, rfl, fun j ej => ?_⟩
      obtain rfl : i = j := by
        injection ej with ej
        omega
      exact rm_of (ne_of_none' hacc n5) h5
    intro H2 ys s2 hD2 pr
    obtain ⟨ss, rfl, pr1⟩ := paired_refs (Pn := fun (i : Nat) t => H2 t = some (.tup ((wtV bs (pwF N i)).map V.int))) (fun i y z => by
      obtain ⟨t, e, h⟩ := z
      exact ⟨t, e, h i rfl⟩) pr
    have pr2 : Paired (fun us t => H2 t = some (.tup (us.map V.int))) (((List.range n).map (pwF N)).map (wtV bs)) ss := paired_mapG (paired_mapG pr1)
    have ho2 := s2 _ _ ho
    walk_at "go"
    refine w_fldi ho2 S.cl.cl S.low sc_low ?_
    cases hlw : lw with
    | true =>
      subst hlw
      walk_at "go"
      refine iteT ?_
      walk_at "go"
      refine q H2 D s2 ⟨ss, hD2, ?_⟩
      exact pr2
    | false =>
      subst hlw
      walk_at "go"
      refine iteF ?_
      walk_at "go"
      refine ⟨D, ss.map V.ref, rfl, sq hD2, al fun t H3 n3 s3 h3 => ?_⟩
      walk_at "go"
      refine q H3 t (s2.trans s3) ⟨ss.reverse, by rw [h3, List.map_reverse], ?_⟩
      show Paired _ (((List.range n).map (pwF N)).reverse.map (wtV bs)) _
      rw [List.map_reverse]
      exact paired_revG (paired_imp (fun _ _ z => s3 _ _ z) pr2)
noncomputable abbrev s_scmoved : Stmt := (inClass (top 37) 4)
theorem sc_scmoved : FnScope ["self", "rests", "weight", "step", "rest", "factor"] ["self", "rests", "weight", "step"] (defScope s_scmoved) :=
  ⟨rfl, rfl, rfl, by decide +kernel, rfl, by decide +kernel, by decide +kernel⟩
theorem ok_scmoved {Cq : Addr} {f : Addr} {fd : FuncData} (F : FunD K "moved" "Scale.moved" (defArgs s_scmoved) (defBody s_scmoved) (defScope s_scmoved) [] [] f fd) (T : Bt mg) (S : KSc K mg Cq) : FnOk P w K mg base L2.CX0 1 f fd ["self", "rests", "weight", "step"] (spMoved Cq) := by
  refine fnD_ok F sc_scmoved (fun vs H Q E h => ?_) (fun cdv A outer s H vs Q E hr h => ?_)
  · obtain ⟨o, p, q, bs, r, W, N, st, lw, rfl, _⟩ := h
    rfl
  · obtain ⟨o, p, q', bs, r, W, N, st, lw, rfl, ⟨dx, l, z, ho, hl, hz⟩, sb, hp, hq, hrl, hWl, hr0, hW0, hs, q⟩ := h
    refine ⟨_, (pss_one (ps_ret (pe_callTy cTupOf (by rfl) T.tuple (by decide +kernel) (pa_cons (pe_lc (own := [("rest", 4), ("factor", 5)]) (g := gTup _ 2 (gCons (gName 4) (gCons (gName 5) gNil))) (tt := tYes) (te := (tOp _ (tOp _ (tVar 4) (tOp _ (tVar 3) (tVar 5))) (tFld K (tVar 0) "number"))) rfl sc_scmoved.nd (RZ.pi_zipA (by rfl) T.zip (pa_cons (pv 1) (pa_cons (pv 2) pa_nil))) (blkOk_by (own := [("rest", 4), ("factor", 5)]) (N := ["self", "rests", "weight", "step", "rest", "factor"]) (sc := defScope s_scmoved) (by decide +kernel)) (fun _ _ _ _ _ => (pg_tup rfl (pgs_cons (pg_name (i := 4) sc_scmoved.nd rfl (Or.inl rfl)) (pgs_cons (pg_name (i := 5) sc_scmoved.nd rfl (Or.inl rfl)) pgs_nil)))) (fun _ _ _ _ _ => pts_nil) (fun _ _ _ _ _ => (pe_op op_mod (pe_op op_add (pv 4) (pe_op oMul (pv 3) (pv 5))) (pe_fld (pv 0) rfl)))) pa_nil)))), ?_⟩
    have hN := sb.pos
    have hN2 := sb.le
    have hbl := sb.len
    walk_at "go"
    refine w_iZipA ?_
    walk_at "go"
    refine ⟨p, q', r.map V.int, W.map V.int, rfl, .inr ⟨sqt hp, sqt hq, ?_⟩⟩
    intro D hD
    have hlen : (mvV N r W st).length = r.length := by unfold mvV; rw [List.length_zipWith, hWl, hrl, Nat.min_self]
    refine lc_zipTT r W (mvV N r W st) (by omega) hlen hD (fun H' sm => ⟨sqt (sm _ _ hp), sqt (sm _ _ hq)⟩) (by omega) (fun _ _ => rfl) ?_ ?_
    · intro i x y zz H' hx hy hz' sm Q' q2
      have hxb := hr0 x (List.mem_of_getElem? hx)
      have hyb := hW0 y (List.mem_of_getElem? hy)
      have ez : zz = (x + st * y) % N := by
        unfold mvV at hz'
        rw [List.getElem?_zipWith, hx, hy] at hz'
        exact (Option.some.inj hz').symm
      have hm : CMx st y := mx_w (a := 20) (b := 20) (by have : (2 : Nat) ^ 20 = 1048576 := by decide
                                                         omega) (by have : (2 : Nat) ^ 20 = 1048576 := by decide
                                                                    omega) (by decide)
      walk_at "go"
      refine w_fldi (sm _ _ ho) S.cl.cl S.number sc_number ?_
      walk_at "go"
      rw [← ez]
      exact q2 _ (Same.refl _)
    · intro H1 s1 hD1
      walk_at "go"
      refine w_tupL (sq hD1) (al fun t H2 n2 s2 h2 => ?_)
      exact q H2 t (s1.free n2) (s1.trans s2) h2
noncomputable abbrev s_scneg : Stmt := (inClass (top 37) 5)
theorem sc_scneg : FnScope ["self", "rests", "rest"] ["self", "rests"] (defScope s_scneg) :=
  ⟨rfl, rfl, rfl, by decide +kernel, rfl, by decide +kernel, by decide +kernel⟩
theorem ok_scneg {Cq : Addr} {f : Addr} {fd : FuncData} (F : FunD K "negative" "Scale.negative" (defArgs s_scneg) (defBody s_scneg) (defScope s_scneg) [] [] f fd) (T : Bt mg) (S : KSc K mg Cq) : FnOk P w K mg base L2.CX0 1 f fd ["self", "rests"] (spNegat Cq) := by
  refine fnD_ok F sc_scneg (fun vs H Q E h => ?_) (fun cdv A outer s H vs Q E hr h => ?_)
  · obtain ⟨o, p, bs, r, N, lw, rfl, _⟩ := h
    rfl
  · obtain ⟨o, p, bs, r, N, lw, rfl, ⟨dx, l, z, ho, hl, hz⟩, sb, hp, hrl, hr0, q⟩ := h
    refine ⟨_, (pss_one (ps_ret (pe_callTy cTupOf (by rfl) T.tuple (by decide +kernel) (pa_cons (pe_lc (own := [("rest", 2)]) (g := gName 2) (tt := tYes) (te := (tOp _ (tUn _ (tVar 2)) (tFld K (tVar 0) "number"))) rfl sc_scneg.nd (pi_tup (pv 1)) (blkOk_by (own := [("rest", 2)]) (N := ["self", "rests", "rest"]) (sc := defScope s_scneg) (by decide +kernel)) (fun _ _ _ _ _ => (pg_name (i := 2) sc_scneg.nd rfl (Or.inl rfl))) (fun _ _ _ _ _ => pts_nil) (fun _ _ _ _ _ => (pe_op op_mod (pe_un un_neg (pv 2)) (pe_fld (pv 0) rfl)))) pa_nil)))), ?_⟩
    have hN := sb.pos
    have hN2 := sb.le
    have hbl := sb.len
    walk_at "go"
    intro D hD
    refine lc_pure (r.map V.int) ((ngV N r).map V.int) walk_tup hD (fun H' s => sqt (s _ _ hp)) (by unfold ngV; simp) (by unfold ngV; rw [List.length_map, List.length_map]; omega) (fun _ => rfl) ?_ ?_
    · intro i x zz H' hx hz' sm Q' q'
      obtain ⟨b, hb, rfl⟩ := get_map hx
      unfold ngV at hz'
      rw [List.getElem?_map, List.getElem?_map, hb] at hz'
      cases hz'
      walk_at "go"
      refine w_fldi (sm _ _ ho) S.cl.cl S.number sc_number ?_
      walk_at "go"
      exact q' _ (Same.refl _)
    · intro H1 s1 hD1
      walk_at "go"
      refine w_tupL (sq hD1) (al fun t H2 n2 s2 h2 => ?_)
      exact q H2 t (s1.free n2) (s1.trans s2) h2
noncomputable abbrev s_sumsb : Stmt := (top 41)
theorem sc_sumsb : FnScope ["scale", "weights", "ranges", "found", "weight", "steps", "rests", "step"] ["scale", "weights", "ranges"] (defScope s_sumsb) :=
  ⟨rfl, rfl, rfl, by decide +kernel, rfl, by decide +kernel, by decide +kernel⟩
theorem ok_sumsb {Cq : Addr} {ap : List Int → Int → Prop} (F : Dn K mg "sums_behind" s_sumsb ["scale", "weights", "ranges"]) (T : Bt mg) (S : KSc K mg Cq) (c_scmoved : C8.Met P w K mg base 1 Cq "moved" (spMoved Cq) []) (c_alltrue : Cal P w K mg base 1 "all_true" spAllTrue []) : Cal P w K mg base 2 "sums_behind" (spSumsB Cq Beh ap) [] := by
  refine F.cal sc_sumsb (fun vs H Q E h => ?_) (fun f cdv A' outer s H vs Q E hr h => ?_)
  · obtain ⟨o, wl, rl, bs, N, lw, ws, gs, A, M, rfl, _⟩ := h
    rfl
  · obtain ⟨o, wl, rl, bs, N, lw, ws, gs, A, M, rfl, hsc, sb, _, ⟨wts, hwl, hwp⟩, wok, ⟨rs, hrl, hrp⟩, gok, _, hgl, hwz, hfew, hM, hM2, q⟩ := h
    obtain ⟨dx, l, z, ho, hl, hz⟩ := id hsc
    have hN := sb.pos
    refine ⟨_, (pss_cons (ps_set (i := 3) sc_sumsb.nd rfl (Or.inl rfl) (pe_lst (pa_cons (pe_disp1 hr.units (pe_fld (pv 0) rfl) pe_bl) pa_nil)))
      (pss_cons (ps_for PassesOwn.never rfl (pi_zip (by rfl) T.zip (pa_cons (pe_revL (pv 1)) (pa_cons (pe_revL (pv 2)) pa_nil))) (pg_tup rfl (pgs_cons (pg_name (i := 4) sc_sumsb.nd rfl (Or.inr rfl)) (pgs_cons (pg_name (i := 5) sc_sumsb.nd rfl (Or.inr rfl)) pgs_nil))) (pss_one (ps_expr (pe_bm PySem.F.plainAttrs_list PySem.F.slot_list_append PySem.F.type_list_append mt_append (pv 3) (pa_cons (pe_c c_alltrue hr (by decide) (by rfl) (pa_cons (pe_lock (pe_lc2 (own := [("rests", 6), ("step", 7)]) (vs1 := [7]) (g := gName 6) (g1 := gName 7) (tt := tYes) (tt1 := tYes) (wi1 := (iList K (tVar 5))) (te := (tMeth _ _ _ _ _ (tVar 0) (tCons (tVar 6) (tCons (tVar 4) (tCons (tVar 7) tNil))))) rfl sc_sumsb.nd (pi_keys (pe_ix ix_list (pv 3) (pe_un un_neg pe_int) (fun _ _ => rfl))) (blkOk_by (own := [("rests", 6), ("step", 7)]) (N := ["scale", "weights", "ranges", "found", "weight", "steps", "rests", "step"]) (sc := defScope s_sumsb) (by decide +kernel)) (by decide) (fun _ _ _ _ _ => (pg_name (i := 6) sc_sumsb.nd rfl (Or.inl rfl))) (fun _ _ _ _ _ => pts_nil) (fun _ _ _ _ _ => (pi_list (pv 5))) (fun _ _ _ _ _ => (pg_name (i := 7) sc_sumsb.nd rfl (Or.inl rfl))) (fun _ _ _ _ _ => pts_nil) (fun _ _ _ _ _ => (pe_mt c_scmoved hr (by decide) (pv 0) (pa_cons (pv 6) (pa_cons (pv 4) (pa_cons (pv 7) pa_nil))))))) pa_nil)) pa_nil)))))
      (pss_one (ps_ret (pe_revL (pv 3)))))), ?_⟩
    have l1 : ws.length = wts.length := by rw [← hwp.length, List.length_map]
    have l2 : gs.length = rs.length := hrp.length
    walk_at "go"
    intro d0 nd0
    have s0 : Same H (upd H d0 (.dT [])) := Same.new nd0
    have h0 : (upd H d0 (.dT [])) d0 = some (.dT []) := upd_same
    generalize upd H d0 (.dT []) = H0 at s0 h0
    walk_at "go"
    refine w_fldi (s0 _ _ ho) S.cl.cl S.zero sc_zero ?_
    walk_at "go"
    refine ⟨z, kk (zr bs), rfl, h0, by rw [kk_val]; exact s0 _ _ hz, ?_⟩
    have s1 : Same H (upd H0 d0 (.dT [(kk (zr bs), .bl true)])) := same_up nd0 s0
    have h1 : DtP (upd H0 d0 (.dT [(kk (zr bs), .bl true)])) d0 (Beh bs N [] []) := ⟨[zr bs], upd_same, List.pairwise_singleton _ _, fun k => by rw [List.mem_singleton]; exact Beh_nil.symm⟩
    generalize upd H0 d0 (.dT [(kk (zr bs), .bl true)]) = H1 at s1 h1
    clear s0 h0
    walk_at "go"
    refine al fun fl H2 nf s2 hf => ?_
    walk_at "go"
    refine ⟨wl, wts.map V.ref, rfl, sq (s2 _ _ (s1 _ _ hwl)), al fun wr H3 n3 s3 h3 => ?_⟩
    walk_at "go"
    refine ⟨rl, rs.map V.ref, rfl, sq (s3 _ _ (s2 _ _ (s1 _ _ hrl))), al fun rr H4 n4 s4 h4 => ?_⟩
    rw [← List.map_reverse] at h3 h4
    walk_at "go"
    refine ⟨wr, rr, (wts.reverse.map V.ref), (rs.reverse.map V.ref), rfl, sq (s4 _ _ h3), sq h4, ?_⟩
    have nwr : wr ≠ fl := ne_of_none' hf n3
    have nrr : rr ≠ fl := ne_of_none' (s3 _ _ hf) n4
    have nfH : H fl = none := s1.free nf
    have S4 : Same H (rm fl H4) := rm_in nfH (s1.trans (s2.trans (s3.trans s4)))
    have hf4 := s4 _ _ (s3 _ _ hf)
    have h3' := rm_of nwr (s4 _ _ h3)
    have h4' := rm_of nrr h4
    have nd0f : d0 ≠ fl := fun e => by
      obtain ⟨ks, e1, _⟩ := h1
      rw [e, nf] at e1
      cases e1
    have h1' : DtP (rm fl H4) d0 (Beh bs N [] []) := by
      obtain ⟨ks, e1, e2, e3⟩ := h1
      exact ⟨ks, rm_of nd0f (s4 _ _ (s3 _ _ (s2 _ _ e1))), e2, e3⟩
    clear s1 s2 s3 s4 h1 h3 h4 hf n3 n4
    have lz : (wts.reverse.map V.ref).length = ws.length := by rw [List.length_map, List.length_reverse, l1]
    have wz := walk_zip (K := K) (a := wr) (b := rr) (xs := wts.reverse.map V.ref) (ys := rs.reverse.map V.ref) (n := ws.length) (by rw [lz, List.length_map, List.length_reverse, ← l2, hgl, Nat.min_self])
    refine for_it wz (fun i σ H' => ∃ (v4 v5 : Option V) (ds : List Addr), σ = [some (.ref o), some (.ref wl), some (.ref rl), some (.ref fl), v4, v5, none, none] ∧ Same (rm fl H4) (rm fl H') ∧ H' fl = some (.lst (ds.map V.ref)) ∧ ds.length = i + 1 ∧ ∀ (j : Nat) (d : Addr), ds[j]? = some d → DtP (rm fl H') d (Beh bs N (ws.drop (ws.length - j)) (gs.drop (ws.length - j))))
      ⟨none, none, [d0], rfl, Same.refl _, hf4, rfl, fun j d hd => ?_⟩ (fun i σ H' _ h => ?_) ?_ ?_
    · cases j with
      | zero =>
        cases hd
        rw [Nat.sub_zero, List.drop_length, List.drop_of_length_le (by omega)]
        exact h1'
      | succ j => simp at hd
    · obtain ⟨_, _, _, _, s, _⟩ := h
      exact ⟨sq (rm_le _ _ (s _ _ h3')), sq (rm_le _ _ (s _ _ h4'))⟩
    · rintro i x σ H5 H6 hi ⟨v4, v5, ds, rfl, s5, hf5, hdl, hds⟩ ⟨t, x1, x2, rfl, nt, rfl, ex1, ex2⟩
      obtain ⟨wt, ew, rfl⟩ := get_map ex1
      obtain ⟨st, es, rfl⟩ := get_map ex2
      rw [List.getElem?_reverse (by omega)] at ew es
      obtain ⟨W0, hW0, hwt⟩ := paired_get hwp ew
      rw [List.getElem?_map] at hW0
      obtain ⟨f, hf0, rfl⟩ := Option.map_eq_some_iff.mp hW0
      obtain ⟨g, hg0, hst⟩ := paired_get hrp es
      have hfl := (List.getElem?_eq_some_iff.mp hf0)
      have hgl' := (List.getElem?_eq_some_iff.mp hg0)
      have edw : ws.drop (ws.length - (i + 1)) = f :: ws.drop (ws.length - i) := by
        rw [List.drop_eq_getElem_cons (by omega)]
        congr 1
        · rw [← hfl.2]
          congr 1
          omega
        · congr 1
          omega
      have edg : gs.drop (ws.length - (i + 1)) = g :: gs.drop (ws.length - i) := by
        rw [List.drop_eq_getElem_cons (by omega)]
        congr 1
        · rw [← hgl'.2]
          congr 1
          omega
        · congr 1
          omega
      have wokf := wok f (List.mem_of_getElem? hf0)
      have gokg := gok g (List.mem_of_getElem? hg0)
      have s6 : Same H5 (upd H5 t (.tup [.ref wt, .ref st])) := Same.new nt
      have h6 : (upd H5 t (.tup [.ref wt, .ref st])) t = some (.tup [.ref wt, .ref st]) := upd_same
      have ntf : t ≠ fl := ne_of_none' hf5 nt
      generalize upd H5 t (.tup [.ref wt, .ref st]) = H6 at s6 h6
      have S6 : Same H H6 := S4.trans (s5.trans (rm_le.trans s6))
      have hf6 := s6 _ _ hf5
      obtain ⟨d4, hd4⟩ : ∃ d, ds[i]? = some d := ⟨_, List.getElem?_eq_getElem (by omega)⟩
      obtain ⟨ks, k1, k2, k3⟩ := hds i d4 hd4
      obtain ⟨nd4, k1⟩ := rm_some' k1
      have k6 := s6 _ _ k1
      walk_at "go"
      refine ⟨d4, _, k6, trivial, fun od => ?_⟩
      have so := lock_same (H := H6) (d := d4) (o := .frz od (.dT (ks.map fun k => (kk k, V.bl true))))
      have hun := fun H7 (s7 : Same (upd H6 d4 (.frz od (.dT (ks.map fun k => (kk k, V.bl true))))) H7) => unlock_same k6 s7
      have hd5 : (upd H6 d4 (.frz od (.dT (ks.map fun k => (kk k, V.bl true))))) d4 = some (.frz od (.dT (ks.map fun k => (kk k, V.bl true)))) := upd_same
      generalize upd H6 d4 (.frz od (.dT (ks.map fun k => (kk k, V.bl true)))) = H5' at so hun hd5
      have sc6 := ((hsc.same S6).rmD k6 (fun _ _ _ e => by cases e) (fun _ e => by cases e) (fun _ e => by cases e)).same so
      have hf7 := so _ _ (rm_lst k6 (fun _ e => by cases e) hf6)
      have hst7 := so _ _ (rm_lst k6 (fun _ e => by cases e) (S6 _ _ hst))
      have hwt7 := so _ _ (rm_tup k6 (fun _ e => by cases e) (S6 _ _ hwt))
      have ho7 := so _ _ (rm_ins k6 (fun _ _ _ e => by cases e) (S6 _ _ ho))
      unfold tLc2 iKeys
      walk_at "go"
      refine w_ixL (sq hf7) (at_neg1 (i := i) (by rw [List.getElem?_map, hd4]; rfl) (by rw [List.length_map, hdl])) ?_
      walk_at "go"
      refine ⟨d4, od, rfl, .inr ⟨_, hd5, ?_⟩⟩
      intro D2 hD2'
      have nD2 : D2 ≠ d4 := fun e => by rw [e, hd5] at hD2'; cases hD2'
      have hkM : ks.length ≤ M := DtP.len (H := H) (d := o) k2 k3 hfew fun k h => h.ok hN
      have hprod : ks.length * g.length ≤ 50000 := Nat.le_trans (Nat.mul_le_mul hkM gokg.1) hM
      refine lc2_kt (K := K) (a := st) (steps := g.map V.int) (fun k => g.map (mvV N (unk k) (wtV bs f))) (fun kv _ => by rw [List.length_map, List.length_map]) (by rw [List.length_map, List.length_map]; omega) hd5 hst7 hD2' (fun _ => rfl) (fun _ _ => rfl) ?_ ?_ ?_
      · intro v H6 R s6 hR
        refine w_iList ?_
        walk_at "go"
        exact hR
      · rintro kv qq li x us H7 hkv hx hrx s7 hqq ⟨acc, hacc⟩ Q' q'
        obtain ⟨k, hk, rfl⟩ := List.mem_map.mp hkv
        have hSk := ((k3 k).mp hk).ok hN
        obtain ⟨s0, hs0, rfl⟩ := get_map hx
        have hsb := gokg.2 s0 (List.mem_of_getElem? hs0)
        have eus : us = mvV N k (wtV bs f) s0 := by
          rw [show unk (kk k) = k from unk_kk k, List.getElem?_map, hs0] at hrx
          exact (Option.some.inj hrx).symm
        subst eus
        have hqq : H7 qq = some (.tup (k.map V.int)) := by rw [← kk_val]; exact hqq
        have wv := wtV_ok (bs := bs) wokf
        walk_at "go"
        refine w_methi (s7 _ _ ho7) (sc_no (by decide +kernel) (by decide +kernel) (by decide +kernel) (by decide +kernel)) ?_
        walk_at "go"
        refine ⟨o, qq, wt, bs, k, wtV bs f, N, s0, lw, rfl, sc6.same s7, sb, hqq, s7 _ _ hwt7, hSk.1, wv.1, hSk.2, wv.2, by omega, fun H8 p n8 s8 h8 => ?_⟩
        exact q' p H8 s8 n8 h8
      · intro H7 ys s7 hD7 hp7
        refine ⟨s7 _ _ hd5, ?_⟩
        have hS7 := hun H7 s7
        have hD7' : upd H7 d4 (.dT (ks.map fun k => (kk k, V.bl true))) D2 = some (.lst (ys.map V.ref)) := by rw [upd_ne nD2]; exact hD7
        have hp7' : Paired (fun us t => upd H7 d4 (.dT (ks.map fun k => (kk k, V.bl true))) t = some (.tup (us.map V.int))) (ks.flatMap fun k => g.map (mvV N k (wtV bs f))) ys := by
          have e : ((ks.map fun k => (kk k, V.bl true)).flatMap fun kv => g.map (mvV N (unk kv.1) (wtV bs f))) = ks.flatMap fun k => g.map (mvV N k (wtV bs f)) := by
            rw [List.flatMap_map]
            congr 1
            funext k
            show g.map (mvV N (unk (kk k)) _) = _
            rw [unk_kk]
          rw [e] at hp7
          refine paired_imp (fun us t hh => ?_) hp7
          rw [upd_ne (fun e => by rw [e, s7 _ _ hd5] at hh; cases hh)]
          exact hh
        generalize upd H7 d4 (.dT (ks.map fun k => (kk k, V.bl true))) = H8 at hS7 hD7' hp7' ⊢
        have hflen : (ks.flatMap fun k => g.map (mvV N k (wtV bs f))).length = ks.length * g.length := flat_lenQ _ fun k => by rw [List.length_map]
        walk_at "go"
        refine ⟨D2, _, rfl, ⟨ys, hD7', hp7'⟩, by rw [hflen]; omega, fun H9 d9 n9 s9 hd9 => ?_⟩
        have S9 : Same H5 H9 := s6.trans (hS7.trans s9)
        have hf9 := S9 _ _ hf5
        have hf8 := (s6.trans hS7) _ _ hf5
        have nd9 : d9 ≠ fl := ne_of_none' hf8 n9
        walk_at "go"
        refine w_append hf9 (sz (by rw [List.length_map]; omega)) ?_
        walk_at "go"
        have sA : Same (rm fl H5) (rm fl (upd H9 fl (.lst (ds.map V.ref ++ [.ref d9])))) := by
          rw [rm_updS]
          exact S9.rm
        refine ⟨_, _, ds ++ [d9], rfl, s5.trans sA, by rw [upd_same, List.map_append]; rfl, by rw [List.length_append, hdl]; rfl, fun j d hd => ?_⟩
        by_cases hj : j < ds.length
        · rw [List.getElem?_append_left hj] at hd
          exact (hds j d hd).same sA
        · rw [List.getElem?_append_right (by omega)] at hd
          have hj0 : j - ds.length = 0 := by
            have := (List.getElem?_eq_some_iff.mp hd).1
            rw [List.length_singleton] at this
            omega
          rw [hj0] at hd
          cases hd
          have ej : j = i + 1 := by omega
          subst ej
          rw [edw, edg, rm_updS]
          have h9 := hd9.dtp (P := Beh bs N (f :: ws.drop (ws.length - i)) (g :: gs.drop (ws.length - i))) fun k => by
            rw [Beh_cons, List.mem_flatMap]
            constructor
            · rintro ⟨r', hr', hk⟩
              obtain ⟨s0, hs0, rfl⟩ := List.mem_map.mp hk
              exact ⟨r', (k3 r').mp hr', s0, hs0, rfl⟩
            · rintro ⟨r', hr', s0, hs0, rfl⟩
              exact ⟨r', (k3 r').mpr hr', List.mem_map.mpr ⟨s0, hs0, rfl⟩⟩
          obtain ⟨zs, z1, z2, z3⟩ := h9
          exact ⟨zs, rm_of nd9 z1, z2, z3⟩
    · rintro σ H5 ⟨v4, v5, ds, rfl, s5, hf5, hdl, hds⟩
      walk_at "go"
      refine ⟨fl, ds.map V.ref, rfl, sq hf5, al fun rl2 H6 n6 s6 h6 => ?_⟩
      rw [← List.map_reverse] at h6
      refine q H6 rl2 (S4.trans (s5.trans (rm_le.trans s6))) ⟨ds.reverse, h6, by rw [List.length_reverse, hdl], fun i d hd => ?_⟩
      have hi : i < ds.length := by
        have := (List.getElem?_eq_some_iff.mp hd).1
        rwa [List.length_reverse] at this
      rw [List.getElem?_reverse hi] at hd
      have := (hds _ d hd).same (rm_le.trans s6)
      rw [show ws.length - (ds.length - 1 - i) = i by omega] at this
      exact this
noncomputable abbrev s_unlsb : Stmt := (top 42)
theorem sc_unlsb : FnScope ["scale", "weights", "ranges", "every", "found", "place", "made", "step", "rests"] ["scale", "weights", "ranges"] (defScope s_unlsb) :=
  ⟨rfl, rfl, rfl, by decide +kernel, rfl, by decide +kernel, by decide +kernel⟩
theorem ok_unlsb {Cq : Addr} (F : Dn K mg "unlike_sums_behind" s_unlsb ["scale", "weights", "ranges"]) (T : Bt mg) (zdict : mg "dict" = none) (S : KSc K mg Cq) (c_scmoved : C8.Met P w K mg base 1 Cq "moved" (spMoved Cq) []) (c_alltrue : Cal P w K mg base 1 "all_true" spAllTrue []) (c_sumsb : Cal P w K mg base 2 "sums_behind" (spSumsB Cq Beh (Hap P w)) []) : Cal P w K mg base 3 "unlike_sums_behind" (spSumsB Cq Unl (Hap P w)) [] := by
  refine F.cal sc_unlsb (fun vs H Q E h => ?_) (fun f cdv A' outer s H vs Q E hr h => ?_)
  · obtain ⟨o, wl, rl, bs, N, lw, ws, gs, A, M, rfl, _⟩ := h
    rfl
  · obtain ⟨o, wl, rl, bs, N, lw, ws, gs, A, M, rfl, hsc, sb, hap, ⟨wts, hwl, hwp⟩, wok, ⟨rs, hrl, hrp⟩, gok, hg0, hgl, hwz, hfew, hM, hM2, q⟩ := h
    obtain ⟨dx, l, z, ho, hl, hz⟩ := id hsc
    have hN := sb.pos
    refine ⟨_, (pss_cons (ps_set (i := 3) sc_unlsb.nd rfl (Or.inl rfl) (pe_c c_sumsb hr (by decide) (by rfl) (pa_cons (pv 0) (pa_cons (pv 1) (pa_cons (pv 2) pa_nil)))))
      (pss_cons (ps_set (i := 4) sc_unlsb.nd rfl (Or.inl rfl) (pe_lst (pa_cons pe_dnewT pa_nil)))
      (pss_cons (ps_for PassesOwn.never rfl (pi_range3 (by rfl) T.range (pa_cons (pe_op op_sub (pe_callB cLen (by rfl) T.len (by decide +kernel) (pa_cons (pv 1) pa_nil)) pe_int) (pa_cons (pe_un un_neg pe_int) (pa_cons (pe_un un_neg pe_int) pa_nil)))) (pg_name (i := 5) sc_unlsb.nd rfl (Or.inr rfl)) (pss_cons (ps_set (i := 6) sc_unlsb.nd rfl (Or.inl rfl) (pe_callTy (call_dictT hr.units) (by rfl) zdict (by decide +kernel) (pa_cons (pe_ix ix_list (pv 4) (pe_un un_neg pe_int) (fun _ _ => rfl)) pa_nil)))
      (pss_cons (ps_for PassesOwn.never rfl (pi_list (pe_ix ix_list (pv 2) (pv 5) (fun _ _ => rfl))) (pg_name (i := 7) sc_unlsb.nd rfl (Or.inr rfl)) (pss_one (ps_if (pt_cmpR op_ne (pv 7) pe_int (nomark _)) (pss_one (ps_expr (pe_bm PySem.F.plainAttrs_dict PySem.F.slot_dict_update PySem.F.type_dict_update (mt_updateT hr.units) (pv 6) (pa_cons (pe_c c_alltrue hr (by decide) (by rfl) (pa_cons (pe_lock (pe_lc (own := [("rests", 8)]) (g := gName 8) (tt := tYes) (te := (tMeth _ _ _ _ _ (tVar 0) (tCons (tVar 8) (tCons (tOp (rIxL K) (tVar 1) (tVar 5)) (tCons (tVar 7) tNil))))) rfl sc_unlsb.nd (pi_keys (pe_ix ix_list (pv 3) (pe_op op_add (pv 5) pe_int) (fun _ _ => rfl))) (blkOk_by (own := [("rests", 8)]) (N := ["scale", "weights", "ranges", "every", "found", "place", "made", "step", "rests"]) (sc := defScope s_unlsb) (by decide +kernel)) (fun _ _ _ _ _ => (pg_name (i := 8) sc_unlsb.nd rfl (Or.inl rfl))) (fun _ _ _ _ _ => pts_nil) (fun _ _ _ _ _ => (pe_mt c_scmoved hr (by decide) (pv 0) (pa_cons (pv 8) (pa_cons (pe_ix ix_list (pv 1) (pv 5) (fun _ _ => rfl)) (pa_cons (pv 7) pa_nil))))))) pa_nil)) pa_nil)))) pss_nil)))
      (pss_one (ps_expr (pe_bm PySem.F.plainAttrs_list PySem.F.slot_list_append PySem.F.type_list_append mt_append (pv 4) (pa_cons (pv 6) pa_nil)))))))
      (pss_one (ps_ret (pe_revL (pv 4))))))), ?_⟩
    have l1 : ws.length = wts.length := by rw [← hwp.length, List.length_map]
    have l2 : gs.length = rs.length := hrp.length
    walk_at "go"
    refine ⟨o, wl, rl, bs, N, lw, ws, gs, A, M, rfl, hsc, sb, hap, ⟨wts, hwl, hwp⟩, wok, ⟨rs, hrl, hrp⟩, gok, hg0, hgl, hwz, hfew, hM, hM2, fun H0 ev s0 hev => ?_⟩
    obtain ⟨es, hev0, hel, hes⟩ := hev
    walk_at "go"
    refine w_dnewT fun d0 nd0 => ?_
    have sd : Same H0 (upd H0 d0 (.dT [])) := Same.new nd0
    have h0 : (upd H0 d0 (.dT [])) d0 = some (.dT []) := upd_same
    generalize upd H0 d0 (.dT []) = H1 at sd h0
    walk_at "go"
    refine al fun fl H2 nf s2 hf => ?_
    walk_at "go"
    have hwl2 := s2 _ _ (sd _ _ (s0 _ _ hwl))
    have hrg := RgC.neg (i := ((ws.length : Nat) : Int) - 1) (j := -1) (by omega) (by omega) (by omega) (by omega)
    have hrn : (((ws.length : Nat) : Int) - 1 - -1).toNat = ws.length := by omega
    rw [hrn] at hrg
    rw [List.length_map, ← l1]
    refine ⟨_, _, _, _, rfl, hrg, ?_⟩
    clear hwl2
    have nfH : H fl = none := (s0.trans sd).free nf
    have nfH0 : H0 fl = none := sd.free nf
    have S2 : Same H (rm fl H2) := rm_in nfH (s0.trans (sd.trans s2))
    have S20 : Same H0 (rm fl H2) := rm_in nfH0 (sd.trans s2)
    have nd0f : d0 ≠ fl := (ne_of_none' h0 nf).symm
    have h0' : DtP (rm fl H2) d0 (Unl bs N [] []) := ⟨[], rm_of nd0f (s2 _ _ h0), List.nodup_nil, fun k => ⟨fun h => (nomatch h), fun h => absurd h Unl_nil⟩⟩
    clear s2 sd h0 nf
    refine for_it walk_rangeC (fun i σ H' => ∃ (v5 v6 v7 : Option V) (ds : List Addr), σ = [some (.ref o), some (.ref wl), some (.ref rl), some (.ref ev), some (.ref fl), v5, v6, v7, none] ∧ Same (rm fl H2) (rm fl H') ∧ H' fl = some (.lst (ds.map V.ref)) ∧ ds.length = i + 1 ∧ ∀ (j : Nat) (d : Addr), ds[j]? = some d → DtP (rm fl H') d (Unl bs N (ws.drop (ws.length - j)) (gs.drop (ws.length - j))))
      ⟨none, none, none, [d0], rfl, Same.refl _, hf, rfl, fun j d hd => ?_⟩ (fun i σ H' _ h => trivial) ?_ ?_
    · cases j with
      | zero =>
        cases hd
        rw [Nat.sub_zero, List.drop_length, List.drop_of_length_le (by omega)]
        exact h0'
      | succ j => simp at hd
    · rintro i x σ H5 H6 hi ⟨v5, v6, v7, ds, rfl, s5, hf5, hdl, hds⟩ ⟨rfl, rfl⟩
      have ep : ((ws.length : Nat) : Int) - 1 + ((i : Nat) : Int) * -1 = ((ws.length - 1 - i : Nat) : Int) := by omega
      show gName 5 (V.int (((ws.length : Nat) : Int) - 1 + ((i : Nat) : Int) * -1)) _ _ _
      rw [ep]
      obtain ⟨wt, ew⟩ : ∃ t, wts[ws.length - 1 - i]? = some t := ⟨_, List.getElem?_eq_getElem (by omega)⟩
      obtain ⟨st, es0⟩ : ∃ t, rs[ws.length - 1 - i]? = some t := ⟨_, List.getElem?_eq_getElem (by omega)⟩
      obtain ⟨W0, hW0, hwt⟩ := paired_get hwp ew
      rw [List.getElem?_map] at hW0
      obtain ⟨f, hf0, rfl⟩ := Option.map_eq_some_iff.mp hW0
      obtain ⟨g, hg1, hst⟩ := paired_get hrp es0
      have hfl := (List.getElem?_eq_some_iff.mp hf0)
      have hgl' := (List.getElem?_eq_some_iff.mp hg1)
      have edw : ws.drop (ws.length - (i + 1)) = f :: ws.drop (ws.length - i) := by
        rw [List.drop_eq_getElem_cons (by omega)]
        congr 1
        · rw [← hfl.2]
          congr 1
          omega
        · congr 1
          omega
      have edg : gs.drop (ws.length - (i + 1)) = g :: gs.drop (ws.length - i) := by
        rw [List.drop_eq_getElem_cons (by omega)]
        congr 1
        · rw [← hgl'.2]
          congr 1
          omega
        · congr 1
          omega
      have wokf := wok f (List.mem_of_getElem? hf0)
      have gokg := gok g (List.mem_of_getElem? hg1)
      have hg0g := hg0 g (List.mem_of_getElem? hg1)
      have S5 : Same H0 H6 := S20.trans (s5.trans rm_le)
      have S5H : Same H H6 := S2.trans (s5.trans rm_le)
      obtain ⟨d4, hd4⟩ : ∃ d, ds[i]? = some d := ⟨_, List.getElem?_eq_getElem (by omega)⟩
      obtain ⟨ku, u1, u2, u3⟩ := hds i d4 hd4
      obtain ⟨nd4, u1⟩ := rm_some' u1
      obtain ⟨d5, he5⟩ : ∃ d, es[ws.length - i]? = some d := ⟨_, List.getElem?_eq_getElem (by omega)⟩
      obtain ⟨ks, k1, k2, k3⟩ := hes _ d5 he5
      walk_at "go"
      refine w_ixL (sq hf5) (at_neg1 (i := i) (by rw [List.getElem?_map, hd4]; rfl) (by rw [List.length_map, hdl])) ?_
      walk_at "go"
      refine w_rDictT (.inl u1) (hap.nodup u2 fun k hk => ((u3 k).mp hk).ok hN) fun dm ndm => ?_
      have sm : Same H6 (upd H6 dm (.dT (ku.map fun k => (kk k, V.bl true)))) := Same.new ndm
      have hm : (upd H6 dm (.dT (ku.map fun k => (kk k, V.bl true)))) dm = some (.dT (ku.map fun k => (kk k, V.bl true))) := upd_same
      generalize upd H6 dm (.dT (ku.map fun k => (kk k, V.bl true))) = H7 at sm hm
      have hrl7 : H7 rl = some (.lst (rs.map V.ref)) := sm _ _ (S5H _ _ hrl)
      walk_at "go"
      refine w_ixL (sq hrl7) (at_idx (n := ws.length - 1 - i) (by rw [List.getElem?_map, es0]; rfl) rfl) ?_
      walk_at "go"
      have hbound : ∀ {km : List (List Int)} {j : Nat}, (∀ k, k ∈ km ↔ Unl bs N (ws.drop (ws.length - i)) (gs.drop (ws.length - i)) k ∨ ∃ r', Beh bs N (ws.drop (ws.length - i)) (gs.drop (ws.length - i)) r' ∧ ∃ s ∈ g.take j, s ≠ 0 ∧ k = mvV N r' (wtV bs f) s) → ∀ k ∈ km, k.length = bs.length ∧ ∀ x ∈ k, 0 ≤ x ∧ x < N := fun {km j} h k hk => by
        have : Unl bs N (f :: ws.drop (ws.length - i)) (g :: gs.drop (ws.length - i)) k := (Unl_cons hg0g).mpr (by
          rcases (h k).mp hk with h | ⟨r', h1, s, hs, h2⟩
          · exact .inl h
          · exact .inr ⟨r', h1, s, List.mem_of_mem_take hs, h2⟩)
        exact this.ok hN
      refine for_list (K := K) (a := st) (xs := g.map V.int) (fun j σ H' => ∃ (v7 : Option V) (km : List (List Int)), σ = [some (.ref o), some (.ref wl), some (.ref rl), some (.ref ev), some (.ref fl), some (.int ((ws.length - 1 - i : Nat) : Int)), some (.ref dm), v7, none] ∧ Same H6 H' ∧ H' dm = some (.dT (km.map fun k => (kk k, V.bl true))) ∧ km.Nodup ∧ ∀ k, k ∈ km ↔ Unl bs N (ws.drop (ws.length - i)) (gs.drop (ws.length - i)) k ∨ ∃ r', Beh bs N (ws.drop (ws.length - i)) (gs.drop (ws.length - i)) r' ∧ ∃ s ∈ g.take j, s ≠ 0 ∧ k = mvV N r' (wtV bs f) s)
        ⟨v7, ku, rfl, sm, hm, u2, fun k => by rw [u3]; simp⟩ (fun j σ H' _ z => by
          obtain ⟨_, _, _, z, _⟩ := z
          exact sq (z _ _ (S5H _ _ hst))) ?_ ?_
      · rintro j x σ H8 hx ⟨v7', km, rfl, s8, hm8, km2, km3⟩
        obtain ⟨s0', hs0, rfl⟩ := get_map hx
        have hsb := gokg.2 s0' (List.mem_of_getElem? hs0)
        have tk : ∀ {R : Int → Prop}, (∃ s ∈ g.take (j + 1), R s) ↔ (∃ s ∈ g.take j, R s) ∨ R s0' := fun {R} => by
          rw [List.take_add_one, hs0]
          constructor
          · rintro ⟨s, hs, h⟩
            rcases List.mem_append.mp hs with hs | hs
            · exact .inl ⟨s, hs, h⟩
            · rw [Option.toList_some, List.mem_singleton] at hs
              subst hs
              exact .inr h
          · rintro (⟨s, hs, h⟩ | h)
            · exact ⟨s, List.mem_append_left _ hs, h⟩
            · exact ⟨s0', List.mem_append_right _ (by simp), h⟩
        have S8 : Same H0 H8 := S5.trans s8
        have S8H : Same H H8 := S5H.trans s8
        have k8 := S8 _ _ k1
        have hev8 := S8 _ _ hev0
        walk_at "go"
        refine ite_nd (fun hz => ?_) (fun hz => ?_)
        · have hz0 : s0' ≠ 0 := fun e => hz (by rw [e])
          walk_at "go"
          refine ⟨.inr (.inr (.inl ⟨rfl, .inr ⟨_, hm8⟩⟩)), ?_⟩
          walk_at "go"
          refine ⟨d5, _, k8, trivial, fun od => ?_⟩
          have so := lock_same (H := H8) (d := d5) (o := .frz od (.dT (ks.map fun k => (kk k, V.bl true))))
          have hun := fun H7 (s7 : Same (upd H8 d5 (.frz od (.dT (ks.map fun k => (kk k, V.bl true))))) H7) => unlock_same k8 s7
          have hd5 : (upd H8 d5 (.frz od (.dT (ks.map fun k => (kk k, V.bl true))))) d5 = some (.frz od (.dT (ks.map fun k => (kk k, V.bl true)))) := upd_same
          generalize upd H8 d5 (.frz od (.dT (ks.map fun k => (kk k, V.bl true)))) = H9 at so hun hd5
          have sc9 := ((hsc.same S8H).rmD k8 (fun _ _ _ e => by cases e) (fun _ e => by cases e) (fun _ e => by cases e)).same so
          have hev9 := so _ _ (rm_lst k8 (fun _ e => by cases e) hev8)
          have hwl9 := so _ _ (rm_lst k8 (fun _ e => by cases e) (S8H _ _ hwl))
          have hwt9 := so _ _ (rm_tup k8 (fun _ e => by cases e) (S8H _ _ hwt))
          have ho9 := so _ _ (rm_ins k8 (fun _ _ _ e => by cases e) (S8H _ _ ho))
          unfold iKeys
          walk_at "go"
          refine w_ixL (sq hev9) (at_idx (n := ws.length - i) (by rw [List.getElem?_map, he5]; rfl) (by omega)) ?_
          walk_at "go"
          refine ⟨d5, od, rfl, .inr ⟨_, hd5, ?_⟩⟩
          intro D2 hD2'
          have nD2 : D2 ≠ d5 := fun e => by rw [e, hd5] at hD2'; cases hD2'
          have hkM : ks.length ≤ M := DtP.len (H := H) (d := o) k2 k3 hfew fun k h => h.ok hN
          have hkmM : km.length ≤ M := hfew km km2 (hbound km3)
          have hszl : (100000 : Nat) < sizeLine := by decide
          refine lc_kt1 (fun k => mvV N (unk k) (wtV bs f) s0') (by rw [List.length_map]; omega) hd5 hD2' (fun _ => rfl) ?_ ?_
          · rintro kv qq H10 hkv s10 hqq ⟨acc, hacc⟩ Q' q'
            obtain ⟨k, hk, rfl⟩ := List.mem_map.mp hkv
            have hSk := ((k3 k).mp hk).ok hN
            have hqq : H10 qq = some (.tup (k.map V.int)) := by rw [← kk_val]; exact hqq
            have wv := wtV_ok (bs := bs) wokf
            walk_at "go"
            refine w_methi (s10 _ _ ho9) (sc_no (by decide +kernel) (by decide +kernel) (by decide +kernel) (by decide +kernel)) ?_
            walk_at "go"
            refine w_ixL (sq (s10 _ _ hwl9)) (at_idx (n := ws.length - 1 - i) (by rw [List.getElem?_map, ew]; rfl) rfl) ?_
            walk_at "go"
            refine ⟨o, qq, wt, bs, k, wtV bs f, N, s0', lw, rfl, sc9.same s10, sb, hqq, s10 _ _ hwt9, hSk.1, wv.1, hSk.2, wv.2, by omega, fun H11 p n11 s11 h11 => ?_⟩
            refine q' p H11 s11 n11 ?_
            show _ = some (HO.tup ((mvV N (unk (kk k)) (wtV bs f) s0').map V.int))
            rw [unk_kk]
            exact h11
          · intro H10 ys s10 hD10 hp10
            refine ⟨s10 _ _ hd5, ?_⟩
            have hS10 := hun H10 s10
            have hD10' : upd H10 d5 (.dT (ks.map fun k => (kk k, V.bl true))) D2 = some (.lst (ys.map V.ref)) := by rw [upd_ne nD2]; exact hD10
            have hp10' : Paired (fun us t => upd H10 d5 (.dT (ks.map fun k => (kk k, V.bl true))) t = some (.tup (us.map V.int))) (ks.map fun k => mvV N k (wtV bs f) s0') ys := by
              have e : ((ks.map fun k => (kk k, V.bl true)).map fun kv => mvV N (unk kv.1) (wtV bs f) s0') = ks.map fun k => mvV N k (wtV bs f) s0' := by
                rw [List.map_map]
                congr 1
                funext k
                show mvV N (unk (kk k)) _ _ = _
                rw [unk_kk]
              rw [e] at hp10
              refine paired_imp (fun us t hh => ?_) hp10
              rw [upd_ne (fun e => by rw [e, s10 _ _ hd5] at hh; cases hh)]
              exact hh
            generalize upd H10 d5 (.dT (ks.map fun k => (kk k, V.bl true))) = H11 at hS10 hD10' hp10' ⊢
            walk_at "go"
            refine ⟨D2, _, rfl, ⟨ys, hD10', hp10'⟩, by rw [List.length_map]; omega, fun H12 d9 n9 s9 hd9 => ?_⟩
            have S12 : Same H8 H12 := hS10.trans s9
            obtain ⟨zs, z1, z2, z3⟩ := hd9
            have hzok : ∀ k ∈ zs, k.length = bs.length ∧ ∀ x ∈ k, 0 ≤ x ∧ x < N := fun k hk => by
              obtain ⟨r', hr', e⟩ := List.mem_map.mp ((z3 k).mp hk)
              have : Beh bs N (f :: ws.drop (ws.length - i)) (g :: gs.drop (ws.length - i)) k := Beh_cons.mpr ⟨r', (k3 r').mp hr', s0', List.mem_of_getElem? hs0, e.symm⟩
              exact this.ok hN
            have hzM : zs.length ≤ M := hfew zs z2 hzok
            have ndm9 : dm ≠ d9 := (ne_of_none' (hS10 _ _ hm8) n9).symm
            walk_at "go"
            refine w_rUpdT ndm9 (S12 _ _ hm8) (.inl z1) (.inr (hap.nodup z2 hzok)) (by rw [List.length_map, List.length_map]; omega) ?_
            obtain ⟨km', e1, e2, e3⟩ := dt_merge zs km km2
            rw [e1]
            walk_at "go"
            refine ⟨_, km', rfl, same_up ndm (s8.trans S12), upd_same, e2, fun k => ?_⟩
            rw [e3, km3, z3, List.mem_map]
            constructor
            · rintro ((h | ⟨r', h1, s, hs, h2⟩) | ⟨r', h1, rfl⟩)
              · exact .inl h
              · exact .inr ⟨r', h1, (tk (R := fun s => s ≠ 0 ∧ k = mvV N r' (wtV bs f) s)).mpr (.inl ⟨s, hs, h2⟩)⟩
              · exact .inr ⟨r', (k3 r').mp h1, (tk (R := fun s => s ≠ 0 ∧ mvV N r' (wtV bs f) s0' = mvV N r' (wtV bs f) s)).mpr (.inr ⟨hz0, rfl⟩)⟩
            · rintro (h | ⟨r', h1, h2⟩)
              · exact .inl (.inl h)
              · rcases (tk (R := fun s => s ≠ 0 ∧ k = mvV N r' (wtV bs f) s)).mp h2 with ⟨s, hs, h⟩ | ⟨_, h⟩
                · exact .inl (.inr ⟨r', h1, s, hs, h⟩)
                · exact .inr ⟨r', (k3 r').mpr h1, h.symm⟩
        · have hz0 : s0' = 0 := by injection hz
          walk_at "go"
          refine ⟨_, km, rfl, s8, hm8, km2, fun k => ?_⟩
          rw [km3]
          refine or_congr Iff.rfl (exists_congr fun r' => and_congr Iff.rfl ?_)
          rw [tk (R := fun s => s ≠ 0 ∧ k = mvV N r' (wtV bs f) s)]
          exact ⟨.inl, fun h => h.elim id fun h => absurd hz0 h.1⟩
      · rintro σ H8 ⟨v7', km, rfl, s8, hm8, km2, km3⟩
        have hf8 := s8 _ _ hf5
        have ndmf : dm ≠ fl := ne_of_none' hf5 ndm
        walk_at "go"
        refine w_append hf8 (sz (by rw [List.length_map]; omega)) ?_
        walk_at "go"
        have sA : Same (rm fl H6) (rm fl (upd H8 fl (.lst (ds.map V.ref ++ [.ref dm])))) := by
          rw [rm_updS]
          exact s8.rm
        refine ⟨_, _, _, ds ++ [dm], rfl, s5.trans sA, by rw [upd_same, List.map_append]; rfl, by rw [List.length_append, hdl]; rfl, fun j d hd => ?_⟩
        by_cases hj : j < ds.length
        · rw [List.getElem?_append_left hj] at hd
          exact (hds j d hd).same sA
        · rw [List.getElem?_append_right (by omega)] at hd
          have hj0 : j - ds.length = 0 := by
            have := (List.getElem?_eq_some_iff.mp hd).1
            rw [List.length_singleton] at this
            omega
          rw [hj0] at hd
          cases hd
          have ej : j = i + 1 := by omega
          subst ej
          rw [edw, edg, rm_updS]
          refine ⟨km, rm_of ndmf hm8, km2, fun k => ?_⟩
          rw [km3, Unl_cons hg0g, List.length_map, List.take_length]
    · rintro σ H5 ⟨v5, v6, v7, ds, rfl, s5, hf5, hdl, hds⟩
      walk_at "go"
      refine ⟨fl, ds.map V.ref, rfl, sq hf5, al fun rl2 H6 n6 s6 h6 => ?_⟩
      rw [← List.map_reverse] at h6
      refine q H6 rl2 (S2.trans (s5.trans (rm_le.trans s6))) ⟨ds.reverse, h6, by rw [List.length_reverse, hdl], fun i d hd => ?_⟩
      have hi : i < ds.length := by
        have := (List.getElem?_eq_some_iff.mp hd).1
        rwa [List.length_reverse] at this
      rw [List.getElem?_reverse hi] at hd
      have := (hds _ d hd).same (rm_le.trans s6)
      rw [show ws.length - (ds.length - 1 - i) = i by omega] at this
      exact this
noncomputable abbrev s_goeson : Stmt := (top 43)
theorem sc_goeson : FnScope ["scale", "state", "every", "unlike", "rests", "differ"] ["scale", "state", "every", "unlike"] (defScope s_goeson) :=
  ⟨rfl, rfl, rfl, by decide +kernel, rfl, by decide +kernel, by decide +kernel⟩
theorem ok_goeson {Cq : Addr} (F : Dn K mg "goes_on" s_goeson ["scale", "state", "every", "unlike"]) (T : Bt mg) (S : KSc K mg Cq) (c_scneg : C8.Met P w K mg base 1 Cq "negative" (spNegat Cq) []) : Cal P w K mg base 2 "goes_on" (spGoesOn Cq) [] := by
  refine F.cal sc_goeson (fun vs H Q E h => ?_) (fun f cdv A' outer s H vs Q E hr h => ?_)
  · obtain ⟨o, st, ev, un, bs, N, lw, x, P1, P2, rfl, _⟩ := h
    rfl
  · obtain ⟨o, st, ev, un, bs, N, lw, x, P1, P2, rfl, hsc, sb, ⟨q', hst, hq'⟩, hxl, hx0, ⟨k1, e1, n1, m1⟩, ⟨k2, e2, n2, m2⟩, q⟩ := h
    obtain ⟨dx, l, z, ho, hl, hz⟩ := id hsc
    have hN := sb.pos
    refine ⟨_, (pss_cons (ps_asg (pv 1) (pg_tup rfl (pgs_cons (pg_name (i := 4) sc_goeson.nd rfl (Or.inl rfl)) (pgs_cons (pg_name (i := 5) sc_goeson.nd rfl (Or.inl rfl)) pgs_nil))))
      (pss_one (ps_ret (pe_cmpR (op_inT hr.units) (pe_mt c_scneg hr (by decide) (pv 0) (pa_cons (pv 4) pa_nil)) (pe_ifExp (pt_val (pv 5)) (pv 2) (pv 3)) (by rfl))))), ?_⟩
    walk_at "go"
    refine w_methi ho (sc_no (by decide +kernel) (by decide +kernel) (by decide +kernel) (by decide +kernel)) ?_
    walk_at "go"
    refine ⟨o, q', bs, x.1, N, lw, rfl, hsc, sb, hq', hxl, hx0, fun H1 t nt s1 ht => ?_⟩
    have ht' : H1 t = some (.tup ((kk (ngV N x.1)).map kV)) := by rw [kk_val]; exact ht
    walk_at "go"
    have dv : ∀ (ks : List (List Int)) (k : List Int), (valV (ks.map fun k => (kk k, V.bl true)) (kk k)).isSome = decide (k ∈ ks) := fun ks k => by
      rw [dt_val]
      by_cases c : k ∈ ks
      · rw [if_pos c, decide_eq_true c]
        rfl
      · rw [if_neg c, decide_eq_false c]
        rfl
    cases hx2 : x.2 with
    | true =>
      refine iteT ?_
      walk_at "go"
      refine ⟨ev, _, rfl, DGet.t (k := kk (ngV N x.1)) (s1 _ _ e1) ht', ?_⟩
      rw [dv]
      refine q _ H1 s1 ?_
      rw [hx2, if_pos rfl, decide_eq_true_iff]
      exact m1 _
    | false =>
      refine iteF ?_
      walk_at "go"
      refine ⟨un, _, rfl, DGet.t (k := kk (ngV N x.1)) (s1 _ _ e2) ht', ?_⟩
      rw [dv]
      refine q _ H1 s1 ?_
      rw [hx2, if_neg (by decide), decide_eq_true_iff]
      exact m2 _
noncomputable abbrev s_nextst : Stmt := (top 44)
theorem sc_nextst : FnScope ["scale", "states", "weight", "letter", "stock", "found", "rests", "differ", "other"] ["scale", "states", "weight", "letter", "stock"] (defScope s_nextst) :=
  ⟨rfl, rfl, rfl, by decide +kernel, rfl, by decide +kernel, by decide +kernel⟩
theorem ok_nextst {Cq : Addr} (F : Dn K mg "next_states" s_nextst ["scale", "states", "weight", "letter", "stock"]) (T : Bt mg) (S : KSc K mg Cq) (c_scmoved : C8.Met P w K mg base 1 Cq "moved" (spMoved Cq) []) : Cal P w K mg base 2 "next_states" (spNextSt P w Cq) [] := by
  refine F.cal sc_nextst (fun vs H Q E h => ?_) (fun f' cdv A' outer s H vs Q E hr h => ?_)
  · obtain ⟨o, sl, wp, bs, N, lw, xs, f, l, A, rfl, _⟩ := h
    rfl
  · obtain ⟨o, sl, wp, bs, N, lw, xs, f, l, A, rfl, hsc, sb, ⟨ps, hsl, hps⟩, hxs, hwp, wokf, hA, hl, hsz, q⟩ := h
    obtain ⟨dx, lb, z, ho, hlb, hz⟩ := id hsc
    have hN := sb.pos
    refine ⟨_, (pss_cons (ps_set (i := 5) sc_nextst.nd rfl (Or.inl rfl) pe_dnewN)
      (pss_cons (ps_for PassesOwn.never rfl (pi_list (pv 1)) (pg_tup rfl (pgs_cons (pg_name (i := 6) sc_nextst.nd rfl (Or.inl rfl)) (pgs_cons (pg_name (i := 7) sc_nextst.nd rfl (Or.inl rfl)) pgs_nil))) (pss_one (ps_for PassesOwn.never rfl (pi_range1 (by rfl) T.range (pa_cons (pv 4) pa_nil)) (pg_name (i := 8) sc_nextst.nd rfl (Or.inl rfl)) (pss_one (ps_asg pe_bl (pg_sub (pv 5) (pe_tup (pa_cons (pe_mt c_scmoved hr (by decide) (pv 0) (pa_cons (pv 6) (pa_cons (pv 2) (pa_cons (pe_op op_sub (pv 8) (pv 3)) pa_nil)))) (pa_cons (pe_or (pv 7) (pe_one (pe_cmpR op_ne (pv 8) (pv 3) (nomark _)))) pa_nil))) (set_dictN hr.units)))))))
      (pss_one (ps_ret (pv 5))))), ?_⟩
    have wv := wtV_ok (bs := bs) wokf
    have lps := hps.length
    have hszl : (100000 : Nat) < sizeLine := by decide
    walk_at "go"
    refine w_dnewND fun d0 nd0 => ?_
    show atV _ (V.ref d0) (upd H d0 (ndO P w d0 []))
    have sd : Same H (upd H d0 (ndO P w d0 [])) := Same.new nd0
    have h0 : NdSt P w (upd H d0 (ndO P w d0 [])) d0 [] := ⟨[], ND.new nd0, .nil⟩
    generalize upd H d0 (ndO P w d0 []) = H1 at sd h0
    walk_at "go"
    refine for_list (K := K) (a := sl) (xs := ps.map V.ref) (fun i σ H' => ∃ (v6 v7 v8 : Option V) (ys : List (List Int × Bool)), σ = [some (.ref o), some (.ref sl), some (.ref wp), some (.int (l : Int)), some (.int (A : Int)), some (.ref d0), v6, v7, v8] ∧ Same H H' ∧ NdSt P w H' d0 ys ∧ ys.Nodup ∧ ys.length ≤ i * A ∧ ∀ y, y ∈ ys ↔ Nxt bs N A f l (fun x => x ∈ xs.take i) y)
      ⟨none, none, none, [], rfl, sd, h0, List.nodup_nil, Nat.zero_le _, fun y => ⟨fun h => (nomatch h), fun h => by
        obtain ⟨_, h, _⟩ := h
        exact absurd h (by simp)⟩⟩ (fun i σ H' _ z => by
        obtain ⟨_, _, _, _, _, z, _⟩ := z
        exact sq (z _ _ hsl)) ?_ ?_
    · rintro i x σ H2 hx ⟨v6, v7, v8, ys, rfl, s2, hnd, hyn, hyl, hys⟩
      obtain ⟨p, hp, rfl⟩ := get_map hx
      obtain ⟨x0, hx0, q0, hst, hq0⟩ := paired_get hps hp
      have hx0' := hxs x0 (List.mem_of_getElem? hx0)
      have hst2 := s2 _ _ hst
      have hil : i < xs.length := (List.getElem?_eq_some_iff.mp hx0).1
      have hmul : (i + 1) * A ≤ xs.length * A := Nat.mul_le_mul_right _ hil
      rw [Nat.succ_mul] at hmul
      have tk : ∀ y, Nxt bs N A f l (fun x => x ∈ xs.take (i + 1)) y ↔ Nxt bs N A f l (fun x => x ∈ xs.take i) y ∨ ∃ o : Int, (0 ≤ o ∧ o < A) ∧ y = (mvV N x0.1 (wtV bs f) (o - l), x0.2 || decide (o ≠ l)) := fun y => by
        unfold Nxt
        rw [List.take_add_one, hx0]
        constructor
        · rintro ⟨z, hz, h⟩
          rcases List.mem_append.mp hz with hz | hz
          · exact .inl ⟨z, hz, h⟩
          · rw [Option.toList_some, List.mem_singleton] at hz
            subst hz
            exact .inr h
        · rintro (⟨z, hz, h⟩ | h)
          · exact ⟨z, List.mem_append_left _ hz, h⟩
          · exact ⟨x0, List.mem_append_right _ (by simp), h⟩
      walk_at "go"
      rw [Int.toNat_natCast]
      refine for_it walk_range (fun j σ H' => ∃ (v8 : Option V) (ys : List (List Int × Bool)), σ = [some (.ref o), some (.ref sl), some (.ref wp), some (.int (l : Int)), some (.int (A : Int)), some (.ref d0), some (.ref q0), some (.bl x0.2), v8] ∧ Same H H' ∧ NdSt P w H' d0 ys ∧ ys.Nodup ∧ ys.length ≤ i * A + j ∧ ∀ y, y ∈ ys ↔ Nxt bs N A f l (fun x => x ∈ xs.take i) y ∨ ∃ o : Int, (0 ≤ o ∧ o < j) ∧ y = (mvV N x0.1 (wtV bs f) (o - l), x0.2 || decide (o ≠ l)))
        ⟨v8, ys, rfl, s2, hnd, hyn, hyl, fun y => ⟨fun h => .inl ((hys y).mp h), fun h => h.elim (hys y).mpr fun h => by
          obtain ⟨o, h, _⟩ := h
          omega⟩⟩ (fun j σ H' _ h => trivial) ?_ ?_
      · rintro j x σ H3 H4 hj ⟨v8', ys', rfl, s3, ⟨kvs, nd3, hkv3⟩, hyn', hyl', hys'⟩ ⟨rfl, rfl⟩
        have e0 : (0 : Int) + ((j : Nat) : Int) = ((j : Nat) : Int) := by omega
        show gName 8 (V.int (0 + ((j : Nat) : Int))) _ _ _
        rw [e0]
        have ho4 := s3 _ _ ho
        walk_at "go"
        refine w_methi ho4 (sc_no (by decide +kernel) (by decide +kernel) (by decide +kernel) (by decide +kernel)) ?_
        walk_at "go"
        refine ⟨o, q0, wp, bs, x0.1, wtV bs f, N, (j : Int) - l, lw, rfl, hsc.same s3, sb, s3 _ _ hq0, s3 _ _ hwp, hx0'.1, wv.1, hx0'.2, wv.2, by omega, fun H5 t n5 s5 h5 => ?_⟩
        walk_at "go"
        cases hx2 : x0.2 with
        | true =>
          refine iteT ?_
          walk_at "go"
          refine al fun p H6 n6 s6 h6 => ?_
          walk_at "go"
          have hSt : StAt H6 (mvV N x0.1 (wtV bs f) ((j : Int) - l), x0.2 || decide ((j : Int) ≠ l)) p := ⟨t, by rw [h6]; rw [hx2]; rfl, s6 _ _ h5⟩
          have nd6 := (nd3.same (s5.trans s6))
          have hkv6 := paired_imp (fun (a : List Int × Bool) (b : NE) (z : b.1 = nkS a ∧ StAt H4 a b.2.1 ∧ b.2.2 = .bl true) => (⟨z.1, StAt.same z.2.1 (s5.trans s6), z.2.2⟩ : b.1 = nkS a ∧ StAt H6 a b.2.1 ∧ b.2.2 = .bl true)) hkv3
          have lkv : ys'.length = kvs.length := hkv3.length
          obtain ⟨zs, z1, z2, z3, z4⟩ := NdSt.put nd6 hkv6 hyn' hSt
          refine w_setND nd6 hSt.key (nkS_depth _) (by omega) ?_
          walk_at "go"
          refine ⟨_, zs, rfl, same_up nd0 (s3.trans (s5.trans s6)), z1, z2, by omega, fun y => ?_⟩
          rw [z4, hys', or_assoc, hx2]
          refine or_congr Iff.rfl ?_
          constructor
          · rintro (⟨o, ho, e⟩ | e)
            · exact ⟨o, by omega, e⟩
            · exact ⟨(j : Int), by omega, e⟩
          · rintro ⟨o, ho, e⟩
            by_cases c : o = (j : Int)
            · subst c
              exact .inr e
            · exact .inl ⟨o, by omega, e⟩
        | false =>
          refine iteF ?_
          walk_at "go"
          refine al fun p H6 n6 s6 h6 => ?_
          walk_at "go"
          have hSt : StAt H6 (mvV N x0.1 (wtV bs f) ((j : Int) - l), x0.2 || decide ((j : Int) ≠ l)) p := ⟨t, by rw [h6]; rw [hx2]; simp, s6 _ _ h5⟩
          have nd6 := (nd3.same (s5.trans s6))
          have hkv6 := paired_imp (fun (a : List Int × Bool) (b : NE) (z : b.1 = nkS a ∧ StAt H4 a b.2.1 ∧ b.2.2 = .bl true) => (⟨z.1, StAt.same z.2.1 (s5.trans s6), z.2.2⟩ : b.1 = nkS a ∧ StAt H6 a b.2.1 ∧ b.2.2 = .bl true)) hkv3
          have lkv : ys'.length = kvs.length := hkv3.length
          obtain ⟨zs, z1, z2, z3, z4⟩ := NdSt.put nd6 hkv6 hyn' hSt
          refine w_setND nd6 hSt.key (nkS_depth _) (by omega) ?_
          walk_at "go"
          refine ⟨_, zs, rfl, same_up nd0 (s3.trans (s5.trans s6)), z1, z2, by omega, fun y => ?_⟩
          rw [z4, hys', or_assoc, hx2]
          refine or_congr Iff.rfl ?_
          constructor
          · rintro (⟨o, ho, e⟩ | e)
            · exact ⟨o, by omega, e⟩
            · exact ⟨(j : Int), by omega, e⟩
          · rintro ⟨o, ho, e⟩
            by_cases c : o = (j : Int)
            · subst c
              exact .inr e
            · exact .inl ⟨o, by omega, e⟩
      · rintro σ H3 ⟨v8', ys', rfl, s3, hnd', hyn', hyl', hys'⟩
        walk_at "go"
        refine ⟨_, _, _, ys', rfl, s3, hnd', hyn', by rw [Nat.succ_mul]; exact hyl', fun y => ?_⟩
        rw [tk]
        exact hys' y
    · rintro σ H2 ⟨v6, v7, v8, ys, rfl, s2, hnd, hyn, hyl, hys⟩
      walk_at "go"
      refine q H2 d0 ys nd0 s2 hnd hyn ?_
      rw [List.length_map, ← lps, List.take_length] at hys
      exact hys
noncomputable abbrev s_firstt : Stmt := (top 45)
theorem sc_firstt : FnScope ["scale", "weights", "stock", "steps", "every", "unlike", "states", "found", "place", "weight", "letter", "kept", "ahead", "state"] ["scale", "weights", "stock"] (defScope s_firstt) :=
  ⟨rfl, rfl, rfl, by decide +kernel, rfl, by decide +kernel, by decide +kernel⟩
theorem ok_firstt {Cq : Addr} (F : Dn K mg "first_text" s_firstt ["scale", "weights", "stock"]) (T : Bt mg) (S : KSc K mg Cq) (c_sumsb : Cal P w K mg base 2 "sums_behind" (spSumsB Cq Beh (Hap P w)) []) (c_unlsb : Cal P w K mg base 3 "unlike_sums_behind" (spSumsB Cq Unl (Hap P w)) []) (c_goeson : Cal P w K mg base 2 "goes_on" (spGoesOn Cq) []) (c_nextst : Cal P w K mg base 2 "next_states" (spNextSt P w Cq) []) : Cal P w K mg base 4 "first_text" (spFstT Cq (Hap P w)) [] := by
  refine F.cal sc_firstt (fun vs H Q E h => ?_) (fun f cdv A' outer s H vs Q E hr h => ?_)
  · obtain ⟨o, wl, bs, N, lw, ws, A, M, rfl, _⟩ := h
    rfl
  · obtain ⟨o, wl, bs, N, lw, ws, A, M, rfl, hsc, sb, hap, ⟨wts, hwl, hwp⟩, wok, hwz, A1, A2, hfew, hM, hM2, hgd, q⟩ := h
    obtain ⟨dx, l, z, ho, hl, hz⟩ := id hsc
    have hN := sb.pos
    refine ⟨_, (pss_cons (ps_set (i := 3) sc_firstt.nd rfl (Or.inl rfl) (pe_listRg rfl (by rfl) T.list (prg_2 (by rfl) T.range (pe_op op_sub pe_int (pv 2)) (pv 2))))
      (pss_cons (ps_set (i := 4) sc_firstt.nd rfl (Or.inr rfl) (pe_c c_sumsb hr (by decide) (by rfl) (pa_cons (pv 0) (pa_cons (pv 1) (pa_cons (pe_op op_rep (pe_lst (pa_cons (pv 3) pa_nil)) (pe_callB cLen (by rfl) T.len (by decide +kernel) (pa_cons (pv 1) pa_nil))) pa_nil)))))
      (pss_cons (ps_set (i := 5) sc_firstt.nd rfl (Or.inr rfl) (pe_c c_unlsb hr (by decide) (by rfl) (pa_cons (pv 0) (pa_cons (pv 1) (pa_cons (pe_op op_rep (pe_lst (pa_cons (pv 3) pa_nil)) (pe_callB cLen (by rfl) T.len (by decide +kernel) (pa_cons (pv 1) pa_nil))) pa_nil)))))
      (pss_cons (ps_set (i := 6) sc_firstt.nd rfl (Or.inl rfl) (pe_lst (pa_cons (pe_tup (pa_cons (pe_fld (pv 0) rfl) (pa_cons pe_bl pa_nil))) pa_nil)))
      (pss_cons (ps_set (i := 7) sc_firstt.nd rfl (Or.inl rfl) (pe_lst pa_nil))
      (pss_cons (ps_for PassesOwn.never rfl (pi_enum (by rfl) T.enumerate (pa_cons (pv 1) pa_nil)) (pg_tup rfl (pgs_cons (pg_name (i := 8) sc_firstt.nd rfl (Or.inr rfl)) (pgs_cons (pg_name (i := 9) sc_firstt.nd rfl (Or.inl rfl)) pgs_nil))) (pss_cons (ps_set (i := 10) sc_firstt.nd rfl (Or.inl rfl) (pe_un un_neg pe_int))
      (pss_cons (ps_set (i := 11) sc_firstt.nd rfl (Or.inl rfl) (pe_lst pa_nil))
      (pss_cons (ps_while PassesOwn.never (pt_cmpR (op_eqE hr.units) (pv 11) (pe_lst pa_nil) (nomark _)) (pss_cons (ps_aug (i := 10) sc_firstt.nd rfl (Or.inl rfl) pe_int ip_add)
      (pss_cons (ps_set (i := 12) sc_firstt.nd rfl (Or.inl rfl) (pe_c c_nextst hr (by decide) (by rfl) (pa_cons (pv 0) (pa_cons (pv 6) (pa_cons (pv 9) (pa_cons (pv 10) (pa_cons (pv 2) pa_nil)))))))
      (pss_one (ps_lock (ps_setLc (i := 11) (own := [("state", 13)]) (g := gName 13) (tt := (tB (tCall _ _ _ (tCons (tVar 0) (tCons (tVar 13) (tCons (tOp (rIxL K) (tVar 4) (tOp _ (tVar 8) _)) (tCons (tOp (rIxL K) (tVar 5) (tOp _ (tVar 8) _)) tNil))))))) (te := (tVar 13)) rfl sc_firstt.nd rfl rfl (sw_true rfl rfl rfl (by decide +kernel)) (pi_keysN (pv 12)) (blkOk_by (own := [("state", 13)]) (N := ["scale", "weights", "stock", "steps", "every", "unlike", "states", "found", "place", "weight", "letter", "kept", "ahead", "state"]) (sc := defScope s_firstt) (by decide +kernel)) (fun _ _ _ _ _ => (pg_name (i := 13) sc_firstt.nd rfl (Or.inl rfl))) (fun _ _ _ _ _ => (pts_one (pt_val (pe_c c_goeson hr (by decide) (by rfl) (pa_cons (pv 0) (pa_cons (pv 13) (pa_cons (pe_ix ix_list (pv 4) (pe_op op_add (pv 8) pe_int) (fun _ _ => rfl)) (pa_cons (pe_ix ix_list (pv 5) (pe_op op_add (pv 8) pe_int) (fun _ _ => rfl)) pa_nil)))))))) (fun _ _ _ _ _ => (pv 13))))))))
      (pss_cons (ps_expr (pe_bm PySem.F.plainAttrs_list PySem.F.slot_list_append PySem.F.type_list_append mt_append (pv 7) (pa_cons (pv 10) pa_nil)))
      (pss_one (ps_set (i := 6) sc_firstt.nd rfl (Or.inl rfl) (pv 11))))))))
      (pss_one (ps_ret (pe_callTy cTupOf (by rfl) T.tuple (by decide +kernel) (pa_cons (pv 7) pa_nil)))))))))), ?_⟩
    have l1 : ws.length = wts.length := by rw [← hwp.length, List.length_map]
    walk_at "go"
    refine al fun sp H1 n1 s1 h1 => ?_
    have eL : (stps A).map V.int = (List.range ((A : Int) - (1 - (A : Int))).toNat).map fun i : Nat => V.int (1 - (A : Int) + i) := by
      unfold stps
      rw [List.map_map, show ((A : Int) - (1 - (A : Int))).toNat = 2 * A - 1 by omega]
      rfl
    have hst : H1 sp = some (.lst ((stps A).map V.int)) := by rw [eL]; exact h1
    clear h1 eL
    have hsl := stps_len A
    have hwl1 := s1 _ _ hwl
    have hszl : (100000 : Nat) < sizeLine := by decide
    walk_at "go"
    refine al fun lp H2 n2 s2 h2 => ?_
    have hwl2 := s2 _ _ hwl1
    walk_at "go"
    rw [List.length_map, ← l1]
    refine w_rep h2 ⟨by omega, by omega, by rw [Int.toNat_natCast]; show 1 * ws.length ≤ sizeLine; omega⟩ (al fun rp H3 n3 s3 h3 => ?_)
    rw [Int.toNat_natCast] at h3
    have S3 := s1.trans (s2.trans s3)
    have hLL3 : LLq H3 rp (gsA A ws.length) := LLq.rep h3 (s3 _ _ (s2 _ _ hst))
    have hgl : (gsA A ws.length).length = ws.length := List.length_replicate
    walk_at "go"
    refine ⟨o, wl, rp, bs, N, lw, ws, _, A, M, rfl, hsc.same S3, sb, hap, TLq.same ⟨wts, hwl, hwp⟩ S3, wok, hLL3, gsA_ok A2, gsA_zero A1, hgl, hwz, hfew, hM, hM2, fun H4 ev s4 hev => ?_⟩
    have hst4 := s4 _ _ (s3 _ _ (s2 _ _ hst))
    have hwl4 := s4 _ _ (s3 _ _ hwl2)
    walk_at "go"
    refine al fun lp' H5 n5 s5 h5 => ?_
    have hwl5 := s5 _ _ hwl4
    walk_at "go"
    rw [List.length_map, ← l1]
    refine w_rep h5 ⟨by omega, by omega, by rw [Int.toNat_natCast]; show 1 * ws.length ≤ sizeLine; omega⟩ (al fun rp' H6 n6 s6 h6 => ?_)
    rw [Int.toNat_natCast] at h6
    have S6 := S3.trans (s4.trans (s5.trans s6))
    have hLL6 : LLq H6 rp' (gsA A ws.length) := LLq.rep h6 (s6 _ _ (s5 _ _ hst4))
    walk_at "go"
    refine ⟨o, wl, rp', bs, N, lw, ws, _, A, M, rfl, hsc.same S6, sb, hap, TLq.same ⟨wts, hwl, hwp⟩ S6, wok, hLL6, gsA_ok A2, gsA_zero A1, hgl, hwz, hfew, hM, hM2, fun H7 un s7 hun => ?_⟩
    have hev7 := hev.same (s5.trans (s6.trans s7))
    have S7 := S6.trans s7
    clear hev hLL3 hLL6 h2 h3 h5 h6 hst4 hwl4 hwl5 hwl1 hwl2
    have ho7 := S7 _ _ ho
    walk_at "go"
    refine w_fldi ho7 S.cl.cl S.zero sc_zero ?_
    walk_at "go"
    refine al fun p8 H8 n8 s8 h8 => ?_
    walk_at "go"
    refine al fun sl H9 n9 s9 h9 => ?_
    walk_at "go"
    refine al fun fl H10 nf sf hf => ?_
    have S10 := S7.trans (s8.trans (s9.trans sf))
    have hwl10 := S10 _ _ hwl
    have hev10 := hev7.same (s8.trans (s9.trans sf))
    have hun10 := hun.same (s8.trans (s9.trans sf))
    have hsl10 := sf _ _ h9
    have hp10 := sf _ _ (s9 _ _ h8)
    have hz10 := S10 _ _ hz
    have nfH : H fl = none := (S7.trans (s8.trans s9)).free nf
    have SF0 : Same H (rm fl H10) := rm_in nfH S10
    clear S6 S3 hst
    walk_at "go"
    refine ⟨wl, wts.map V.ref, rfl, sq hwl10, ?_⟩
    have hev0 : DLs (rm fl H10) ev (ws.length + 1) (fun i => Beh bs N (ws.drop i) ((gsA A ws.length).drop i)) := hev7.same (rm_in ((s8.trans s9).free nf) (s8.trans (s9.trans sf)))
    have hun0 : DLs (rm fl H10) un (ws.length + 1) (fun i => Unl bs N (ws.drop i) ((gsA A ws.length).drop i)) := hun.same (rm_in ((s8.trans s9).free nf) (s8.trans (s9.trans sf)))
    obtain ⟨evs, hevl, hevn, hevs⟩ := hev0
    obtain ⟨uns, hunl, hunn, huns⟩ := hun0
    have h0sl : STl (rm fl H10) sl [(zr bs, false)] := ⟨[p8], rm_of (ne_of_none' h9 nf).symm hsl10, .cons ⟨z, rm_of (ne_of_none' (s9 _ _ h8) nf).symm hp10, SF0 _ _ hz⟩ .nil⟩
    refine for_it walk_enum (fun i σ H' => ∃ (st : Addr) (v8 v9 v10 v11 v12 : Option V) (t : List Int) (xs : List (List Int × Bool)), σ = [some (.ref o), some (.ref wl), some (.int (A : Int)), some (.ref sp), some (.ref ev), some (.ref un), some (.ref st), some (.ref fl), v8, v9, v10, v11, v12, none] ∧ Same (rm fl H10) (rm fl H') ∧ H' fl = some (.lst (t.map V.int)) ∧ t.length = i ∧ Ltr A t ∧ STl (rm fl H') st xs ∧ xs.Nodup ∧ (∀ x, x ∈ xs ↔ SP bs N A (ws.take i) t x ∧ GoV bs N (ws.drop i) (gsA A (ws.drop i).length) x) ∧ GdT bs N A (ws.take i) (ws.drop i) t ∧ ∀ (k : Nat) (x l : Int), t[k]? = some x → 0 ≤ l → l < x → ¬ GdT bs N A (ws.take (k + 1)) (ws.drop (k + 1)) (t.take k ++ [l]))
      ⟨sl, none, none, none, none, none, [], [(zr bs, false)], rfl, Same.refl _, hf, rfl, fun x hx => (nomatch hx), h0sl, by simp, fun x => ?_, hgd, fun k x l h => by simp at h⟩ (fun i σ H' _ h => by
        obtain ⟨_, _, _, _, _, _, _, _, _, h, _⟩ := h
        exact sq (rm_le _ _ (h _ _ (SF0 _ _ hwl)))) ?_ ?_
    · rw [List.mem_singleton, List.take_zero, List.drop_zero]
      constructor
      · rintro rfl
        obtain ⟨y, hy, hg⟩ := hgd
        have e := SP_nil.mp hy
        subst e
        exact ⟨hy, hg⟩
      · rintro ⟨h, _⟩
        exact SP_nil.mp h
    · rintro i x σ H11 H12 hi ⟨st, v8, v9, v10, v11, v12, t, xs, rfl, s11, hfl, htl, hlt, hstl, hxn, hxs, hgt, hno⟩ ⟨T0, y1, y2, rfl, nT, rfl, ey1, ey2⟩
      cases ey1
      obtain ⟨wt, ew, rfl⟩ := get_map ey2
      have hiw : i < ws.length := by
        have := (List.getElem?_eq_some_iff.mp ew).1
        omega
      obtain ⟨W0, hW0, hwt⟩ := paired_get hwp ew
      rw [List.getElem?_map] at hW0
      obtain ⟨g, hg0, rfl⟩ := Option.map_eq_some_iff.mp hW0
      have wokg := wok g (List.mem_of_getElem? hg0)
      have edw : ws.drop i = g :: ws.drop (i + 1) := by
        rw [List.drop_eq_getElem_cons hiw]
        congr 1
        exact (List.getElem?_eq_some_iff.mp hg0).2
      have etw : ws.take (i + 1) = ws.take i ++ [g] := by
        rw [List.take_add_one, hg0]
        rfl
      have hpw : (ws.take i).length = t.length := by rw [List.length_take]; omega
      have sT : Same H11 (upd H11 T0 (.tup [.int ((i : Nat) : Int), .ref wt])) := Same.new nT
      have hT : (upd H11 T0 (.tup [.int ((i : Nat) : Int), .ref wt])) T0 = some (.tup [.int ((i : Nat) : Int), .ref wt]) := upd_same
      generalize upd H11 T0 (.tup [V.int ((i : Nat) : Int), V.ref wt]) = H13 at sT hT
      have S13 : Same H H13 := SF0.trans (s11.trans (rm_le.trans sT))
      have S13f : Same (rm fl H11) H13 := rm_le.trans sT
      have hstl13 := hstl.same S13f
      have hfl13 := sT _ _ hfl
      rw [edw] at hgt hxs
      walk_at "go"
      refine al fun k0 H14 n14 s14 h14 => ?_
      have hpw1 : ∀ (l : Int), (ws.take (i + 1)).length = (t ++ [l]).length := fun l => by rw [List.length_take, List.length_append, htl]; simp; omega
      have hxsok : ∀ x ∈ xs, x.1.length = bs.length ∧ ∀ z ∈ x.1, 0 ≤ z ∧ z < N := fun x hx => ((hxs x).mp hx).1.ok hN
      have hxM := few2 hfew hxn hxsok
      have hxA : xs.length * A ≤ 100000 := by
        have h1 : xs.length * A ≤ 2 * M * A := Nat.mul_le_mul_right _ hxM
        have h2 : 2 * M * A = M * (2 * A) := by rw [Nat.mul_comm 2 M, Nat.mul_assoc]
        omega
      walk_at "go"
      refine while_go (fun σ H' => ∃ (c : Nat) (kl : Addr) (ks : List (List Int × Bool)) (v12 : Option V), σ = [some (.ref o), some (.ref wl), some (.int (A : Int)), some (.ref sp), some (.ref ev), some (.ref un), some (.ref st), some (.ref fl), some (.int ((i : Nat) : Int)), some (.ref wt), some (.int ((c : Int) - 1)), some (.ref kl), v12, none] ∧ Same H14 H' ∧ H13 kl = none ∧ STl H' kl ks ∧ ks.Nodup ∧ c ≤ A ∧ (c = 0 → ks = []) ∧ (∀ l' : Nat, l' + 1 < c → ¬ GdT bs N A (ws.take (i + 1)) (ws.drop (i + 1)) (t ++ [(l' : Int)])) ∧ ∀ l : Nat, c = l + 1 → ∀ x, x ∈ ks ↔ SP bs N A (ws.take (i + 1)) (t ++ [(l : Int)]) x ∧ GoV bs N (ws.drop (i + 1)) (gsA A (ws.drop (i + 1)).length) x) (fun σ _ => match σ with | [_, _, _, _, _, _, _, _, _, _, some (.int x), _, _, _] => A - (x + 1).toNat | _ => 0)
        ⟨0, k0, [], _, rfl, Same.refl _, n14, ⟨[], h14, .nil⟩, List.nodup_nil, Nat.zero_le _, fun _ => rfl, fun l' h => absurd h (by omega), fun l h => absurd h (by omega)⟩ ?_
      rintro σ H15 ⟨c, kl, ks, v12', rfl, s15, nkl, ⟨kps, hkl, hks⟩, hkn, hcA, hc0, hcn, hcx⟩
      have S15 : Same H13 H15 := s14.trans s15
      walk_at "go"
      refine al fun e0 H16 n16 s16 h16 => ?_
      walk_at "go"
      refine w_eqE (sq (s16 _ _ hkl)) (sq h16) ?_
      have S16 : Same H13 H16 := S15.trans s16
      walk_at "go"
      cases hke : kps with
      | nil =>
        subst hke
        cases hks
        refine iteT ?_
        have hlt2 : c < A := by
          have hg2 := hgt
          obtain ⟨l0, h0, h1⟩ := GdT_next hpw hg2
          rw [← etw] at h1
          have : c ≤ l0 := by
            refine Classical.byContradiction fun hh => ?_
            by_cases c1 : l0 + 1 < c
            · exact hcn l0 c1 h1
            · obtain ⟨x, hx1, hx2⟩ := h1
              have := (hcx l0 (by omega) x).mpr ⟨hx1, hx2⟩
              cases this
          omega
        have hgd0 : ∀ l' : Nat, l' + 1 = c → ¬ GdT bs N A (ws.take (i + 1)) (ws.drop (i + 1)) (t ++ [(l' : Int)]) := fun l' e hh => by
          obtain ⟨x, hx1, hx2⟩ := hh
          have := (hcx l' e.symm x).mpr ⟨hx1, hx2⟩
          cases this
        walk_at "go"
        rw [show (c : Int) - 1 + 1 = (c : Int) by omega]
        refine ⟨o, st, wt, bs, N, lw, xs, g, c, A, rfl, hsc.same (S13.trans S16), sb, hstl13.same S16, hxsok, (S13.trans S16) _ _ hwt, wokg, A2, by omega, hxA, fun H17 da ys nda s17 hnd hyn hys => ?_⟩
        have S17 : Same H13 H17 := S16.trans s17
        obtain ⟨kvs, nd17, hpr⟩ := hnd.refs
        have lkv : ys.length = kvs.length := by rw [hpr.length, List.length_map]
        have hyok : ∀ y ∈ ys, y.1.length = bs.length ∧ ∀ z ∈ y.1, 0 ≤ z ∧ z < N := fun y hy => ((hys y).mp hy).ok hN fun z hz => (hxsok z hz).1
        have hyM := few2 hfew hyn hyok
        have hd17 := nd17.1
        walk_at "go"
        refine ⟨da, _, hd17, trivial, fun od => ?_⟩
        have so := lock_same (H := H17) (d := da) (o := .frz od (ndO P w da kvs))
        have hun' := fun H7 (s7 : Same (upd H17 da (.frz od (ndO P w da kvs))) H7) => unlock_same hd17 s7
        have hlk : (upd H17 da (.frz od (ndO P w da kvs))) da = some (.frz od (ndO P w da kvs)) := upd_same
        generalize upd H17 da (.frz od (ndO P w da kvs)) = H18 at so hun' hlk
        have SS17 : Same (rm fl H10) H17 := s11.trans (S13f.trans S17)
        have sc18 := ((hsc.same (S13.trans S17)).rmD hd17 ndO_ins ndO_lst ndO_tup).same so
        have hev18 := so _ _ (rm_lst hd17 ndO_lst (SS17 _ _ hevl))
        have hun18 := so _ _ (rm_lst hd17 ndO_lst (SS17 _ _ hunl))
        obtain ⟨ed, hed⟩ : ∃ d, evs[i + 1]? = some d := ⟨_, List.getElem?_eq_getElem (by omega)⟩
        obtain ⟨ud, hud⟩ : ∃ d, uns[i + 1]? = some d := ⟨_, List.getElem?_eq_getElem (by omega)⟩
        have hed18 := ((((hevs _ _ hed).same SS17).rmD hd17 ndO_dT).same so)
        have hud18 := ((((huns _ _ hud).same SS17).rmD hd17 ndO_dT).same so)
        have egs : (gsA A ws.length).drop (i + 1) = gsA A (ws.drop (i + 1)).length := by rw [gsA_drop, ← List.length_drop]
        have hed18 : DtP H18 ed (Beh bs N (ws.drop (i + 1)) (gsA A (ws.drop (i + 1)).length)) := by rw [← egs]; exact hed18
        have hud18 : DtP H18 ud (Unl bs N (ws.drop (i + 1)) (gsA A (ws.drop (i + 1)).length)) := by rw [← egs]; exact hud18
        have hst18 : ∀ {y p}, StAt H17 y p → StAt H18 y p := fun h => (h.rmD hd17 ndO_tup).same so
        unfold iKeysN
        walk_at "go"
        refine ⟨da, od, kvs, rfl, hlk, ?_⟩
        intro D2 hD2
        have nD2 : D2 ≠ da := fun e => by rw [e, hlk] at hD2; cases hD2
        have nD2' : H17 D2 = none := (hun' _ (Same.refl _)).free (by rw [upd_ne nD2]; exact hD2)
        refine lc_keepF (kvs.map fun e => V.ref e.2.1) (goodAt H17 (GoV bs N (ws.drop (i + 1)) (gsA A (ws.drop (i + 1)).length))) walk_keysN hD2 (fun H' sm => sm _ _ hlk) (by rw [List.length_map, ← lkv]; omega) (fun _ => rfl) ?_ ?_ ?_
        · intro i' x H19 hx s19 Q' q'
          obtain ⟨e, he, rfl⟩ := get_map hx
          obtain ⟨y, hy, hsty⟩ := paired_get hpr (show (kvs.map fun e => e.2.1)[i']? = some e.2.1 by rw [List.getElem?_map, he]; rfl)
          have hyo := hyok y (List.mem_of_getElem? hy)
          walk_at "go"
          refine w_ixL (sq (s19 _ _ hev18)) (at_idx (n := i + 1) (by rw [List.getElem?_map, hed]; rfl) (by omega)) ?_
          walk_at "go"
          refine w_ixL (sq (s19 _ _ hun18)) (at_idx (n := i + 1) (by rw [List.getElem?_map, hud]; rfl) (by omega)) ?_
          walk_at "go"
          refine ⟨o, e.2.1, ed, ud, bs, N, lw, y, _, _, rfl, sc18.same s19, sb, (hst18 hsty).same s19, hyo.1, hyo.2, hed18.same s19, hud18.same s19, fun b H20 s20 hb => ?_⟩
          walk_at "go"
          have eb : goodAt H17 (GoV bs N (ws.drop (i + 1)) (gsA A (ws.drop (i + 1)).length)) (V.ref e.2.1) = b := Bool.eq_iff_iff.mpr ((goodAt_iff hsty).trans hb.symm)
          rw [← eb]
          exact q' _ s20
        · intro x H19 Q' q'
          walk_at "go"
          exact q'
        · intro H19 s19 hD19
          refine ⟨s19 _ _ hlk, ?_⟩
          have hS19 := hun' H19 s19
          have hD19' : upd H19 da (ndO P w da kvs) D2 = some (.lst ((kvs.map fun e => V.ref e.2.1).filter (goodAt H17 (GoV bs N (ws.drop (i + 1)) (gsA A (ws.drop (i + 1)).length))))) := by rw [upd_ne nD2]; exact hD19
          generalize upd H19 da (ndO P w da kvs) = H20 at hS19 hD19' ⊢
          obtain ⟨qs, hq1, hq2⟩ := goodAt_filter (G := GoV bs N (ws.drop (i + 1)) (gsA A (ws.drop (i + 1)).length)) hpr
          rw [List.map_map] at hq1
          have hq1 : (kvs.map fun e => V.ref e.2.1).filter (goodAt H17 (GoV bs N (ws.drop (i + 1)) (gsA A (ws.drop (i + 1)).length))) = qs.map V.ref := hq1
          rw [hq1] at hD19'
          have exs : (fun x => x ∈ xs) = fun y => SP bs N A (ws.take i) t y ∧ GoV bs N (g :: ws.drop (i + 1)) (gsA A (g :: ws.drop (i + 1)).length) y := funext fun x => propext (hxs x)
          walk_at "go"
          refine ⟨?_, c + 1, D2, _, some (.ref da), ?_, s15.trans (s16.trans (s17.trans hS19)), S17.free nD2', ⟨qs, hD19', paired_imp (fun _ _ z => StAt.same z hS19) hq2⟩, hyn.filter _, by omega, fun e => absurd e (by omega), fun l' hl' => ?_, fun l hl x => ?_⟩
          · show A - ((c : Int) + 1).toNat < A - ((c : Int) - 1 + 1).toNat
            omega
          · rw [show ((c + 1 : Nat) : Int) - 1 = (c : Int) by omega]
          · by_cases c1 : l' + 1 = c
            · exact hgd0 l' c1
            · exact hcn l' (by omega)
          · have el : l = c := by omega
            subst el
            rw [List.mem_filter, hys, exs, etw]
            exact (and_congr Iff.rfl (@decide_eq_true_iff _ (Classical.propDecidable _))).trans (kept_iff hpw ⟨by omega, by omega⟩)
      | cons p kps' =>
        subst hke
        refine iteF ?_
        have hkl2 := hks.length
        have hc1 : c ≠ 0 := fun e => by
          rw [hc0 e] at hkl2
          cases hkl2
        obtain ⟨l, rfl⟩ : ∃ l, c = l + 1 := ⟨c - 1, by omega⟩
        have hfl16 := S16 _ _ hfl13
        have hkl16 := s16 _ _ hkl
        have nkf : kl ≠ fl := fun e => by
          rw [e, hfl13] at nkl
          cases nkl
        walk_at "go"
        refine w_append hfl16 (sz (by rw [List.length_map]; omega)) ?_
        walk_at "go"
        rw [show ((l + 1 : Nat) : Int) - 1 = (l : Int) by omega]
        refine ⟨kl, _, _, _, _, _, t ++ [(l : Int)], ks, rfl, s11.trans ?_, by rw [upd_same, List.map_append]; rfl, by rw [List.length_append, htl]; rfl, fun x hx => ?_, ⟨p :: kps', ?_, ?_⟩, hkn, hcx l rfl, ?_, fun k x l' hk h0 h1 => ?_⟩
        · rw [rm_updS]
          exact (sT.trans S16).rm
        · rcases List.mem_append.mp hx with h | h
          · exact hlt x h
          · rw [List.mem_singleton.mp h]
            omega
        · rw [rm_updS]
          exact rm_of nkf hkl16
        · rw [rm_updS]
          exact paired_imp (fun _ _ z => (StAt.same z s16).rmD hfl16 (fun _ e => by cases e)) hks
        · cases ks with
          | nil => cases hkl2
          | cons x ks' => exact ⟨x, (hcx l rfl x).mp (List.mem_cons_self ..)⟩
        · by_cases hkt : k < t.length
          · rw [List.getElem?_append_left hkt] at hk
            rw [List.take_append_of_le_length (by omega)]
            exact hno k x l' hk h0 h1
          · have hkl3 := (List.getElem?_eq_some_iff.mp hk).1
            rw [List.length_append, List.length_singleton] at hkl3
            have ek : k = i := by omega
            subst ek
            rw [List.getElem?_append_right (by omega), show k - t.length = 0 by omega] at hk
            cases hk
            rw [show (t ++ [(l : Int)]).take k = t by rw [← htl]; exact List.take_left]
            have := hcn l'.toNat (by omega)
            rw [Int.toNat_of_nonneg h0] at this
            exact this
    · rintro σ H11 ⟨st, v8, v9, v10, v11, v12, t, xs, rfl, s11, hfl, htl, hlt, hstl, hxn, hxs, hgt, hno⟩
      rw [List.length_map, ← l1] at htl
      have e1 : ws.take t.length = ws := by rw [htl]; exact List.take_length
      walk_at "go"
      refine w_tupL (sq hfl) (al fun tp H12 n12 s12 h12 => ?_)
      refine q H12 tp t (SF0.trans (s11.trans (rm_le.trans s12))) ⟨htl, hlt, ?_, hno⟩ h12
      rw [List.length_map, ← l1, List.take_length, List.drop_length] at hgt
      exact GdT_end.mp hgt
noncomputable abbrev s_firsto : Stmt := (top 46)
theorem sc_firsto : FnScope ["scale", "weights", "stock", "text", "ranges", "letter", "every", "unlike", "rests", "differ", "found", "place", "weight", "other", "ahead"] ["scale", "weights", "stock", "text"] (defScope s_firsto) :=
  ⟨rfl, rfl, rfl, by decide +kernel, rfl, by decide +kernel, by decide +kernel⟩
theorem ok_firsto {Cq : Addr} (F : Dn K mg "first_other" s_firsto ["scale", "weights", "stock", "text"]) (T : Bt mg) (S : KSc K mg Cq) (c_scmoved : C8.Met P w K mg base 1 Cq "moved" (spMoved Cq) []) (c_sumsb : Cal P w K mg base 2 "sums_behind" (spSumsB Cq Beh (Hap P w)) []) (c_unlsb : Cal P w K mg base 3 "unlike_sums_behind" (spSumsB Cq Unl (Hap P w)) []) (c_goeson : Cal P w K mg base 2 "goes_on" (spGoesOn Cq) []) : Cal P w K mg base 4 "first_other" (spFstO Cq (Hap P w)) [] := by
  refine F.cal sc_firsto (fun vs H Q E h => ?_) (fun f cdv A' outer s H vs Q E hr h => ?_)
  · obtain ⟨o, wl, tp, bs, N, lw, ws, A, M, t, rfl, _⟩ := h
    rfl
  · obtain ⟨o, wl, tp, bs, N, lw, ws, A, M, t, rfl, hsc, sb, hap, ⟨wts, hwl, hwp⟩, wok, hwz, A1, A2, hfew, hM, hM2, htp, htl, hlt, hgd, q⟩ := h
    obtain ⟨dx, lb, z, ho, hl, hz⟩ := id hsc
    have hN := sb.pos
    refine ⟨_, (pss_cons (ps_setLc (i := 4) (own := [("letter", 5)]) (g := gName 5) (tt := tYes) (te := (tLstRg (tRg2 (tUn _ (tVar 5)) (tOp _ (tVar 2) (tVar 5))))) rfl sc_firsto.nd rfl rfl (sw_true rfl rfl rfl (by decide +kernel)) (pi_tup (pv 3)) (blkOk_by (own := [("letter", 5)]) (N := ["scale", "weights", "stock", "text", "ranges", "letter", "every", "unlike", "rests", "differ", "found", "place", "weight", "other", "ahead"]) (sc := defScope s_firsto) (by decide +kernel)) (fun _ _ _ _ _ => (pg_name (i := 5) sc_firsto.nd rfl (Or.inl rfl))) (fun _ _ _ _ _ => pts_nil) (fun _ _ _ _ _ => (pe_listRg rfl (by rfl) T.list (prg_2 (by rfl) T.range (pe_un un_neg (pv 5)) (pe_op op_sub (pv 2) (pv 5))))))
      (pss_cons (ps_set (i := 6) sc_firsto.nd rfl (Or.inl rfl) (pe_c c_sumsb hr (by decide) (by rfl) (pa_cons (pv 0) (pa_cons (pv 1) (pa_cons (pv 4) pa_nil)))))
      (pss_cons (ps_set (i := 7) sc_firsto.nd rfl (Or.inl rfl) (pe_c c_unlsb hr (by decide) (by rfl) (pa_cons (pv 0) (pa_cons (pv 1) (pa_cons (pv 4) pa_nil)))))
      (pss_cons (ps_par (i := 8) (j := 9) (by rfl) sc_firsto.nd rfl rfl (by decide) rfl rfl (pa_cons (pe_fld (pv 0) rfl) (pa_cons pe_bl pa_nil)) (by rfl))
      (pss_cons (ps_set (i := 10) sc_firsto.nd rfl (Or.inl rfl) (pe_lst pa_nil))
      (pss_cons (ps_for PassesOwn.never rfl (pi_enum (by rfl) T.enumerate (pa_cons (pv 1) pa_nil)) (pg_tup rfl (pgs_cons (pg_name (i := 11) sc_firsto.nd rfl (Or.inl rfl)) (pgs_cons (pg_name (i := 12) sc_firsto.nd rfl (Or.inl rfl)) pgs_nil))) (pss_cons (ps_set (i := 13) sc_firsto.nd rfl (Or.inl rfl) pe_int)
      (pss_cons (ps_set (i := 14) sc_firsto.nd rfl (Or.inl rfl) (pe_tup (pa_cons (pe_mt c_scmoved hr (by decide) (pv 0) (pa_cons (pv 8) (pa_cons (pv 12) (pa_cons (pe_un un_neg (pe_ix ix_tup (pv 3) (pv 11) (fun _ _ => rfl))) pa_nil)))) (pa_cons (pe_or (pv 9) (pe_one (pe_cmpR op_ne (pe_ix ix_tup (pv 3) (pv 11) (fun _ _ => rfl)) pe_int (nomark _)))) pa_nil))))
      (pss_cons (ps_while PassesOwn.never (pt_not (pt_val (pe_c c_goeson hr (by decide) (by rfl) (pa_cons (pv 0) (pa_cons (pv 14) (pa_cons (pe_ix ix_list (pv 6) (pe_op op_add (pv 11) pe_int) (fun _ _ => rfl)) (pa_cons (pe_ix ix_list (pv 7) (pe_op op_add (pv 11) pe_int) (fun _ _ => rfl)) pa_nil))))))) (pss_cons (ps_aug (i := 13) sc_firsto.nd rfl (Or.inl rfl) pe_int ip_add)
      (pss_one (ps_set (i := 14) sc_firsto.nd rfl (Or.inl rfl) (pe_tup (pa_cons (pe_mt c_scmoved hr (by decide) (pv 0) (pa_cons (pv 8) (pa_cons (pv 12) (pa_cons (pe_op op_sub (pv 13) (pe_ix ix_tup (pv 3) (pv 11) (fun _ _ => rfl))) pa_nil)))) (pa_cons (pe_or (pv 9) (pe_one (pe_cmpR op_ne (pv 13) (pe_ix ix_tup (pv 3) (pv 11) (fun _ _ => rfl)) (nomark _)))) pa_nil)))))))
      (pss_cons (ps_expr (pe_bm PySem.F.plainAttrs_list PySem.F.slot_list_append PySem.F.type_list_append mt_append (pv 10) (pa_cons (pv 13) pa_nil)))
      (pss_one (ps_asg (pv 14) (pg_tup rfl (pgs_cons (pg_name (i := 8) sc_firsto.nd rfl (Or.inl rfl)) (pgs_cons (pg_name (i := 9) sc_firsto.nd rfl (Or.inl rfl)) pgs_nil))))))))))
      (pss_one (ps_ret (pe_callTy cTupOf (by rfl) T.tuple (by decide +kernel) (pa_cons (pv 10) pa_nil)))))))))), ?_⟩
    have l1 : ws.length = wts.length := by rw [← hwp.length, List.length_map]
    walk_at "go"
    intro D hD
    refine lc_rel (t.map V.int) (fun x y G => ∃ r, y = .ref r ∧ ∀ x0 : Int, x = .int x0 → G r = some (.lst (((List.range A).map fun k : Nat => (k : Int) - x0).map V.int))) (fun x y G G' s h => by
        obtain ⟨r, e, h⟩ := h
        exact ⟨r, e, fun i ei => s _ _ (h i ei)⟩) walk_tup hD (fun H' s => sqt (s _ _ htp)) (by rw [List.length_map]; omega) (fun _ => rfl) ?_ ?_
    · rintro i x H4 hx s4 ⟨acc, hacc⟩ Q' q'
      obtain ⟨x0, hx0, rfl⟩ := get_map hx
      have hb := hlt x0 (List.mem_of_getElem? hx0)
      walk_at "go"
      refine al fun r H5 n5 s5 h5 => ?_
      refine q' _ _ s5 ⟨r, rfl, fun j ej => ?_⟩
      obtain rfl : x0 = j := by
        injection ej
      rw [rm_of (ne_of_none' hacc n5) h5, List.map_map]
      unfold rgV
      rw [show ((A : Int) - x0 - -x0).toNat = A by omega]
      congr 2
      refine List.map_congr_left fun k _ => ?_
      show V.int (-x0 + (k : Int)) = V.int ((k : Int) - x0)
      congr 1
      omega
    intro H2 ys s2 hD2 pr
    obtain ⟨rs, rfl, pr1⟩ := paired_refs (Pn := fun (x0 : Int) r => H2 r = some (.lst (((List.range A).map fun k : Nat => (k : Int) - x0).map V.int))) (fun i y z => by
      obtain ⟨r, e, h⟩ := z
      exact ⟨r, e, h i rfl⟩) pr
    have hLL : LLq H2 D (rgs A t) := ⟨rs, hD2, paired_mapG pr1⟩
    walk_at "go"
    refine ⟨o, wl, D, bs, N, lw, ws, _, A, M, rfl, hsc.same s2, sb, hap, TLq.same ⟨wts, hwl, hwp⟩ s2, wok, hLL, rgs_ok A2 hlt, rgs_zero hlt, by rw [rgs_len, htl], hwz, hfew, hM, hM2, fun H4 ev s4 hev => ?_⟩
    walk_at "go"
    refine ⟨o, wl, D, bs, N, lw, ws, _, A, M, rfl, (hsc.same s2).same s4, sb, hap, TLq.same ⟨wts, hwl, hwp⟩ (s2.trans s4), wok, hLL.same s4, rgs_ok A2 hlt, rgs_zero hlt, by rw [rgs_len, htl], hwz, hfew, hM, hM2, fun H7 un s7 hun => ?_⟩
    have S7 : Same H H7 := s2.trans (s4.trans s7)
    have hev7 := hev.same s7
    have ho7 := S7 _ _ ho
    walk_at "go"
    refine w_fldi ho7 S.cl.cl S.zero sc_zero ?_
    walk_at "go"
    refine al fun fl H10 nf sf hf => ?_
    have hev0 : DLs (rm fl H10) ev (ws.length + 1) (fun i => Beh bs N (ws.drop i) ((rgs A t).drop i)) := hev7.same (rm_in nf sf)
    have hun0 : DLs (rm fl H10) un (ws.length + 1) (fun i => Unl bs N (ws.drop i) ((rgs A t).drop i)) := hun.same (rm_in nf sf)
    obtain ⟨evs, hevl, hevn, hevs⟩ := hev0
    obtain ⟨uns, hunl, hunn, huns⟩ := hun0
    have SF0 : Same H (rm fl H10) := rm_in (S7.free nf) (S7.trans sf)
    have hwl10 := SF0 _ _ hwl
    walk_at "go"
    refine ⟨wl, wts.map V.ref, rfl, sq (rm_le _ _ hwl10), ?_⟩
    have h0st : stO bs N [] [] [] = (zr bs, false) := by
      refine Prod.ext ?_ (decide_eq_false (fun h : ([] : List Int) ≠ [] => h rfl))
      show vecF bs N (SF [] []) = zr bs
      rw [zr_vec (N := N)]
      rfl
    refine for_it walk_enum (fun i σ H' => ∃ (rr : Addr) (v11 v12 v13 v14 : Option V) (o' : List Int), σ = [some (.ref o), some (.ref wl), some (.int (A : Int)), some (.ref tp), some (.ref D), none, some (.ref ev), some (.ref un), some (.ref rr), some (.bl (stO bs N (ws.take i) (t.take i) o').2), some (.ref fl), v11, v12, v13, v14] ∧ Same (rm fl H10) (rm fl H') ∧ H' fl = some (.lst (o'.map V.int)) ∧ o'.length = i ∧ Ltr A o' ∧ rm fl H' rr = some (.tup ((stO bs N (ws.take i) (t.take i) o').1.map V.int)) ∧ GdO bs N A (ws.take i) (ws.drop i) (t.take i) (t.drop i) o' ∧ ∀ (k : Nat) (x l : Int), o'[k]? = some x → 0 ≤ l → l < x → ¬ GdO bs N A (ws.take (k + 1)) (ws.drop (k + 1)) (t.take (k + 1)) (t.drop (k + 1)) (o'.take k ++ [l]))
      ⟨z, none, none, none, none, [], by rw [List.take_zero, List.take_zero, h0st], Same.refl _, hf, rfl, fun x hx => (nomatch hx), by rw [List.take_zero, List.take_zero, h0st]; exact SF0 _ _ hz, hgd, fun k x l h => by simp at h⟩ (fun i σ H' _ h => by
        obtain ⟨_, _, _, _, _, _, _, h, _⟩ := h
        exact sq (rm_le _ _ (h _ _ hwl10))) ?_ ?_
    · rintro i x σ H11 H12 hi ⟨rr, v11, v12, v13, v14, o', rfl, s11, hfl, hol', hlo, hrr, hgt, hno⟩ ⟨T0, y1, y2, rfl, nT, rfl, ey1, ey2⟩
      cases ey1
      obtain ⟨wt, ew, rfl⟩ := get_map ey2
      have hiw : i < ws.length := by
        have := (List.getElem?_eq_some_iff.mp ew).1
        omega
      obtain ⟨W0, hW0, hwt⟩ := paired_get hwp ew
      rw [List.getElem?_map] at hW0
      obtain ⟨g, hg0, rfl⟩ := Option.map_eq_some_iff.mp hW0
      have wokg := wok g (List.mem_of_getElem? hg0)
      have wv := wtV_ok (bs := bs) wokg
      obtain ⟨x, hx0⟩ : ∃ x, t[i]? = some x := ⟨_, List.getElem?_eq_getElem (by omega)⟩
      have hxb := hlt x (List.mem_of_getElem? hx0)
      have edw : ws.drop i = g :: ws.drop (i + 1) := by
        rw [List.drop_eq_getElem_cons hiw]
        congr 1
        exact (List.getElem?_eq_some_iff.mp hg0).2
      have etw : ws.take (i + 1) = ws.take i ++ [g] := by
        rw [List.take_add_one, hg0]
        rfl
      have edt : t.drop i = x :: t.drop (i + 1) := by
        rw [List.drop_eq_getElem_cons (by omega)]
        congr 1
        exact (List.getElem?_eq_some_iff.mp hx0).2
      have ett : t.take (i + 1) = t.take i ++ [x] := by
        rw [List.take_add_one, hx0]
        rfl
      have hpw : (ws.take i).length = (t.take i).length := by rw [List.length_take, List.length_take]; omega
      have hol : o'.length = (t.take i).length := by rw [List.length_take]; omega
      have sT : Same H11 (upd H11 T0 (.tup [.int ((i : Nat) : Int), .ref wt])) := Same.new nT
      have hT : (upd H11 T0 (.tup [.int ((i : Nat) : Int), .ref wt])) T0 = some (.tup [.int ((i : Nat) : Int), .ref wt]) := upd_same
      generalize upd H11 T0 (.tup [V.int ((i : Nat) : Int), V.ref wt]) = H13 at sT hT
      have SF13 : Same (rm fl H10) H13 := s11.trans (rm_le.trans sT)
      have S13 : Same H H13 := SF0.trans SF13
      have hfl13 := sT _ _ hfl
      have hrr13 := sT _ _ (rm_le _ _ hrr)
      have htp13 := S13 _ _ htp
      have ho13 := S13 _ _ ho
      have hsto := stO_ok (bs := bs) (N := N) (pw := ws.take i) (pt := t.take i) (o := o') hN
      rw [edw, edt] at hgt
      obtain ⟨l0, hl0A, hl0⟩ := GdO_next hpw hol hgt
      obtain ⟨ed, hed⟩ : ∃ d, evs[i + 1]? = some d := ⟨_, List.getElem?_eq_getElem (by omega)⟩
      obtain ⟨ud, hud⟩ : ∃ d, uns[i + 1]? = some d := ⟨_, List.getElem?_eq_getElem (by omega)⟩
      have egs : (rgs A t).drop (i + 1) = rgs A (t.drop (i + 1)) := rgs_drop
      have hedF : DtP (rm fl H10) ed (Beh bs N (ws.drop (i + 1)) (rgs A (t.drop (i + 1)))) := by rw [← egs]; exact hevs _ _ hed
      have hudF : DtP (rm fl H10) ud (Unl bs N (ws.drop (i + 1)) (rgs A (t.drop (i + 1)))) := by rw [← egs]; exact huns _ _ hud
      have hix := fun (H' : Hp) => at_idx (xs := t.map V.int) (i := ((i : Nat) : Int)) (n := i) (by rw [List.getElem?_map, hx0]; rfl) rfl
      walk_at "go"
      refine w_methi ho13 (sc_no (by decide +kernel) (by decide +kernel) (by decide +kernel) (by decide +kernel)) ?_
      walk_at "go"
      refine w_ixT (sqt htp13) (hix H) ?_
      walk_at "go"
      refine ⟨o, rr, wt, bs, (stO bs N (ws.take i) (t.take i) o').1, wtV bs g, N, -x, lw, rfl, hsc.same S13, sb, hrr13, S13 _ _ hwt, hsto.1, wv.1, hsto.2, wv.2, by omega, fun H15 tq n15 s15 h15 => ?_⟩
      rw [show -x = 0 - x by omega] at h15
      walk_at "go"
      cases hdf : (stO bs N (ws.take i) (t.take i) o').2 with
      | true =>
        refine iteT ?_
        walk_at "go"
        refine al fun p H16 n16 s16 h16 => ?_
        walk_at "go"
        have hSt : StAt H16 (stO bs N (ws.take i ++ [g]) (t.take i ++ [x]) (o' ++ [0])) p := by
          rw [stO_snoc hol hpw, hdf]
          refine ⟨tq, ?_, s16 _ _ h15⟩
          rw [h16]
          rfl
        have S16 := s15.trans s16
        refine while_go (fun σ H' => ∃ (l : Nat) (pa : Addr), σ = [some (.ref o), some (.ref wl), some (.int (A : Int)), some (.ref tp), some (.ref D), none, some (.ref ev), some (.ref un), some (.ref rr), some (.bl (stO bs N (ws.take i) (t.take i) o').2), some (.ref fl), some (.int ((i : Nat) : Int)), some (.ref wt), some (.int (l : Int)), some (.ref pa)] ∧ Same H13 H' ∧ StAt H' (stO bs N (ws.take i ++ [g]) (t.take i ++ [x]) (o' ++ [(l : Int)])) pa ∧ ∀ l' : Nat, l' < l → ¬ GdO bs N A (ws.take i ++ [g]) (ws.drop (i + 1)) (t.take i ++ [x]) (t.drop (i + 1)) (o' ++ [(l' : Int)])) (fun σ _ => match σ with | [_, _, _, _, _, _, _, _, _, _, _, _, _, some (.int x), _] => A - x.toNat | _ => 0)
          ⟨0, p, by rw [hdf]; rfl, S16, hSt, fun l' h => absurd h (by omega)⟩ ?_
        rintro σ H17 ⟨l, pa, rfl, s17, hSt17, hnl⟩
        rw [hdf]
        have hl0' : l ≤ l0 := by
          refine Classical.byContradiction fun c => hnl l0 (by omega) hl0
        have SF17 : Same (rm fl H10) H17 := SF13.trans s17
        have S17 : Same H H17 := S13.trans s17
        walk_at "go"
        refine w_ixL (sq (SF17 _ _ hevl)) (at_idx (n := i + 1) (by rw [List.getElem?_map, hed]; rfl) (by omega)) ?_
        walk_at "go"
        refine w_ixL (sq (SF17 _ _ hunl)) (at_idx (n := i + 1) (by rw [List.getElem?_map, hud]; rfl) (by omega)) ?_
        walk_at "go"
        have hok := stO_ok (bs := bs) (N := N) (pw := ws.take i ++ [g]) (pt := t.take i ++ [x]) (o := o' ++ [(l : Int)]) hN
        refine ⟨o, pa, ed, ud, bs, N, lw, stO bs N (ws.take i ++ [g]) (t.take i ++ [x]) (o' ++ [(l : Int)]), _, _, rfl, hsc.same S17, sb, hSt17, hok.1, hok.2, hedF.same SF17, hudF.same SF17, fun b H18 s18 hb => ?_⟩
        have hb : b = true ↔ GdO bs N A (ws.take i ++ [g]) (ws.drop (i + 1)) (t.take i ++ [x]) (t.drop (i + 1)) (o' ++ [(l : Int)]) := hb
        walk_at "go"
        cases b with
        | true =>
          have hG := hb.mp rfl
          refine iteF ?_
          have hfl18 := s18 _ _ (s17 _ _ hfl13)
          obtain ⟨qa, ha1, ha2⟩ := hSt17.same s18
          have npf : pa ≠ fl := fun e => by rw [e, hfl18] at ha1; cases ha1
          have nqf : qa ≠ fl := fun e => by rw [e, hfl18] at ha2; cases ha2
          walk_at "go"
          refine w_append hfl18 (sz (by rw [List.length_map]; omega)) ?_
          have ha1' : (upd H18 fl (.lst (o'.map V.int ++ [.int (l : Int)]))) pa = some (.tup [.ref qa, .bl (stO bs N (ws.take i ++ [g]) (t.take i ++ [x]) (o' ++ [(l : Int)])).2]) := by
            rw [upd_ne npf]
            exact ha1
          walk_at "go"
          refine ⟨qa, _, _, _, _, o' ++ [(l : Int)], by rw [etw, ett]; rfl, s11.trans ?_, by rw [upd_same, List.map_append]; rfl, by rw [List.length_append, hol']; rfl, fun z hz => ?_, ?_, by rw [etw, ett]; exact hG, fun k y l' hk h0 h1 => ?_⟩
          · rw [rm_updS]
            exact (sT.trans (s17.trans s18)).rm
          · rcases List.mem_append.mp hz with h | h
            · exact hlo z h
            · rw [List.mem_singleton.mp h]
              omega
          · rw [etw, ett]
            exact rm_of nqf (by rw [upd_ne nqf]; exact ha2)
          · by_cases hkt : k < o'.length
            · rw [List.getElem?_append_left hkt] at hk
              rw [List.take_append_of_le_length (by omega)]
              exact hno k y l' hk h0 h1
            · have hkl3 := (List.getElem?_eq_some_iff.mp hk).1
              rw [List.length_append, List.length_singleton] at hkl3
              have ek : k = i := by omega
              subst ek
              rw [List.getElem?_append_right (by omega), show k - o'.length = 0 by omega] at hk
              cases hk
              rw [show (o' ++ [(l : Int)]).take k = o' by rw [← hol']; exact List.take_left, etw, ett]
              have := hnl l'.toNat (by omega)
              rw [Int.toNat_of_nonneg h0] at this
              exact this
        | false =>
          have hbad : ¬ GdO bs N A (ws.take i ++ [g]) (ws.drop (i + 1)) (t.take i ++ [x]) (t.drop (i + 1)) (o' ++ [(l : Int)]) := fun h => by
            have := hb.mpr h
            cases this
          have hlt2 : l < l0 := by
            refine Classical.byContradiction fun c => ?_
            have e : l = l0 := by omega
            rw [e] at hbad
            exact hbad hl0
          refine iteT ?_
          have S18 : Same H13 H18 := s17.trans s18
          have ho18 := S18 _ _ ho13
          walk_at "go"
          rw [show (l : Int) + 1 = ((l + 1 : Nat) : Int) by omega]
          refine w_methi ho18 (sc_no (by decide +kernel) (by decide +kernel) (by decide +kernel) (by decide +kernel)) ?_
          walk_at "go"
          refine w_ixT (sqt (S18 _ _ htp13)) (hix H) ?_
          walk_at "go"
          refine ⟨o, rr, wt, bs, (stO bs N (ws.take i) (t.take i) o').1, wtV bs g, N, ((l + 1 : Nat) : Int) - x, lw, rfl, hsc.same (S13.trans S18), sb, S18 _ _ hrr13, (S13.trans S18) _ _ hwt, hsto.1, wv.1, hsto.2, wv.2, by omega, fun H15 tq n15 s15 h15 => ?_⟩
          walk_at "go"
          refine iteT ?_
          walk_at "go"
          refine al fun p H16 n16 s16 h16 => ?_
          walk_at "go"
          have hSt : StAt H16 (stO bs N (ws.take i ++ [g]) (t.take i ++ [x]) (o' ++ [((l + 1 : Nat) : Int)])) p := by
            rw [stO_snoc hol hpw, hdf]
            refine ⟨tq, ?_, s16 _ _ h15⟩
            rw [h16]
            rfl
          have S16 := s17.trans (s18.trans (s15.trans s16))
          refine ⟨?_, l + 1, p, rfl, S16, hSt, fun l' hl' => ?_⟩
          · show A - (((l + 1 : Nat) : Int)).toNat < A - (l : Int).toNat
            omega
          · by_cases c : l' = l
            · rw [c]
              exact hbad
            · exact hnl l' (by omega)

      | false =>
        refine iteF ?_
        walk_at "go"
        refine w_ixT (sqt (s15 _ _ htp13)) (hix H) ?_
        walk_at "go"
        refine al fun p H16 n16 s16 h16 => ?_
        walk_at "go"
        have hSt : StAt H16 (stO bs N (ws.take i ++ [g]) (t.take i ++ [x]) (o' ++ [0])) p := by
          rw [stO_snoc hol hpw, hdf]
          refine ⟨tq, ?_, s16 _ _ h15⟩
          rw [h16]
          simp [eq_comm]
        have S16 := s15.trans s16
        refine while_go (fun σ H' => ∃ (l : Nat) (pa : Addr), σ = [some (.ref o), some (.ref wl), some (.int (A : Int)), some (.ref tp), some (.ref D), none, some (.ref ev), some (.ref un), some (.ref rr), some (.bl (stO bs N (ws.take i) (t.take i) o').2), some (.ref fl), some (.int ((i : Nat) : Int)), some (.ref wt), some (.int (l : Int)), some (.ref pa)] ∧ Same H13 H' ∧ StAt H' (stO bs N (ws.take i ++ [g]) (t.take i ++ [x]) (o' ++ [(l : Int)])) pa ∧ ∀ l' : Nat, l' < l → ¬ GdO bs N A (ws.take i ++ [g]) (ws.drop (i + 1)) (t.take i ++ [x]) (t.drop (i + 1)) (o' ++ [(l' : Int)])) (fun σ _ => match σ with | [_, _, _, _, _, _, _, _, _, _, _, _, _, some (.int x), _] => A - x.toNat | _ => 0)
          ⟨0, p, by rw [hdf]; rfl, S16, hSt, fun l' h => absurd h (by omega)⟩ ?_
        rintro σ H17 ⟨l, pa, rfl, s17, hSt17, hnl⟩
        rw [hdf]
        have hl0' : l ≤ l0 := by
          refine Classical.byContradiction fun c => hnl l0 (by omega) hl0
        have SF17 : Same (rm fl H10) H17 := SF13.trans s17
        have S17 : Same H H17 := S13.trans s17
        walk_at "go"
        refine w_ixL (sq (SF17 _ _ hevl)) (at_idx (n := i + 1) (by rw [List.getElem?_map, hed]; rfl) (by omega)) ?_
        walk_at "go"
        refine w_ixL (sq (SF17 _ _ hunl)) (at_idx (n := i + 1) (by rw [List.getElem?_map, hud]; rfl) (by omega)) ?_
        walk_at "go"
        have hok := stO_ok (bs := bs) (N := N) (pw := ws.take i ++ [g]) (pt := t.take i ++ [x]) (o := o' ++ [(l : Int)]) hN
        refine ⟨o, pa, ed, ud, bs, N, lw, stO bs N (ws.take i ++ [g]) (t.take i ++ [x]) (o' ++ [(l : Int)]), _, _, rfl, hsc.same S17, sb, hSt17, hok.1, hok.2, hedF.same SF17, hudF.same SF17, fun b H18 s18 hb => ?_⟩
        have hb : b = true ↔ GdO bs N A (ws.take i ++ [g]) (ws.drop (i + 1)) (t.take i ++ [x]) (t.drop (i + 1)) (o' ++ [(l : Int)]) := hb
        walk_at "go"
        cases b with
        | true =>
          have hG := hb.mp rfl
          refine iteF ?_
          have hfl18 := s18 _ _ (s17 _ _ hfl13)
          obtain ⟨qa, ha1, ha2⟩ := hSt17.same s18
          have npf : pa ≠ fl := fun e => by rw [e, hfl18] at ha1; cases ha1
          have nqf : qa ≠ fl := fun e => by rw [e, hfl18] at ha2; cases ha2
          walk_at "go"
          refine w_append hfl18 (sz (by rw [List.length_map]; omega)) ?_
          have ha1' : (upd H18 fl (.lst (o'.map V.int ++ [.int (l : Int)]))) pa = some (.tup [.ref qa, .bl (stO bs N (ws.take i ++ [g]) (t.take i ++ [x]) (o' ++ [(l : Int)])).2]) := by
            rw [upd_ne npf]
            exact ha1
          walk_at "go"
          refine ⟨qa, _, _, _, _, o' ++ [(l : Int)], by rw [etw, ett]; rfl, s11.trans ?_, by rw [upd_same, List.map_append]; rfl, by rw [List.length_append, hol']; rfl, fun z hz => ?_, ?_, by rw [etw, ett]; exact hG, fun k y l' hk h0 h1 => ?_⟩
          · rw [rm_updS]
            exact (sT.trans (s17.trans s18)).rm
          · rcases List.mem_append.mp hz with h | h
            · exact hlo z h
            · rw [List.mem_singleton.mp h]
              omega
          · rw [etw, ett]
            exact rm_of nqf (by rw [upd_ne nqf]; exact ha2)
          · by_cases hkt : k < o'.length
            · rw [List.getElem?_append_left hkt] at hk
              rw [List.take_append_of_le_length (by omega)]
              exact hno k y l' hk h0 h1
            · have hkl3 := (List.getElem?_eq_some_iff.mp hk).1
              rw [List.length_append, List.length_singleton] at hkl3
              have ek : k = i := by omega
              subst ek
              rw [List.getElem?_append_right (by omega), show k - o'.length = 0 by omega] at hk
              cases hk
              rw [show (o' ++ [(l : Int)]).take k = o' by rw [← hol']; exact List.take_left, etw, ett]
              have := hnl l'.toNat (by omega)
              rw [Int.toNat_of_nonneg h0] at this
              exact this
        | false =>
          have hbad : ¬ GdO bs N A (ws.take i ++ [g]) (ws.drop (i + 1)) (t.take i ++ [x]) (t.drop (i + 1)) (o' ++ [(l : Int)]) := fun h => by
            have := hb.mpr h
            cases this
          have hlt2 : l < l0 := by
            refine Classical.byContradiction fun c => ?_
            have e : l = l0 := by omega
            rw [e] at hbad
            exact hbad hl0
          refine iteT ?_
          have S18 : Same H13 H18 := s17.trans s18
          have ho18 := S18 _ _ ho13
          walk_at "go"
          rw [show (l : Int) + 1 = ((l + 1 : Nat) : Int) by omega]
          refine w_methi ho18 (sc_no (by decide +kernel) (by decide +kernel) (by decide +kernel) (by decide +kernel)) ?_
          walk_at "go"
          refine w_ixT (sqt (S18 _ _ htp13)) (hix H) ?_
          walk_at "go"
          refine ⟨o, rr, wt, bs, (stO bs N (ws.take i) (t.take i) o').1, wtV bs g, N, ((l + 1 : Nat) : Int) - x, lw, rfl, hsc.same (S13.trans S18), sb, S18 _ _ hrr13, (S13.trans S18) _ _ hwt, hsto.1, wv.1, hsto.2, wv.2, by omega, fun H15 tq n15 s15 h15 => ?_⟩
          walk_at "go"
          refine iteF ?_
          walk_at "go"
          refine w_ixT (sqt (s15 _ _ (S18 _ _ htp13))) (hix H) ?_
          walk_at "go"
          refine al fun p H16 n16 s16 h16 => ?_
          walk_at "go"
          have hSt : StAt H16 (stO bs N (ws.take i ++ [g]) (t.take i ++ [x]) (o' ++ [((l + 1 : Nat) : Int)])) p := by
            rw [stO_snoc hol hpw, hdf]
            refine ⟨tq, ?_, s16 _ _ h15⟩
            rw [h16]
            simp
          have S16 := s17.trans (s18.trans (s15.trans s16))
          refine ⟨?_, l + 1, p, rfl, S16, hSt, fun l' hl' => ?_⟩
          · show A - (((l + 1 : Nat) : Int)).toNat < A - (l : Int).toNat
            omega
          · by_cases c : l' = l
            · rw [c]
              exact hbad
            · exact hnl l' (by omega)

    · rintro σ H11 ⟨rr, v11, v12, v13, v14, o', rfl, s11, hfl, hol', hlo, hrr, hgt, hno⟩
      rw [List.length_map, ← l1] at hol'
      walk_at "go"
      refine w_tupL (sq hfl) (al fun op H12 n12 s12 h12 => ?_)
      rw [List.length_map, ← l1, List.take_length, List.drop_length, ← htl, List.take_length, List.drop_length] at hgt
      have hE := GdO_end.mp hgt
      exact q H12 op o' (SF0.trans (s11.trans (rm_le.trans s12))) ⟨by omega, hlo, hE.1, hE.2, hno⟩ h12
noncomputable abbrev s_lwin : Stmt := (top 48)
theorem sc_lwin : FnScope ["way", "stock"] ["way", "stock"] (defScope s_lwin) :=
  ⟨rfl, rfl, rfl, by decide +kernel, rfl, by decide +kernel, by decide +kernel⟩
theorem ok_lwin {c : CA} {Cq : Addr} {f : Addr} {fd : FuncData} (F : FunD K "least_window" "least_window" (defArgs s_lwin) (defBody s_lwin) (defScope s_lwin) [] [] f fd) (T : Bt mg) (X : Kx K mg c) (c_reqway : Cal P w K mg base 1 "require_way" (spReqWay c) []) (c_reqstock : Cal P w K mg base 2 "require_stock" spReqStock []) (c_scof : Cal P w K mg base 3 "scale_of" (spScaleOf c Cq) []) (c_lstlen : Cal P w K mg base 2 "least_length" (spLeastLen Cq) []) :
    FnOk P w K mg base L2.CX0 4 f fd ["way", "stock"] (spLeastWin c) := by
  refine fnD_ok F sc_lwin (fun vs H Q E h => ?_) (fun cdv A' outer s H vs Q E hr h => ?_)
  · obtain ⟨x, A, b, ps, y, rfl, _⟩ := h
    rfl
  · obtain ⟨x, A, b, ps, y, rfl, hw, hN2, A1, A2, q1, q2⟩ := h
    have hN := num_pos hw.facs.2
    have hb0 : 0 ≤ b ∧ b < num ps := by
      obtain ⟨_, _, _, _, _, _, h1, h2⟩ := id hw
      exact ⟨h1, h2⟩
    refine ⟨_, (pss_cons (ps_expr (pe_c c_reqway hr (by decide) (by rfl) (pa_cons (pv 0) pa_nil)))
      (pss_cons (ps_expr (pe_c c_reqstock hr (by decide) (by rfl) (pa_cons (pv 1) pa_nil)))
      (pss_one (ps_ret (pe_c c_lstlen hr (by decide) (by rfl) (pa_cons (pe_c c_scof hr (by decide) (by rfl) (pa_cons (pv 0) pa_nil)) (pa_cons (pv 1) pa_nil))))))), ?_⟩
    walk_at "go"
    refine use_reqway hw ?_
    walk_at "go"
    refine ⟨A, rfl, A1, ?_⟩
    walk_at "go"
    refine ⟨x, b, ps, y, rfl, hw, fun H1 o s1 hsc => ?_⟩
    walk_at "go"
    refine ⟨o, [b], num ps, A, y.low, rfl, hsc, by simp, hN, hN2, (fun z hz => by rw [List.mem_singleton.mp hz]; exact hb0), A1, A2, fun e => q1 e H1 s1, fun e => ?_⟩
    obtain ⟨hM, m, hm, q⟩ := q2 e
    refine ⟨(num ps).toNat, m, few_one hN, ?_, hm, fun H2 s2 => q H2 (s1.trans s2)⟩
    have e1 : (((num ps).toNat * (2 * A.toNat) : Nat) : Int) = num ps * (2 * A) := by
      rw [Int.natCast_mul, Int.natCast_mul, Int.toNat_of_nonneg (by omega), Int.toNat_of_nonneg (by omega)]
      rfl
    omega
noncomputable abbrev s_firstp : Stmt := (top 47)
theorem sc_firstp : FnScope ["scale", "stock", "length", "weights", "text"] ["scale", "stock"] (defScope s_firstp) :=
  ⟨rfl, rfl, rfl, by decide +kernel, rfl, by decide +kernel, by decide +kernel⟩
theorem ok_firstp {Cq : Addr} (F : Dn K mg "first_pair" s_firstp ["scale", "stock"]) (T : Bt mg) (S : KSc K mg Cq) (c_lstlen : Cal P w K mg base 2 "least_length" (spLeastLen Cq) []) (c_scweights : C8.Met P w K mg base 3 Cq "weights" (spWeights Cq) []) (c_firstt : Cal P w K mg base 4 "first_text" (spFstT Cq (Hap P w)) []) (c_firsto : Cal P w K mg base 4 "first_other" (spFstO Cq (Hap P w)) []) : Cal P w K mg base 5 "first_pair" (spFirstP Cq (Hap P w)) [] := by
  refine F.cal sc_firstp (fun vs H Q E h => ?_) (fun f cdv A' outer s H vs Q E hr h => ?_)
  · obtain ⟨o, bs, N, A, lw, rfl, _⟩ := h
    rfl
  · obtain ⟨o, bs, N, A, lw, rfl, hsc, sb, A1, A2, q1, q2⟩ := h
    obtain ⟨dx, lb, z, ho, hl, hz⟩ := id hsc
    have hN := sb.pos
    refine ⟨_, (pss_cons (ps_set (i := 2) sc_firstp.nd rfl (Or.inl rfl) (pe_c c_lstlen hr (by decide) (by rfl) (pa_cons (pv 0) (pa_cons (pv 1) pa_nil))))
      (pss_cons (ps_if (pt_cmpR op_isN1 (pv 2) pe_non (nomark _)) (pss_one (ps_ret pe_non)) pss_nil)
      (pss_cons (ps_set (i := 3) sc_firstp.nd rfl (Or.inl rfl) (pe_mt c_scweights hr (by decide) (pv 0) (pa_cons (pv 2) pa_nil)))
      (pss_cons (ps_set (i := 4) sc_firstp.nd rfl (Or.inl rfl) (pe_c c_firstt hr (by decide) (by rfl) (pa_cons (pv 0) (pa_cons (pv 3) (pa_cons (pv 1) pa_nil)))))
      (pss_one (ps_ret (pe_tup (pa_cons (pv 4) (pa_cons (pe_c c_firsto hr (by decide) (by rfl) (pa_cons (pv 0) (pa_cons (pv 3) (pa_cons (pv 1) (pa_cons (pv 4) pa_nil))))) pa_nil))))))))), ?_⟩
    walk_at "go"
    refine ⟨o, bs, N, A, lw, rfl, hsc, sb.len, hN, sb.le, sb.rng, A1, A2, fun e => ?_, fun e => ?_⟩
    · walk_at "go"
      refine iteT ?_
      walk_at "go"
      exact q1 e
    · obtain ⟨M, m, hap, hfew, hM, hM2, hm, hm4, hgd, q⟩ := q2 e
      refine ⟨M, m, hfew, by omega, hm, fun H1 s1 => ?_⟩
      have ho1 := s1 _ _ ho
      walk_at "go"
      refine iteF ?_
      walk_at "go"
      refine w_methi ho1 (sc_no (by decide +kernel) (by decide +kernel) (by decide +kernel) (by decide +kernel)) ?_
      walk_at "go"
      refine ⟨o, bs, N, m, lw, rfl, hsc.same s1, sb, hm4, fun H2 wl s2 hwl => ?_⟩
      have S2 := s1.trans s2
      have eA : (A.toNat : Int) = A := Int.toNat_of_nonneg (by omega)
      walk_at "go"
      refine ⟨o, wl, bs, N, lw, wsL N lw m, A.toNat, M, by rw [eA]; rfl, hsc.same S2, sb, hap, hwl, wsL_ok hN, by rw [wsL_len]; exact hm4, by omega, by omega, hfew, hM, hM2, hgd, fun H3 q3 t s3 ht h3 => ?_⟩
      walk_at "go"
      refine ⟨o, wl, q3, bs, N, lw, wsL N lw m, A.toNat, M, t, by rw [eA]; rfl, (hsc.same S2).same s3, sb, hap, hwl.same s3, wsL_ok hN, by rw [wsL_len]; exact hm4, by omega, by omega, hfew, hM, hM2, h3, ht.len, ht.ltr, ht.gdO, fun H4 q4 u s4 hu h4 => ?_⟩
      walk_at "go"
      refine al fun p H5 n5 s5 h5 => ?_
      walk_at "go"
      exact q H5 p q3 q4 t u (S2.trans (s3.trans (s4.trans s5))) ht hu h5 (s5 _ _ (s4 _ _ h3)) (s5 _ _ h4)
noncomputable abbrev s_winpair : Stmt := (top 49)
theorem sc_winpair : FnScope ["way", "stock"] ["way", "stock"] (defScope s_winpair) :=
  ⟨rfl, rfl, rfl, by decide +kernel, rfl, by decide +kernel, by decide +kernel⟩
theorem ok_winpair {c : CA} {Cq : Addr} {f : Addr} {fd : FuncData} (F : FunD K "window_pair" "window_pair" (defArgs s_winpair) (defBody s_winpair) (defScope s_winpair) [] [] f fd) (T : Bt mg) (X : Kx K mg c) (c_reqway : Cal P w K mg base 1 "require_way" (spReqWay c) []) (c_reqstock : Cal P w K mg base 2 "require_stock" spReqStock []) (c_scof : Cal P w K mg base 3 "scale_of" (spScaleOf c Cq) []) (c_firstp : Cal P w K mg base 5 "first_pair" (spFirstP Cq (Hap P w)) []) :
    FnOk P w K mg base L2.CX0 6 f fd ["way", "stock"] (spWinPair P w c) := by
  refine fnD_ok F sc_winpair (fun vs H Q E h => ?_) (fun cdv A' outer s H vs Q E hr h => ?_)
  · obtain ⟨x, A, b, ps, y, rfl, _⟩ := h
    rfl
  · obtain ⟨x, A, b, ps, y, rfl, hw, hN2, A1, A2, q1, q2⟩ := h
    have hN := num_pos hw.facs.2
    have hb0 : 0 ≤ b ∧ b < num ps := by
      obtain ⟨_, _, _, _, _, _, h1, h2⟩ := id hw
      exact ⟨h1, h2⟩
    refine ⟨_, (pss_cons (ps_expr (pe_c c_reqway hr (by decide) (by rfl) (pa_cons (pv 0) pa_nil)))
      (pss_cons (ps_expr (pe_c c_reqstock hr (by decide) (by rfl) (pa_cons (pv 1) pa_nil)))
      (pss_one (ps_ret (pe_c c_firstp hr (by decide) (by rfl) (pa_cons (pe_c c_scof hr (by decide) (by rfl) (pa_cons (pv 0) pa_nil)) (pa_cons (pv 1) pa_nil))))))), ?_⟩
    walk_at "go"
    refine use_reqway hw ?_
    walk_at "go"
    refine ⟨A, rfl, A1, ?_⟩
    walk_at "go"
    refine ⟨x, b, ps, y, rfl, hw, fun H1 o s1 hsc => ?_⟩
    walk_at "go"
    refine ⟨o, [b], num ps, A, y.low, rfl, hsc, ⟨by simp, hN, hN2, fun z hz => by rw [List.mem_singleton.mp hz]; exact hb0⟩, A1, A2, fun e => q1 e H1 s1, fun e => ?_⟩
    obtain ⟨hM, hap, m, hm, hm4, q⟩ := q2 e
    have e1 : (((num ps).toNat * (2 * A.toNat) : Nat) : Int) = num ps * (2 * A) := by
      rw [Int.natCast_mul, Int.natCast_mul, Int.toNat_of_nonneg (by omega), Int.toNat_of_nonneg (by omega)]
      rfl
    exact ⟨(num ps).toNat, m, hap, few_one hN, by omega, by omega, hm, hm4, hm.gd (by omega), fun H2 p q1 q2 t u s2 => q H2 p q1 q2 t u (s1.trans s2)⟩
noncomputable abbrev s_most90 : Stmt := (top 72)
theorem sc_most90 : FnScope ["_law_counts", "_law_found", "_law_count"] ["_law_counts"] (defScope s_most90) :=
  ⟨rfl, rfl, rfl, by decide +kernel, rfl, by decide +kernel, by decide +kernel⟩
theorem ok_most90 (F : Dn K mg "_law_most" s_most90 ["_law_counts"]) (T : Bt mg) : Cal P w K mg base 1 "_law_most" spMost [] := by
  refine F.cal sc_most90 (fun vs H Q E h => ?_) (fun f cdv A outer s H vs Q E hr h => ?_)
  · obtain ⟨l, xs, rfl, _⟩ := h
    rfl
  · obtain ⟨l, xs, rfl, hl, q⟩ := h
    refine ⟨_, (pss_cons (ps_set (i := 1) sc_most90.nd rfl (Or.inl rfl) pe_int)
      (pss_cons (ps_for PassesOwn.never rfl (pi_list (pv 0)) (pg_name (i := 2) sc_most90.nd rfl (Or.inl rfl)) (pss_one (ps_if (pt_cmpR op_gt (pv 2) (pv 1) (nomark _)) (pss_one (ps_set (i := 1) sc_most90.nd rfl (Or.inl rfl) (pv 2))) pss_nil)))
      (pss_one (ps_ret (pv 1))))), ?_⟩
    walk_at "go"
    refine for_list (K := K) (a := l) (xs := xs.map V.int) (fun i σ H' => ∃ (r : Int) (v2 : Option V), σ = [some (.ref l), some (.int r), v2] ∧ H' = H ∧ (∀ x ∈ xs.take i, x ≤ r) ∧ (r = 0 ∨ r ∈ xs))
      ⟨0, none, rfl, rfl, fun x h => absurd h (by simp), .inl rfl⟩ (fun i σ H' _ z => by obtain ⟨_, _, _, rfl, _⟩ := z; exact sq hl) ?_ ?_
    · rintro i x σ H' hx ⟨r, v2, rfl, rfl, h1, h2⟩
      obtain ⟨z, hz, rfl⟩ := get_map hx
      have tk : xs.take (i + 1) = xs.take i ++ [z] := by rw [List.take_add_one, hz]; rfl
      walk_at "go"
      refine ite_d (fun hg => ?_) (fun hg => ?_)
      · walk_at "go"
        refine ⟨z, _, rfl, rfl, fun x hx => ?_, .inr (List.mem_of_getElem? hz)⟩
        rw [tk] at hx
        rcases List.mem_append.mp hx with h | h
        · have := h1 x h
          omega
        · rw [List.mem_singleton.mp h]
          exact Int.le_refl _
      · walk_at "go"
        refine ⟨r, _, rfl, rfl, fun x hx => ?_, h2⟩
        rw [tk] at hx
        rcases List.mem_append.mp hx with h | h
        · exact h1 x h
        · rw [List.mem_singleton.mp h]
          omega
    · rintro σ H' ⟨r, v2, rfl, rfl, h1, h2⟩
      rw [List.length_map, List.take_length] at h1
      walk_at "go"
      exact q r h1 h2
noncomputable abbrev s_right : Stmt := (top 73)
theorem sc_right : FnScope ["_law_purse_here", "_law_pairs", "_law_size", "_law_rich", "_law_root_here", "_law_made", "_law_many", "_law_shorter", "_law_longer", "_law_one", "_law_second", "_law_told", "_law_orders", "_law_even"] ["_law_purse_here"] (defScope s_right) :=
  ⟨rfl, rfl, rfl, by decide +kernel, rfl, by decide +kernel, by decide +kernel⟩
theorem ok_right {c : CA} (F : Dn K mg "_law_right" s_right ["_law_purse_here"]) (T : Bt mg) (X : Kx K mg c) (zset : mg "set" = none) (c_draw : Cal P w K mg base 2 "_law_draw" spDraw []) (c_mod2 : Cal P w K mg base 3 "_law_modulus" spMod2 []) (c_root : Cal P w K mg base 4 "_law_root" spRoot []) (c_style : Cal P w K mg base 4 "_law_style" spStyle []) (c_marking : Cal P w K mg base 4 "_law_marking" (spMarking c) [])
    (c_modinit : Mak P w K mg base 3 "Modulus" c.md (spModInit c) []) (c_way3 : Mak P w K mg base 5 "Way" c.wy (spWayInit c) []) (c_markcounts : Cal P w K mg base 3 "mark_counts" (spCounts c) []) (c_evenfrom : Cal P w K mg base 3 "even_from" (spEvenFrom c) []) (c_cntm : Cal P w K mg base 3 "count_marked" (spCountM c) []) (c_mkdt : Cal P w K mg base 5 "marked_text" (spMarkedT c) []) (c_numof : Cal P w K mg base 5 "number_of" (spNumberOf c) []) (c_callO : CalO P w K mg base 4 c.wy (spMarkOf c)) (c_lwin : Cal P w K mg base 4 "least_window" (spLeastWin c) []) (c_winpair : Cal P w K mg base 6 "window_pair" (spWinPair P w c) []) (c_most90 : Cal P w K mg base 1 "_law_most" spMost []) : Cal P w K mg base 7 "_law_right" spRight [] := by
  refine F.cal sc_right (fun vs H Q E h => ?_) (fun f cdv A outer s H vs Q E hr h => ?_)
  · obtain ⟨a, c, rfl, _⟩ := h
    rfl
  · obtain ⟨a, cc, rfl, hc, p, k⟩ := h
    refine ⟨_, (pss_cons (ps_asg (pe_c c_mod2 hr (by decide) (by rfl) (pa_cons (pv 0) (pa_cons (pe_ix ix_list (pe_lst (pa_cons pe_int (pa_cons pe_int pa_nil))) (pe_c c_draw hr (by decide) (by rfl) (pa_cons (pv 0) (pa_cons pe_int pa_nil))) (fun _ _ => rfl)) pa_nil))) (pg_unl rfl (pgs_cons (pg_name (i := 1) sc_right.nd rfl (Or.inl rfl)) (pgs_cons (pg_name (i := 2) sc_right.nd rfl (Or.inl rfl)) pgs_nil))))
      (pss_cons (ps_set (i := 3) sc_right.nd rfl (Or.inl rfl) (pe_op op_add pe_int (pe_c c_draw hr (by decide) (by rfl) (pa_cons (pv 0) (pa_cons pe_int pa_nil)))))
      (pss_cons (ps_set (i := 4) sc_right.nd rfl (Or.inl rfl) (pe_ix ix_list (pe_lst (pa_cons (pe_c c_root hr (by decide) (by rfl) (pa_cons (pv 0) (pa_cons (pv 2) pa_nil))) (pa_cons (pv 3) (pa_cons (pe_c c_draw hr (by decide) (by rfl) (pa_cons (pv 0) (pa_cons (pv 2) pa_nil))) pa_nil)))) (pe_c c_draw hr (by decide) (by rfl) (pa_cons (pv 0) (pa_cons pe_int pa_nil))) (fun _ _ => rfl)))
      (pss_cons (ps_set (i := 5) sc_right.nd rfl (Or.inl rfl) (pe_mk c_way3 hr (by decide) (by rfl) (pa_cons (pv 4) (pa_cons (pe_mk c_modinit hr (by decide) (by rfl) (pa_cons (pv 1) pa_nil)) (pa_cons (pe_c c_marking hr (by decide) (by rfl) (pa_cons (pe_c c_style hr (by decide) (by rfl) (pa_cons (pv 0) pa_nil)) pa_nil)) pa_nil)))))
      (pss_cons (ps_set (i := 6) sc_right.nd rfl (Or.inl rfl) (pe_c c_lwin hr (by decide) (by rfl) (pa_cons (pv 5) (pa_cons (pv 3) pa_nil))))
      (pss_cons (ps_for PassesOwn.never rfl (pi_range1 (by rfl) T.range (pa_cons (pv 6) pa_nil)) (pg_name (i := 7) sc_right.nd rfl (Or.inl rfl)) (pss_one (ps_if (pt_cmpR op_gt (pe_c c_most90 hr (by decide) (by rfl) (pa_cons (pe_c c_markcounts hr (by decide) (by rfl) (pa_cons (pv 5) (pa_cons (pv 3) (pa_cons (pv 7) pa_nil)))) pa_nil)) pe_int (nomark _)) (pss_one (ps_ret pe_bl)) pss_nil)))
      (pss_cons (ps_for PassesOwn.never rfl (pi_range2 (by rfl) T.range (pa_cons (pv 6) (pa_cons (pe_op op_add (pv 6) pe_int) pa_nil))) (pg_name (i := 8) sc_right.nd rfl (Or.inl rfl)) (pss_one (ps_if (pt_cmpR op_lt (pe_c c_most90 hr (by decide) (by rfl) (pa_cons (pe_c c_markcounts hr (by decide) (by rfl) (pa_cons (pv 5) (pa_cons (pv 3) (pa_cons (pv 8) pa_nil)))) pa_nil)) pe_int (nomark _)) (pss_one (ps_ret pe_bl)) pss_nil)))
      (pss_cons (ps_asg (pe_c c_winpair hr (by decide) (by rfl) (pa_cons (pv 5) (pa_cons (pv 3) pa_nil))) (pg_tup rfl (pgs_cons (pg_name (i := 9) sc_right.nd rfl (Or.inl rfl)) (pgs_cons (pg_name (i := 10) sc_right.nd rfl (Or.inl rfl)) pgs_nil))))
      (pss_cons (ps_set (i := 11) sc_right.nd rfl (Or.inl rfl) (pe_cO (pv 5) c_callO hr (by decide) (pa_cons (pv 9) pa_nil)))
      (pss_cons (ps_set (i := 12) sc_right.nd rfl (Or.inl rfl) (pe_lst (pa_cons (pe_c c_numof hr (by decide) (by rfl) (pa_cons (pv 5) (pa_cons (pv 3) (pa_cons (pv 9) pa_nil)))) (pa_cons (pe_c c_numof hr (by decide) (by rfl) (pa_cons (pv 5) (pa_cons (pv 3) (pa_cons (pv 10) pa_nil)))) pa_nil))))
      (pss_cons (ps_if (PW.pt (pw_or (pt_cmpR op_ne (pe_cO (pv 5) c_callO hr (by decide) (pa_cons (pv 10) pa_nil)) (pv 11) (nomark _)) (pw_or (pt_cmpR (op_neD hr.units) (pv 12) (pe_lst (pa_cons pe_int (pa_cons pe_int pa_nil))) (nomark _)) (pw_or1 (pt_cmpR op_lt (pe_c c_cntm hr (by decide) (by rfl) (pa_cons (pv 5) (pa_cons (pv 3) (pa_cons (pv 6) (pa_cons (pv 11) pa_nil))))) pe_int (nomark _)))))) (pss_one (ps_ret pe_bl)) pss_nil)
      (pss_cons (ps_if (pt_cmpR (op_neD hr.units) (pe_c c_mkdt hr (by decide) (by rfl) (pa_cons (pv 5) (pa_cons (pv 3) (pa_cons (pv 6) (pa_cons (pv 11) (pa_cons pe_int pa_nil)))))) (pv 10) (nomark _)) (pss_one (ps_ret pe_bl)) pss_nil)
      (pss_cons (ps_set (i := 13) sc_right.nd rfl (Or.inl rfl) (pe_c c_evenfrom hr (by decide) (by rfl) (pa_cons (pv 5) (pa_cons (pv 3) pa_nil))))
      (pss_cons (ps_if (pt_cmpR op_isN1 (pv 13) pe_non (nomark _)) (pss_one (ps_ret pe_bl)) pss_nil)
      (pss_one (ps_ret (pe_cmpR op_eq (pe_lenSet1 rfl (by rfl) T.len (by rfl) zset (pe_c c_markcounts hr (by decide) (by rfl) (pa_cons (pv 5) (pa_cons (pv 3) (pa_cons (pe_callB (cMax2 rfl) (by rfl) T.max (by decide +kernel) (pa_cons (pe_callTy cInt1 (by rfl) T.int (by decide +kernel) (pa_cons (pv 13) pa_nil)) (pa_cons (pe_callTy cInt1 (by rfl) T.int (by decide +kernel) (pa_cons (pv 6) pa_nil)) pa_nil))) pa_nil))))) pe_int (nomark _)))))))))))))))))), ?_⟩
    walk_at "go"
    refine alR p fun l1 H1 s1 u1 h1 n1 => ?_
    walk_at "go"
    refine use_drawR u1 (by decide) (by decide) (by omega) fun r2 H2 r20 r21 s2 u2 => ?_
    refine w_ixL (xs := ([20, 200] : List Int).map V.int) (by walk_at "hp") (atI_ints r20 (by simpa using r21)) ?_
    obtain ⟨z2, hz2, z20, z21⟩ := pick2 (x := 20) (y := 200) (lo := 1) (hi := 200) r20 r21 (by decide) (by decide)
    rw [hz2]
    walk_at "go"
    refine ⟨a, z2, _, rfl, by omega, by omega, by omega, u2, fun r6 lp H6 ps s6 u6 h6 hl6 ha hs hn5 => ?_⟩
    have hn := num_pos hs
    have hn200 : num ps ≤ 200 := by omega
    walk_at "go"
    refine use_drawR u6 (by decide) (by decide) (by omega) fun rich0 H7 ri0 ri1 s7 u7 => ?_
    walk_at "go"
    obtain ⟨rich, hrich⟩ : ∃ rich, rich = 2 + rich0 := ⟨_, rfl⟩
    rw [← hrich]
    refine use_rootR u7 hn (by omega) fun rt0 H8 hrt s8 u8 => ?_
    walk_at "go"
    refine use_drawR u8 hn (by omega) (by omega) fun d9 H9 d90 d91 s9 u9 => ?_
    walk_at "go"
    refine alR u9 fun l10 H10 s10 u10 h10 n10 => ?_
    walk_at "go"
    refine use_drawR u10 (by decide) (by decide) (by omega) fun d11 H11 d110 d111 s11 u11 => ?_
    refine w_ixL (xs := ([rt0, rich, d9] : List Int).map V.int) (by walk_at "hp") (atI_ints d110 (by simpa using d111)) ?_
    generalize ([rt0, rich, d9] : List Int).getD d11.toNat 0 = root
    walk_at "go"
    refine use_modR u11 (by walk_at "hp") ha hs fun m1 H17 s17 u17 hm => ?_
    walk_at "go"
    refine use_styleR u17 (by omega) fun g H18 y s18 u18 hg hy => ?_
    walk_at "go"
    refine use_markingR u18 (y := y) (by walk_at "hp") fun kg H19 s19 u19 hk => ?_
    walk_at "go"
    refine use_wayR u19 (y := y) (by walk_at "hp") (by walk_at "hp") fun wy HB sB uB hw => ?_
    have hwB : WayAt c HB wy (root % num ps) ps y := hw.same rm_le
    have SB : Same (rm a H) (rm a HB) := by walk_at "same"
    have UB : Purse HB a (cc + 2300) := uB.le (by omega)
    clear hw hm hg hk h1 h6 h10 hl6 s1 s2 s6 s7 s8 s9 s10 s11 s17 s18 s19 sB u1 u2 u6 u7 u8 u9 u10 u11 u17 u18 u19 uB n1 n10 p
    have hb0 := Int.emod_nonneg root (show num ps ≠ 0 by omega)
    obtain ⟨b, hb⟩ : ∃ b, b = root % num ps := ⟨_, rfl⟩
    rw [← hb] at hwB hb0
    have hA1 : 1 ≤ rich.toNat := by omega
    have hA1' : 1 ≤ rich := by omega
    have hb1 : num ps * (2 * rich) ≤ 50000 := by
      have h1 := Int.mul_le_mul_of_nonneg_right hn200 (show 0 ≤ 2 * rich by omega)
      omega
    obtain ⟨m, hL, hm8⟩ := least_some (b := b) (A := rich.toNat) (n := 8) hn (by
      have h1 : 2 ^ 8 ≤ rich.toNat ^ 8 := Nat.pow_le_pow_left (by omega) 8
      have h2 : (2 : Nat) ^ 8 = 256 := by decide
      omega)
    have hm1 := hL.pos
    have hCl : Clash b (num ps) rich.toNat y.low m := Clash.of_Sms hA1 hL.hit
    have hCl1 := hCl.succ hA1
    have hap : Hap P w [b] (num ps) := hap_one (by omega)
    have hflat := fun n h => flat_iff (b := b) (A := rich) (s := y.shift) (d := ld y) (n := n) ha (by omega) hb0 hA1' h
    walk_at "go"
    refine ⟨wy, rich, _, ps, y, rfl, hwB, by omega, by omega, by omega, (fun e => by omega), fun _ => ⟨by omega, m, hL, fun H1 s1 => ?_⟩⟩
    have hw1 := hwB.same s1
    walk_at "go"
    refine for_range (lo := 0) (n := m) (fun i σ H' => ∃ (v6 : Option V), σ = [some (.ref a), some (.ref lp), some (.int (num ps)), some (.int rich), some (.int root), some (.ref wy), some (.int (m : Int)), v6, none, none, none, none, none, none] ∧ Same HB H') ⟨none, rfl, s1⟩ ?_ ?_
    · rintro i σ H2 hi ⟨v6, rfl, s2⟩
      have hw2 := hwB.same s2
      rw [show (0 : Int) + (i : Int) = ((i : Nat) : Int) by omega]
      walk_at "go"
      refine ⟨wy, rich, (i : Int), _, ps, y, rfl, hw2, by omega, by omega, by omega, by omega, by omega, fun H3 l3 n3 s3 h3 => ?_⟩
      walk_at "go"
      rw [Int.toNat_natCast] at h3
      refine ⟨l3, _, rfl, h3, fun r hr1 hr2 => ?_⟩
      have hr : r ≤ 1 := by
        rcases hr2 with e | e
        · omega
        · exact cnt_low hn (hL.no_clash (lw := y.low) hi) r e
      walk_at "go"
      refine ite_d (fun e => absurd e (by omega)) (fun _ => ?_)
      walk_at "go"
      exact ⟨_, rfl, s2.trans s3⟩
    · rintro σ H2 ⟨v6, rfl, s2⟩
      walk_at "go"
      rw [show ((m : Int) + 2 - (m : Int)).toNat = 2 by omega]
      refine for_range (lo := (m : Int)) (n := 2) (fun i σ H' => ∃ (v7 : Option V), σ = [some (.ref a), some (.ref lp), some (.int (num ps)), some (.int rich), some (.int root), some (.ref wy), some (.int (m : Int)), v6, v7, none, none, none, none, none] ∧ Same HB H') ⟨none, rfl, s2⟩ ?_ ?_
      · rintro i σ H3 hi ⟨v7, rfl, s3⟩
        have hw3 := hwB.same s3
        rw [show (m : Int) + (i : Int) = ((m + i : Nat) : Int) by omega]
        walk_at "go"
        refine ⟨wy, rich, ((m + i : Nat) : Int), _, ps, y, rfl, hw3, by omega, by omega, by omega, by omega, by omega, fun H4 l4 n4 s4 h4 => ?_⟩
        walk_at "go"
        rw [Int.toNat_natCast] at h4
        have hCi : Clash b (num ps) rich.toNat y.low (m + i) := by
          have : i = 0 ∨ i = 1 := by omega
          rcases this with rfl | rfl
          · exact hCl
          · exact hCl1
        obtain ⟨x2, hx2, hx2b⟩ := cnt_high hn hCi
        refine ⟨l4, _, rfl, h4, fun r hr1 hr2 => ?_⟩
        have hr := hr1 x2 hx2
        walk_at "go"
        refine ite_d (fun e => absurd e (by omega)) (fun _ => ?_)
        walk_at "go"
        exact ⟨_, rfl, s3.trans s4⟩
      · rintro σ H3 ⟨v7, rfl, s3⟩
        have hw3 := hwB.same s3
        walk_at "go"
        refine ⟨wy, rich, _, ps, y, rfl, hw3, by omega, by omega, by omega, (fun e => by omega), fun _ => ⟨hb1, hap, m, hL, by omega, fun H4 pp q1 q2 t u s4 ht hu hpp hq1 hq2 => ?_⟩⟩
        have hw4 := hw3.same s4
        have tl : t.length = m := by rw [ht.len, wsL_len]
        have ul : u.length = m := by rw [hu.len, tl]
        have mu : mark y b (num ps) u = mark y b (num ps) t := (mark_hvD (by omega)).mpr ((Agr_hvD ul tl).mp hu.agr)
        obtain ⟨r, htxm⟩ := pair_txm (y := y) ht hu
        have hmr := mark_range (y := y) (b := b) hn t
        have hlen := txm_len (A := rich.toNat) (n := m) (y := y) (b := b) hmr
        have hR0 := txm_num (i := 0) (u := t) (A := rich.toNat) (n := m) (y := y) (b := b) hmr (by rw [htxm]; rfl)
        have hR1 := txm_num (i := 1) (u := u) (A := rich.toNat) (n := m) (y := y) (b := b) hmr (by rw [htxm]; rfl)
        walk_at "go"
        refine w_insW hw4 ?_
        refine use_mark (ls := t) hw4 (.tup q1 t hq1 (by omega)) fun H5 s5 => ?_
        walk_at "go"
        refine ⟨wy, .ref q1, rich, b, t, ps, y, rfl, hw4.same s5, by omega, by omega, by omega, .tup q1 t (s5 _ _ hq1) (by omega), by omega, (fun z hz => by have := ht.ltr z hz; omega), fun H6 s6 => ?_⟩
        rw [hR0]
        walk_at "go"
        have S56 := s5.trans s6
        refine ⟨wy, .ref q2, rich, b, u, ps, y, rfl, hw4.same S56, by omega, by omega, by omega, .tup q2 u (S56 _ _ hq2) (by omega), by omega, (fun z hz => by have := hu.ltr z hz; omega), fun H7 s7 => ?_⟩
        rw [hR1]
        walk_at "go"
        refine al fun lo H8 n8 s8 h8 => ?_
        walk_at "go"
        have S48 := S56.trans (s7.trans s8)
        have hw8 := hw4.same S48
        refine w_insW hw8 ?_
        refine use_mark (ls := u) hw8 (.tup q2 u (S48 _ _ hq2) (by omega)) fun H9 s9 => ?_
        rw [mu]
        walk_at "go"
        refine ite_nd (fun e => absurd rfl e) (fun _ => ?_)
        walk_at "go"
        refine al fun lo2 H10 n10 s10 h10 => ?_
        walk_at "go"
        have S410 := S48.trans (s9.trans s10)
        have hw10 := hw4.same S410
        refine w_neLL (ls := [0, 1]) (ms := [0, 1]) (sq (s10 _ _ (s9 _ _ h8))) (sq h10) ?_
        rw [decide_eq_true (Eq.refl _)]
        walk_at "go"
        refine iteF ?_
        walk_at "go"
        refine ⟨wy, rich, _, b, m, ps, y, rfl, hw10, by omega, by omega, by omega, by omega, hmr.1, hmr.2, fun H11 s11 => ?_⟩
        have hcnt : 2 ≤ (cnt (num ps) b y.shift (ld y) rich.toNat m).getD (mark y b (num ps) t).toNat 0 := by
          rw [← hlen, htxm]
          simp
          omega
        walk_at "go"
        refine ite_d (fun e => absurd e (by omega)) (fun _ => ?_)
        have S411 := S410.trans s11
        have hw11 := hw4.same S411
        walk_at "go"
        refine ⟨wy, rich, _, 1, b, m, ps, y, rfl, hw11, by omega, by omega, by omega, by omega, hmr.1, hmr.2, by decide, by omega, fun H12 p12 ts n12 s12 h12 hnt => ?_⟩
        have ets : ts = u := txm_nth hmr (k := 1) (by rw [htxm]; rfl) (by decide) hnt
        have S412 := S411.trans s12
        have hw12 := hw4.same S412
        walk_at "go"
        refine w_neTTe (sqt h12) (sqt (S412 _ _ hq2)) ets ?_
        walk_at "go"
        refine iteF ?_
        walk_at "go"
        refine ⟨wy, rich, _, ps, y, rfl, hw12, by omega, fun H13 s13 => ?_⟩
        have S413 := S412.trans s13
        have hw13 := hw4.same S413
        have SH13 : Same HB H13 := s3.trans (s4.trans S413)
        obtain ⟨EV, hEV⟩ : ∃ EV, EV = evenF (ps.map (metR b rich)) := ⟨_, rfl⟩
        rw [← hEV] at hflat ⊢
        cases EV with
        | none =>
          walk_at "go"
          refine iteT ?_
          walk_at "go"
          exact k _ (Keep.ofR (SB.trans SH13.rm)) ((UB.same SH13).le (by omega))
        | some e =>
          have he : e ≤ 10 := even_le ha (fun q hq => exp_le ha (m := 10) (by omega) hq) hEV.symm
          rw [show optV (some e) = V.int (e : Int) from rfl]
          walk_at "go"
          refine iteF ?_
          walk_at "go"
          obtain ⟨L, hLe, heL, hL10⟩ : ∃ L : Nat, (if (m : Int) > (e : Int) then (m : Int) else (e : Int)) = (L : Int) ∧ e ≤ L ∧ L ≤ 10 := by
            split
            · exact ⟨m, rfl, by omega, by omega⟩
            · exact ⟨e, rfl, Nat.le_refl _, he⟩
          rw [hLe]
          refine ⟨wy, rich, (L : Int), _, ps, y, rfl, hw13, by omega, by omega, by omega, by omega, by omega, fun H14 l14 n14 s14 h14 => ?_⟩
          rw [Int.toNat_natCast] at h14
          have hfl := (hflat L (by omega)).mpr ⟨e, rfl, heL⟩
          have hcl := cnt_len (num ps) b y.shift (ld y) rich.toNat L
          refine ⟨l14, _, rfl, sq h14, by rw [hcl]; omega, fun z => by rw [z] at hcl; simp at hcl; omega, fun n hn1 => ?_⟩
          rw [hn1.mpr hfl]
          walk_at "go"
          have SH14 := SH13.trans s14
          exact k _ (Keep.ofR (SB.trans SH14.rm)) ((UB.same SH14).le (by omega))
noncomputable abbrev s_law : Stmt := (top 74)
theorem sc_law : FnScope ["_law_script", "_law_at", "_law_purse_here", "_law_turn"] ["_law_script"] (defScope s_law) :=
  ⟨rfl, rfl, rfl, by decide +kernel, rfl, by decide +kernel, by decide +kernel⟩
theorem ok_law {f : Addr} {fd : FuncData} (F : L2.Fun K "law" "law" s_law f fd) (T : Bt mg) (c_purse : Cal P w K mg base 1 "_law_purse" (spPurse K) []) (c_right : Cal P w K mg base 7 "_law_right" spRight []) :
    FnOk P w K mg base L2.CX0 8 f fd ["_law_script"] (spLaw K) := by
  refine F.ok sc_law (fun vs H Q E h => ?_) (fun cdv A outer s H vs Q E hr h => ?_)
  · obtain ⟨a, ns, rfl, _⟩ := h
    rfl
  · obtain ⟨a, ns, rfl, hS, hl, k⟩ := h
    refine ⟨_, (pss_cons (ps_for PassesOwn.never rfl (pi_range1 (by rfl) T.range (pa_cons (pe_op op_add pe_int (pe_callB (cMin2 rfl) (by rfl) T.min (by decide +kernel) (pa_cons pe_int (pa_cons (pe_callB cLen (by rfl) T.len (by decide +kernel) (pa_cons (pv 0) pa_nil)) pa_nil)))) pa_nil)) (pg_name (i := 1) sc_law.nd rfl (Or.inl rfl)) (pss_cons (ps_set (i := 2) sc_law.nd rfl (Or.inl rfl) (pe_c c_purse hr (by decide) (by rfl) (pa_cons (pv 0) (pa_cons (pv 1) pa_nil))))
      (pss_one (ps_for PassesOwn.never rfl (pi_range1 (by rfl) T.range (pa_cons pe_int pa_nil)) (pg_name (i := 3) sc_law.nd rfl (Or.inl rfl)) (pss_one (ps_if (pt_not (pt_val (pe_c c_right hr (by decide) (by rfl) (pa_cons (pv 2) pa_nil)))) (pss_one (ps_ret pe_bl)) pss_nil))))))
      (pss_one (ps_ret pe_bl))), ?_⟩
    walk_at "go"
    refine for_range (lo := 0) (fun i σ H' => ∃ (u1 u2 u3 : Option V), σ = [some (.ref a), u1, u2, u3] ∧ Same H H') ⟨none, none, none, rfl, Same.refl _⟩ ?_ ?_
    · rintro i σ H1 hi ⟨u1, u2, u3, rfl, s1⟩
      have hi8 : i ≤ 8 := by split at hi <;> omega
      walk_at "go"
      refine ⟨a, ns, _, rfl, s1.seq hS, by omega, by omega, fun p H2 np s2 pu => ?_⟩
      obtain ⟨c0, hc0, pu⟩ : ∃ c0 : Int, c0 < 2 ^ 45 ∧ Purse H2 p c0 := ⟨_, by omega, pu⟩
      walk_at "go"
      refine for_range (lo := 0) (n := 2) (fun j σ H' => ∃ (u4 : Option V), σ = [some (.ref a), some (.int (0 + (i : Int))), some (.ref p), u4] ∧ (∀ b o, b ≠ p → H2 b = some o → H' b = some o) ∧ Purse H' p (c0 + 10000 * j)) ⟨_, rfl, fun b o _ h => h, pu.le (by omega)⟩ ?_ ?_
      · rintro j σ H3 hj ⟨u4, rfl, k3, p3⟩
        walk_at "go"
        refine ⟨p, _, rfl, by omega, p3, fun H4 k4 p4 => ?_⟩
        walk_at "go"
        refine iteF ?_
        walk_at "go"
        exact ⟨_, rfl, fun b o hb h => k4 b o hb (k3 b o hb h), p4.le (by omega)⟩
      · rintro σ H3 ⟨u4, rfl, k3, p3⟩
        walk_at "go"
        exact ⟨_, _, _, rfl, s1.trans fun b o hb => k3 b o (fun e => by rw [e, np] at hb; cases hb) (s2 _ _ hb)⟩
    · rintro σ H1 ⟨u1, u2, u3, rfl, s1⟩
      walk_at "go"
      exact k _
end
end Lw
namespace Lw
open PySem PySem.Spec PyProof.Rows L2 Bc
theorem all_mk {l : PySem.W.OpenLaw} {w : World} {K : PySem.W.Frag} {h : Heap} {mg : Str → Option Value} {fa Cm Ck Cw f1 f2 f3 f4 f5 f6 f7 f8 f9 f10 f11 f12 f13 f14 f15 f16 f17 f18 f19 f20 f21 f22 f23 f24 f25 f26 f27 f28 f29 f30 f31 D31 f32 f33 T33 f34 f35 Cs f36 f37 f38 f39 f40 f41 f42 f43 f44 f45 Cq f46 f47 f48 f49 f50 f51 f52 f53 f54 f55 f56 f57 f58 f59 f60 f61 f62 f63 f64 : Addr} (X : K.In h) (G : h.Ns mainGlobals mg) (hfa : mg "law" = some (.ref fa))
    {od1 an1 : Option Addr} {sl1 : Array (Option Value)} {oc1 dc1 pm1 cd1 ct1 : Value}
    {kV1 : Value}
    {od2 an2 : Option Addr} {sl2 : Array (Option Value)} {oc2 dc2 pm2 cd2 ct2 : Value}
    {kV2 : Value}
    {od3 an3 : Option Addr} {sl3 : Array (Option Value)} {oc3 dc3 pm3 cd3 ct3 : Value}
    {kV3 : Value}
    {od4 an4 : Option Addr} {sl4 : Array (Option Value)} {oc4 dc4 pm4 cd4 ct4 : Value}
    {kV4 : Value}
    {od5 an5 : Option Addr} {sl5 : Array (Option Value)} {oc5 dc5 pm5 cd5 ct5 : Value}
    {kV5 : Value}
    {od6 an6 : Option Addr} {sl6 : Array (Option Value)} {oc6 dc6 pm6 cd6 ct6 : Value}
    {kV6 : Value}
    {od7 an7 : Option Addr} {sl7 : Array (Option Value)} {oc7 dc7 pm7 cd7 ct7 : Value}
    {kV7 : Value}
    {od8 an8 : Option Addr} {sl8 : Array (Option Value)} {oc8 dc8 pm8 cd8 ct8 : Value}
    {kV8 : Value}
    {od9 an9 : Option Addr} {sl9 : Array (Option Value)} {oc9 dc9 pm9 cd9 ct9 : Value}
    {kV9 : Value}
    {od10 an10 : Option Addr} {sl10 : Array (Option Value)} {oc10 dc10 pm10 cd10 ct10 : Value}
    {kV10 : Value}
    {od11 an11 : Option Addr} {sl11 : Array (Option Value)} {oc11 dc11 pm11 cd11 ct11 : Value}
    {kV11 : Value}
    {od12 an12 : Option Addr} {sl12 : Array (Option Value)} {oc12 dc12 pm12 cd12 ct12 : Value}
    {kV12 : Value}
    {od13 an13 : Option Addr} {sl13 : Array (Option Value)} {oc13 dc13 pm13 cd13 ct13 : Value}
    {kV13 : Value}
    {od14 an14 : Option Addr} {sl14 : Array (Option Value)} {oc14 dc14 pm14 cd14 ct14 : Value}
    {kV14 : Value}
    {od15 an15 : Option Addr} {sl15 : Array (Option Value)} {oc15 dc15 pm15 cd15 ct15 : Value}
    {kV15 : Value}
    {od16 an16 : Option Addr} {sl16 : Array (Option Value)} {oc16 dc16 pm16 cd16 ct16 : Value}
    {kV16 : Value}
    {od17 an17 : Option Addr} {sl17 : Array (Option Value)} {oc17 dc17 pm17 cd17 ct17 : Value}
    {kV17 : Value}
    {od18 an18 : Option Addr} {sl18 : Array (Option Value)} {oc18 dc18 pm18 cd18 ct18 : Value}
    {kV18 : Value}
    {od19 an19 : Option Addr} {sl19 : Array (Option Value)} {oc19 dc19 pm19 cd19 ct19 : Value}
    {kV19 : Value}
    {od20 an20 : Option Addr} {sl20 : Array (Option Value)} {oc20 dc20 pm20 cd20 ct20 : Value}
    {kV20 : Value}
    {od21 an21 : Option Addr} {sl21 : Array (Option Value)} {oc21 dc21 pm21 cd21 ct21 : Value}
    {kV21 : Value}
    {od22 an22 : Option Addr} {sl22 : Array (Option Value)} {oc22 dc22 pm22 cd22 ct22 : Value}
    {kV22 : Value}
    {od23 an23 : Option Addr} {sl23 : Array (Option Value)} {oc23 dc23 pm23 cd23 ct23 : Value}
    {kV23 : Value}
    {od24 an24 : Option Addr} {sl24 : Array (Option Value)} {oc24 dc24 pm24 cd24 ct24 : Value}
    {kV24 : Value}
    {od25 an25 : Option Addr} {sl25 : Array (Option Value)} {oc25 dc25 pm25 cd25 ct25 : Value}
    {kV25 : Value}
    {od26 an26 : Option Addr} {sl26 : Array (Option Value)} {oc26 dc26 pm26 cd26 ct26 : Value}
    {kV26 : Value}
    {od27 an27 : Option Addr} {sl27 : Array (Option Value)} {oc27 dc27 pm27 cd27 ct27 : Value}
    {kV27 : Value}
    {od28 an28 : Option Addr} {sl28 : Array (Option Value)} {oc28 dc28 pm28 cd28 ct28 : Value}
    {kV28 : Value}
    {od29 an29 : Option Addr} {sl29 : Array (Option Value)} {oc29 dc29 pm29 cd29 ct29 : Value}
    {kV29 : Value}
    {od30 an30 : Option Addr} {sl30 : Array (Option Value)} {oc30 dc30 pm30 cd30 ct30 : Value}
    {kV30 : Value}
    {od31 an31 : Option Addr} {sl31 : Array (Option Value)} {oc31 dc31 pm31 cd31 ct31 : Value}
    {tk31_1 : Tok}
    {od32 an32 : Option Addr} {sl32 : Array (Option Value)} {oc32 dc32 pm32 cd32 ct32 : Value}
    {kV32 : Value}
    {od33 an33 : Option Addr} {sl33 : Array (Option Value)} {oc33 dc33 pm33 cd33 ct33 : Value}
    {kV33 : Value}
    {To33 : Value} {Td33 : Option Addr} {Tn33 : Nat} {Ts33 : Array (Option Value)}
    {od34 an34 : Option Addr} {sl34 : Array (Option Value)} {oc34 dc34 pm34 cd34 ct34 : Value}
    {kV34 : Value}
    {od35 an35 : Option Addr} {sl35 : Array (Option Value)} {oc35 dc35 pm35 cd35 ct35 : Value}
    {kV35 : Value}
    {od36 an36 : Option Addr} {sl36 : Array (Option Value)} {oc36 dc36 pm36 cd36 ct36 : Value}
    {kV36 : Value}
    {od37 an37 : Option Addr} {sl37 : Array (Option Value)} {oc37 dc37 pm37 cd37 ct37 : Value}
    {kV37 : Value}
    {od38 an38 : Option Addr} {sl38 : Array (Option Value)} {oc38 dc38 pm38 cd38 ct38 : Value}
    {kV38 : Value}
    {od39 an39 : Option Addr} {sl39 : Array (Option Value)} {oc39 dc39 pm39 cd39 ct39 : Value}
    {kV39 : Value}
    {od40 an40 : Option Addr} {sl40 : Array (Option Value)} {oc40 dc40 pm40 cd40 ct40 : Value}
    {kV40 : Value}
    {od41 an41 : Option Addr} {sl41 : Array (Option Value)} {oc41 dc41 pm41 cd41 ct41 : Value}
    {kV41 : Value}
    {od42 an42 : Option Addr} {sl42 : Array (Option Value)} {oc42 dc42 pm42 cd42 ct42 : Value}
    {kV42 : Value}
    {od43 an43 : Option Addr} {sl43 : Array (Option Value)} {oc43 dc43 pm43 cd43 ct43 : Value}
    {kV43 : Value}
    {od44 an44 : Option Addr} {sl44 : Array (Option Value)} {oc44 dc44 pm44 cd44 ct44 : Value}
    {kV44 : Value}
    {od45 an45 : Option Addr} {sl45 : Array (Option Value)} {oc45 dc45 pm45 cd45 ct45 : Value}
    {kV45 : Value}
    {od46 an46 : Option Addr} {sl46 : Array (Option Value)} {oc46 dc46 pm46 cd46 ct46 : Value}
    {kV46 : Value}
    {od47 an47 : Option Addr} {sl47 : Array (Option Value)} {oc47 dc47 pm47 cd47 ct47 : Value}
    {kV47 : Value}
    {od48 an48 : Option Addr} {sl48 : Array (Option Value)} {oc48 dc48 pm48 cd48 ct48 : Value}
    {kV48 : Value}
    {od49 an49 : Option Addr} {sl49 : Array (Option Value)} {oc49 dc49 pm49 cd49 ct49 : Value}
    {kV49 : Value}
    {od50 an50 : Option Addr} {sl50 : Array (Option Value)} {oc50 dc50 pm50 cd50 ct50 : Value}
    {kV50 : Value}
    {od51 an51 : Option Addr} {sl51 : Array (Option Value)} {oc51 dc51 pm51 cd51 ct51 : Value}
    {kV51 : Value}
    {od52 an52 : Option Addr} {sl52 : Array (Option Value)} {oc52 dc52 pm52 cd52 ct52 : Value}
    {kV52 : Value}
    {od53 an53 : Option Addr} {sl53 : Array (Option Value)} {oc53 dc53 pm53 cd53 ct53 : Value}
    {kV53 : Value}
    {od54 an54 : Option Addr} {sl54 : Array (Option Value)} {oc54 dc54 pm54 cd54 ct54 : Value}
    {kV54 : Value}
    {od55 an55 : Option Addr} {sl55 : Array (Option Value)} {oc55 dc55 pm55 cd55 ct55 : Value}
    {kV55 : Value}
    {od56 an56 : Option Addr} {sl56 : Array (Option Value)} {oc56 dc56 pm56 cd56 ct56 : Value}
    {kV56 : Value}
    {od57 an57 : Option Addr} {sl57 : Array (Option Value)} {oc57 dc57 pm57 cd57 ct57 : Value}
    {kV57 : Value}
    {od58 an58 : Option Addr} {sl58 : Array (Option Value)} {oc58 dc58 pm58 cd58 ct58 : Value}
    {kV58 : Value}
    {od59 an59 : Option Addr} {sl59 : Array (Option Value)} {oc59 dc59 pm59 cd59 ct59 : Value}
    {kV59 : Value}
    {od60 an60 : Option Addr} {sl60 : Array (Option Value)} {oc60 dc60 pm60 cd60 ct60 : Value}
    {kV60 : Value}
    {od61 an61 : Option Addr} {sl61 : Array (Option Value)} {oc61 dc61 pm61 cd61 ct61 : Value}
    {kV61 : Value}
    {od62 an62 : Option Addr} {sl62 : Array (Option Value)} {oc62 dc62 pm62 cd62 ct62 : Value}
    {kV62 : Value}
    {od63 an63 : Option Addr} {sl63 : Array (Option Value)} {oc63 dc63 pm63 cd63 ct63 : Value}
    {kV63 : Value}
    {od64 an64 : Option Addr} {sl64 : Array (Option Value)} {oc64 dc64 pm64 cd64 ct64 : Value}
    {kV64 : Value}
    (z_len : PySem.W.nsIn K mainGlobals "len" = some none)
    (z_int : PySem.W.nsIn K mainGlobals "int" = some none)
    (z_abs : PySem.W.nsIn K mainGlobals "abs" = some none)
    (z_max : PySem.W.nsIn K mainGlobals "max" = some none)
    (z_min : PySem.W.nsIn K mainGlobals "min" = some none)
    (z_range : PySem.W.nsIn K mainGlobals "range" = some none)
    (z_isinstance : PySem.W.nsIn K mainGlobals "isinstance" = some none)
    (z_list : PySem.W.nsIn K mainGlobals "list" = some none)
    (z_tuple : PySem.W.nsIn K mainGlobals "tuple" = some none)
    (z_str : PySem.W.nsIn K mainGlobals "str" = some none)
    (z_bool : PySem.W.nsIn K mainGlobals "bool" = some none)
    (z_ord : PySem.W.nsIn K mainGlobals "ord" = some none)
    (z_all : PySem.W.nsIn K mainGlobals "all" = some none)
    (z_enumerate : PySem.W.nsIn K mainGlobals "enumerate" = some none)
    (z_zip : PySem.W.nsIn K mainGlobals "zip" = some none)
    (mCm : PySem.W.nsIn K mainGlobals "Modulus" = some (some (.ref Cm)))
    (pgCm : PySem.W.plainGet K Cm Str.empty = true)
    (hdCm : PySem.W.hasDictIn K Cm = true)
    (poCm : PySem.W.plainOver K Cm = true)
    (saCm : PySem.W.findIn K (.ref Cm) "__setattr__" = some (some (.builtin "object.__setattr__")))
    (haCm : PySem.W.findIn K (.ref Cm) "__class__" = some (some (.builtin "object.__class__")))
    (hmCm : PySem.W.mroIn K Cm (.type "object") = some true)
    (mkCm : PySem.W.makesIn K Cm = true)
    (kcCm : PySem.W.keepIn K (.ref Cm) = true)
    (objhn : PySem.W.specialIn K (.builtin "object.__class__") "__get__" = some (some (.builtin "getset_descriptor.__get__")))
    (objht : PySem.W.takesIn K (.builtin "object.__class__") = some true)
    (mCk : PySem.W.nsIn K mainGlobals "Marking" = some (some (.ref Ck)))
    (pgCk : PySem.W.plainGet K Ck Str.empty = true)
    (hdCk : PySem.W.hasDictIn K Ck = true)
    (poCk : PySem.W.plainOver K Ck = true)
    (saCk : PySem.W.findIn K (.ref Ck) "__setattr__" = some (some (.builtin "object.__setattr__")))
    (haCk : PySem.W.findIn K (.ref Ck) "__class__" = some (some (.builtin "object.__class__")))
    (hmCk : PySem.W.mroIn K Ck (.type "object") = some true)
    (mkCk : PySem.W.makesIn K Ck = true)
    (kcCk : PySem.W.keepIn K (.ref Ck) = true)
    (mCw : PySem.W.nsIn K mainGlobals "Way" = some (some (.ref Cw)))
    (pgCw : PySem.W.plainGet K Cw Str.empty = true)
    (hdCw : PySem.W.hasDictIn K Cw = true)
    (poCw : PySem.W.plainOver K Cw = true)
    (saCw : PySem.W.findIn K (.ref Cw) "__setattr__" = some (some (.builtin "object.__setattr__")))
    (haCw : PySem.W.findIn K (.ref Cw) "__class__" = some (some (.builtin "object.__class__")))
    (hmCw : PySem.W.mroIn K Cw (.type "object") = some true)
    (mkCw : PySem.W.makesIn K Cw = true)
    (kcCw : PySem.W.keepIn K (.ref Cw) = true)
    (nCm_number : PySem.W.findIn K (.ref Cm) "number" = some none)
    (nCm_factors : PySem.W.findIn K (.ref Cm) "factors" = some none)
    (nCk_low : PySem.W.findIn K (.ref Ck) "low" = some none)
    (nCk_shift : PySem.W.findIn K (.ref Ck) "shift" = some none)
    (nCk_lead : PySem.W.findIn K (.ref Ck) "lead" = some none)
    (nCw_marking : PySem.W.findIn K (.ref Cw) "marking" = some none)
    (nCw_modulus : PySem.W.findIn K (.ref Cw) "modulus" = some none)
    (nCw_number : PySem.W.findIn K (.ref Cw) "number" = some none)
    (nCw_base : PySem.W.findIn K (.ref Cw) "base" = some none)
    (a1 : PySem.W.nsIn K mainGlobals "is_integer" = some (some (.ref f1)))
    (l1 : K.lookup f1 = some ⟨oc1, od1, .func (PySem.W.fnOf "is_integer" "is_integer" (defArgs s_isint) (defBody s_isint) (defScope s_isint) .none kV1 dc1 pm1 an1 cd1 ct1), sl1⟩)
    (c1 : PySem.W.codeIn K cd1 "is_integer" = true)
    (k1 : PySem.W.keepIn K (.ref f1) = true)
    (a2 : PySem.W.nsIn K mainGlobals "raised" = some (some (.ref f2)))
    (l2 : K.lookup f2 = some ⟨oc2, od2, .func (PySem.W.fnOf "raised" "raised" (defArgs s_raised) (defBody s_raised) (defScope s_raised) .none kV2 dc2 pm2 an2 cd2 ct2), sl2⟩)
    (c2 : PySem.W.codeIn K cd2 "raised" = true)
    (k2 : PySem.W.keepIn K (.ref f2) = true)
    (a3 : PySem.W.nsIn K mainGlobals "is_prime_number" = some (some (.ref f3)))
    (l3 : K.lookup f3 = some ⟨oc3, od3, .func (PySem.W.fnOf "is_prime_number" "is_prime_number" (defArgs s_prime) (defBody s_prime) (defScope s_prime) .none kV3 dc3 pm3 an3 cd3 ct3), sl3⟩)
    (c3 : PySem.W.codeIn K cd3 "is_prime_number" = true)
    (k3 : PySem.W.keepIn K (.ref f3) = true)
    (a4 : PySem.W.nsIn K mainGlobals "is_factor" = some (some (.ref f4)))
    (l4 : K.lookup f4 = some ⟨oc4, od4, .func (PySem.W.fnOf "is_factor" "is_factor" (defArgs s_isfac) (defBody s_isfac) (defScope s_isfac) .none kV4 dc4 pm4 an4 cd4 ct4), sl4⟩)
    (c4 : PySem.W.codeIn K cd4 "is_factor" = true)
    (k4 : PySem.W.keepIn K (.ref f4) = true)
    (a5 : PySem.W.nsIn K mainGlobals "require_modulus" = some (some (.ref f5)))
    (l5 : K.lookup f5 = some ⟨oc5, od5, .func (PySem.W.fnOf "require_modulus" "require_modulus" (defArgs s_reqmod) (defBody s_reqmod) (defScope s_reqmod) .none kV5 dc5 pm5 an5 cd5 ct5), sl5⟩)
    (c5 : PySem.W.codeIn K cd5 "require_modulus" = true)
    (k5 : PySem.W.keepIn K (.ref f5) = true)
    (a6 : PySem.W.nsIn K mainGlobals "is_text" = some (some (.ref f6)))
    (l6 : K.lookup f6 = some ⟨oc6, od6, .func (PySem.W.fnOf "is_text" "is_text" (defArgs s_istext) (defBody s_istext) (defScope s_istext) .none kV6 dc6 pm6 an6 cd6 ct6), sl6⟩)
    (c6 : PySem.W.codeIn K cd6 "is_text" = true)
    (k6 : PySem.W.keepIn K (.ref f6) = true)
    (a7 : PySem.W.nsIn K mainGlobals "read" = some (some (.ref f7)))
    (l7 : K.lookup f7 = some ⟨oc7, od7, .func (PySem.W.fnOf "read" "read" (defArgs s_read) (defBody s_read) (defScope s_read) .none kV7 dc7 pm7 an7 cd7 ct7), sl7⟩)
    (c7 : PySem.W.codeIn K cd7 "read" = true)
    (k7 : PySem.W.keepIn K (.ref f7) = true)
    (a8 : PySem.W.nsIn K mainGlobals "require_text" = some (some (.ref f8)))
    (l8 : K.lookup f8 = some ⟨oc8, od8, .func (PySem.W.fnOf "require_text" "require_text" (defArgs s_reqtext) (defBody s_reqtext) (defScope s_reqtext) .none kV8 dc8 pm8 an8 cd8 ct8), sl8⟩)
    (c8 : PySem.W.codeIn K cd8 "require_text" = true)
    (k8 : PySem.W.keepIn K (.ref f8) = true)
    (a9 : PySem.W.nsIn K mainGlobals "marking_of" = some (some (.ref f9)))
    (l9 : K.lookup f9 = some ⟨oc9, od9, .func (PySem.W.fnOf "marking_of" "marking_of" (defArgs s_mkof) (defBody s_mkof) (defScope s_mkof) .none kV9 dc9 pm9 an9 cd9 ct9), sl9⟩)
    (c9 : PySem.W.codeIn K cd9 "marking_of" = true)
    (k9 : PySem.W.keepIn K (.ref f9) = true)
    (a10 : PySem.W.nsIn K mainGlobals "rest_at" = some (some (.ref f10)))
    (l10 : K.lookup f10 = some ⟨oc10, od10, .func (PySem.W.fnOf "rest_at" "rest_at" (defArgs s_restat) (defBody s_restat) (defScope s_restat) .none kV10 dc10 pm10 an10 cd10 ct10), sl10⟩)
    (c10 : PySem.W.codeIn K cd10 "rest_at" = true)
    (k10 : PySem.W.keepIn K (.ref f10) = true)
    (a11 : PySem.W.nsIn K mainGlobals "_law_mixed" = some (some (.ref f11)))
    (l11 : K.lookup f11 = some ⟨oc11, od11, .func (PySem.W.fnOf "_law_mixed" "_law_mixed" (defArgs s_mixed) (defBody s_mixed) (defScope s_mixed) .none kV11 dc11 pm11 an11 cd11 ct11), sl11⟩)
    (c11 : PySem.W.codeIn K cd11 "_law_mixed" = true)
    (k11 : PySem.W.keepIn K (.ref f11) = true)
    (a12 : PySem.W.nsIn K mainGlobals "_law_purse" = some (some (.ref f12)))
    (l12 : K.lookup f12 = some ⟨oc12, od12, .func (PySem.W.fnOf "_law_purse" "_law_purse" (defArgs s_purse) (defBody s_purse) (defScope s_purse) .none kV12 dc12 pm12 an12 cd12 ct12), sl12⟩)
    (c12 : PySem.W.codeIn K cd12 "_law_purse" = true)
    (k12 : PySem.W.keepIn K (.ref f12) = true)
    (a13 : PySem.W.nsIn K mainGlobals "_law_draw" = some (some (.ref f13)))
    (l13 : K.lookup f13 = some ⟨oc13, od13, .func (PySem.W.fnOf "_law_draw" "_law_draw" (defArgs s_draw) (defBody s_draw) (defScope s_draw) .none kV13 dc13 pm13 an13 cd13 ct13), sl13⟩)
    (c13 : PySem.W.codeIn K cd13 "_law_draw" = true)
    (k13 : PySem.W.keepIn K (.ref f13) = true)
    (a14 : PySem.W.nsIn K mainGlobals "_law_great" = some (some (.ref f14)))
    (l14 : K.lookup f14 = some ⟨oc14, od14, .func (PySem.W.fnOf "_law_great" "_law_great" (defArgs s_great) (defBody s_great) (defScope s_great) .none kV14 dc14 pm14 an14 cd14 ct14), sl14⟩)
    (c14 : PySem.W.codeIn K cd14 "_law_great" = true)
    (k14 : PySem.W.keepIn K (.ref f14) = true)
    (a15 : PySem.W.nsIn K mainGlobals "_law_style" = some (some (.ref f15)))
    (l15 : K.lookup f15 = some ⟨oc15, od15, .func (PySem.W.fnOf "_law_style" "_law_style" (defArgs s_style) (defBody s_style) (defScope s_style) .none kV15 dc15 pm15 an15 cd15 ct15), sl15⟩)
    (c15 : PySem.W.codeIn K cd15 "_law_style" = true)
    (k15 : PySem.W.keepIn K (.ref f15) = true)
    (a16 : PySem.W.nsIn K mainGlobals "_law_marking" = some (some (.ref f16)))
    (l16 : K.lookup f16 = some ⟨oc16, od16, .func (PySem.W.fnOf "_law_marking" "_law_marking" (defArgs s_marking) (defBody s_marking) (defScope s_marking) .none kV16 dc16 pm16 an16 cd16 ct16), sl16⟩)
    (c16 : PySem.W.codeIn K cd16 "_law_marking" = true)
    (k16 : PySem.W.keepIn K (.ref f16) = true)
    (a17 : PySem.W.nsIn K mainGlobals "_law_root" = some (some (.ref f17)))
    (l17 : K.lookup f17 = some ⟨oc17, od17, .func (PySem.W.fnOf "_law_root" "_law_root" (defArgs s_root) (defBody s_root) (defScope s_root) .none kV17 dc17 pm17 an17 cd17 ct17), sl17⟩)
    (c17 : PySem.W.codeIn K cd17 "_law_root" = true)
    (k17 : PySem.W.keepIn K (.ref f17) = true)
    (a18 : PySem.W.nsIn K mainGlobals "require_way" = some (some (.ref f18)))
    (l18 : K.lookup f18 = some ⟨oc18, od18, .func (PySem.W.fnOf "require_way" "require_way" (defArgs s_reqway) (defBody s_reqway) (defScope s_reqway) .none kV18 dc18 pm18 an18 cd18 ct18), sl18⟩)
    (c18 : PySem.W.codeIn K cd18 "require_way" = true)
    (k18 : PySem.W.keepIn K (.ref f18) = true)
    (a19 : PySem.W.nsIn K mainGlobals "require_stock" = some (some (.ref f19)))
    (l19 : K.lookup f19 = some ⟨oc19, od19, .func (PySem.W.fnOf "require_stock" "require_stock" (defArgs s_reqstock) (defBody s_reqstock) (defScope s_reqstock) .none kV19 dc19 pm19 an19 cd19 ct19), sl19⟩)
    (c19 : PySem.W.codeIn K cd19 "require_stock" = true)
    (k19 : PySem.W.keepIn K (.ref f19) = true)
    (a20 : PySem.W.nsIn K mainGlobals "require_length" = some (some (.ref f20)))
    (l20 : K.lookup f20 = some ⟨oc20, od20, .func (PySem.W.fnOf "require_length" "require_length" (defArgs s_reqlen) (defBody s_reqlen) (defScope s_reqlen) .none kV20 dc20 pm20 an20 cd20 ct20), sl20⟩)
    (c20 : PySem.W.codeIn K cd20 "require_length" = true)
    (k20 : PySem.W.keepIn K (.ref f20) = true)
    (a21 : PySem.W.nsIn K mainGlobals "require_mark" = some (some (.ref f21)))
    (l21 : K.lookup f21 = some ⟨oc21, od21, .func (PySem.W.fnOf "require_mark" "require_mark" (defArgs s_reqmark) (defBody s_reqmark) (defScope s_reqmark) .none kV21 dc21 pm21 an21 cd21 ct21), sl21⟩)
    (c21 : PySem.W.codeIn K cd21 "require_mark" = true)
    (k21 : PySem.W.keepIn K (.ref f21) = true)
    (a22 : PySem.W.nsIn K mainGlobals "power_rest" = some (some (.ref f22)))
    (l22 : K.lookup f22 = some ⟨oc22, od22, .func (PySem.W.fnOf "power_rest" "power_rest" (defArgs s_power) (defBody s_power) (defScope s_power) .none kV22 dc22 pm22 an22 cd22 ct22), sl22⟩)
    (c22 : PySem.W.codeIn K cd22 "power_rest" = true)
    (k22 : PySem.W.keepIn K (.ref f22) = true)
    (a23 : PySem.W.nsIn K mainGlobals "weights_of" = some (some (.ref f23)))
    (l23 : K.lookup f23 = some ⟨oc23, od23, .func (PySem.W.fnOf "weights_of" "weights_of" (defArgs s_wtsof) (defBody s_wtsof) (defScope s_wtsof) .none kV23 dc23 pm23 an23 cd23 ct23), sl23⟩)
    (c23 : PySem.W.codeIn K cd23 "weights_of" = true)
    (k23 : PySem.W.keepIn K (.ref f23) = true)
    (a24 : PySem.W.nsIn K mainGlobals "counts_of" = some (some (.ref f24)))
    (l24 : K.lookup f24 = some ⟨oc24, od24, .func (PySem.W.fnOf "counts_of" "counts_of" (defArgs s_countsof) (defBody s_countsof) (defScope s_countsof) .none kV24 dc24 pm24 an24 cd24 ct24), sl24⟩)
    (c24 : PySem.W.codeIn K cd24 "counts_of" = true)
    (k24 : PySem.W.keepIn K (.ref f24) = true)
    (a25 : PySem.W.nsIn K mainGlobals "exponent_in" = some (some (.ref f25)))
    (l25 : K.lookup f25 = some ⟨oc25, od25, .func (PySem.W.fnOf "exponent_in" "exponent_in" (defArgs s_expin) (defBody s_expin) (defScope s_expin) .none kV25 dc25 pm25 an25 cd25 ct25), sl25⟩)
    (c25 : PySem.W.codeIn K cd25 "exponent_in" = true)
    (k25 : PySem.W.keepIn K (.ref f25) = true)
    (a26 : PySem.W.nsIn K mainGlobals "met_from" = some (some (.ref f26)))
    (l26 : K.lookup f26 = some ⟨oc26, od26, .func (PySem.W.fnOf "met_from" "met_from" (defArgs s_metfrom) (defBody s_metfrom) (defScope s_metfrom) .none kV26 dc26 pm26 an26 cd26 ct26), sl26⟩)
    (c26 : PySem.W.codeIn K cd26 "met_from" = true)
    (k26 : PySem.W.keepIn K (.ref f26) = true)
    (a27 : PySem.W.nsIn K mainGlobals "_law_modulus" = some (some (.ref f27)))
    (l27 : K.lookup f27 = some ⟨oc27, od27, .func (PySem.W.fnOf "_law_modulus" "_law_modulus" (defArgs s_mod2) (defBody s_mod2) (defScope s_mod2) .none kV27 dc27 pm27 an27 cd27 ct27), sl27⟩)
    (c27 : PySem.W.codeIn K cd27 "_law_modulus" = true)
    (k27 : PySem.W.keepIn K (.ref f27) = true)
    (a28 : PySem.W.nsIn K mainGlobals "_law_most" = some (some (.ref f28)))
    (l28 : K.lookup f28 = some ⟨oc28, od28, .func (PySem.W.fnOf "_law_most" "_law_most" (defArgs s_most90) (defBody s_most90) (defScope s_most90) .none kV28 dc28 pm28 an28 cd28 ct28), sl28⟩)
    (c28 : PySem.W.codeIn K cd28 "_law_most" = true)
    (k28 : PySem.W.keepIn K (.ref f28) = true)
    (a29 : PySem.W.nsIn K mainGlobals "_law_right" = some (some (.ref f29)))
    (l29 : K.lookup f29 = some ⟨oc29, od29, .func (PySem.W.fnOf "_law_right" "_law_right" (defArgs s_right) (defBody s_right) (defScope s_right) .none kV29 dc29 pm29 an29 cd29 ct29), sl29⟩)
    (c29 : PySem.W.codeIn K cd29 "_law_right" = true)
    (k29 : PySem.W.keepIn K (.ref f29) = true)
    (a30 : PySem.W.findIn K (.ref Cm) "__init__" = some (some (.ref f30)))
    (i30 : PySem.W.isFn K (.ref f30) = true)
    (l30 : K.lookup f30 = some ⟨oc30, od30, .func (PySem.W.fnOf "__init__" "Modulus.__init__" (defArgs s_modinit) (defBody s_modinit) (defScope s_modinit) .none kV30 dc30 pm30 an30 cd30 ct30), sl30⟩)
    (c30 : PySem.W.codeIn K cd30 "Modulus.__init__" = true)
    (k30 : PySem.W.keepIn K (.ref f30) = true)
    (a31 : PySem.W.findIn K (.ref Ck) "__init__" = some (some (.ref f31)))
    (i31 : PySem.W.isFn K (.ref f31) = true)
    (l31 : K.lookup f31 = some ⟨oc31, od31, .func (PySem.W.fnOf "__init__" "Marking.__init__" (defArgs s_mkinit) (defBody s_mkinit) (defScope s_mkinit) .none (.ref D31) dc31 pm31 an31 cd31 ct31), sl31⟩)
    (c31 : PySem.W.codeIn K cd31 "Marking.__init__" = true)
    (k31 : PySem.W.keepIn K (.ref f31) = true)
    (d31_0 : PySem.W.nsIn K D31 "low" = some (some (.bool false)))
    (d31_1 : PySem.W.nsIn K D31 "shift" = some (some (.int 0 tk31_1)))
    (d31_2 : PySem.W.nsIn K D31 "lead" = some (some (.bool false)))
    (a32 : PySem.W.findIn K (.ref Ck) "highest_first" = some (some (.ref f32)))
    (i32 : PySem.W.isFn K (.ref f32) = true)
    (l32 : K.lookup f32 = some ⟨oc32, od32, .func (PySem.W.fnOf "highest_first" "Marking.highest_first" (defArgs s_hf) (defBody s_hf) (defScope s_hf) .none kV32 dc32 pm32 an32 cd32 ct32), sl32⟩)
    (c32 : PySem.W.codeIn K cd32 "Marking.highest_first" = true)
    (k32 : PySem.W.keepIn K (.ref f32) = true)
    (a33 : PySem.W.findIn K (.ref Cw) "__init__" = some (some (.ref f33)))
    (i33 : PySem.W.isFn K (.ref f33) = true)
    (l33 : K.lookup f33 = some ⟨oc33, od33, .func (PySem.W.fnOf "__init__" "Way.__init__" (defArgs s_wayinit) (defBody s_wayinit) (defScope s_wayinit) (.ref T33) kV33 dc33 pm33 an33 cd33 ct33), sl33⟩)
    (c33 : PySem.W.codeIn K cd33 "Way.__init__" = true)
    (k33 : PySem.W.keepIn K (.ref f33) = true)
    (t33 : K.lookup T33 = some ⟨To33, Td33, .seq [.none].toArray Tn33, Ts33⟩)
    (a34 : PySem.W.findIn K (.ref Cw) "of_letters" = some (some (.ref f34)))
    (i34 : PySem.W.isFn K (.ref f34) = true)
    (l34 : K.lookup f34 = some ⟨oc34, od34, .func (PySem.W.fnOf "of_letters" "Way.of_letters" (defArgs s_ofl) (defBody s_ofl) (defScope s_ofl) .none kV34 dc34 pm34 an34 cd34 ct34), sl34⟩)
    (c34 : PySem.W.codeIn K cd34 "Way.of_letters" = true)
    (k34 : PySem.W.keepIn K (.ref f34) = true)
    (a35 : PySem.W.findIn K (.ref Cw) "__call__" = some (some (.ref f35)))
    (i35 : PySem.W.isFn K (.ref f35) = true)
    (l35 : K.lookup f35 = some ⟨oc35, od35, .func (PySem.W.fnOf "__call__" "Way.__call__" (defArgs s_call) (defBody s_call) (defScope s_call) .none kV35 dc35 pm35 an35 cd35 ct35), sl35⟩)
    (c35 : PySem.W.codeIn K cd35 "Way.__call__" = true)
    (k35 : PySem.W.keepIn K (.ref f35) = true)
    (mCs : PySem.W.nsIn K mainGlobals "Sorted" = some (some (.ref Cs)))
    (pgCs : PySem.W.plainGet K Cs Str.empty = true)
    (hdCs : PySem.W.hasDictIn K Cs = true)
    (poCs : PySem.W.plainOver K Cs = true)
    (saCs : PySem.W.findIn K (.ref Cs) "__setattr__" = some (some (.builtin "object.__setattr__")))
    (haCs : PySem.W.findIn K (.ref Cs) "__class__" = some (some (.builtin "object.__class__")))
    (hmCs : PySem.W.mroIn K Cs (.type "object") = some true)
    (mkCs : PySem.W.makesIn K Cs = true)
    (kcCs : PySem.W.keepIn K (.ref Cs) = true)
    (nCs_way : PySem.W.findIn K (.ref Cs) "way" = some none)
    (nCs_stock : PySem.W.findIn K (.ref Cs) "stock" = some none)
    (nCs_scales : PySem.W.findIn K (.ref Cs) "scales" = some none)
    (nCs_lead : PySem.W.findIn K (.ref Cs) "lead" = some none)
    (nCs_counts : PySem.W.findIn K (.ref Cs) "counts" = some none)
    (a36 : PySem.W.findIn K (.ref Cs) "summand" = some (some (.ref f36)))
    (i36 : PySem.W.isFn K (.ref f36) = true)
    (l36 : K.lookup f36 = some ⟨oc36, od36, .func (PySem.W.fnOf "summand" "Sorted.summand" (defArgs s_summ) (defBody s_summ) (defScope s_summ) .none kV36 dc36 pm36 an36 cd36 ct36), sl36⟩)
    (c36 : PySem.W.codeIn K cd36 "Sorted.summand" = true)
    (k36 : PySem.W.keepIn K (.ref f36) = true)
    (a37 : PySem.W.findIn K (.ref Cs) "counted_ahead" = some (some (.ref f37)))
    (i37 : PySem.W.isFn K (.ref f37) = true)
    (l37 : K.lookup f37 = some ⟨oc37, od37, .func (PySem.W.fnOf "counted_ahead" "Sorted.counted_ahead" (defArgs s_ahead) (defBody s_ahead) (defScope s_ahead) .none kV37 dc37 pm37 an37 cd37 ct37), sl37⟩)
    (c37 : PySem.W.codeIn K cd37 "Sorted.counted_ahead" = true)
    (k37 : PySem.W.keepIn K (.ref f37) = true)
    (a38 : PySem.W.findIn K (.ref Cs) "__init__" = some (some (.ref f38)))
    (i38 : PySem.W.isFn K (.ref f38) = true)
    (l38 : K.lookup f38 = some ⟨oc38, od38, .func (PySem.W.fnOf "__init__" "Sorted.__init__" (defArgs s_srinit) (defBody s_srinit) (defScope s_srinit) .none kV38 dc38 pm38 an38 cd38 ct38), sl38⟩)
    (c38 : PySem.W.codeIn K cd38 "Sorted.__init__" = true)
    (k38 : PySem.W.keepIn K (.ref f38) = true)
    (a39 : PySem.W.findIn K (.ref Cs) "text_at" = some (some (.ref f39)))
    (i39 : PySem.W.isFn K (.ref f39) = true)
    (l39 : K.lookup f39 = some ⟨oc39, od39, .func (PySem.W.fnOf "text_at" "Sorted.text_at" (defArgs s_textat) (defBody s_textat) (defScope s_textat) .none kV39 dc39 pm39 an39 cd39 ct39), sl39⟩)
    (c39 : PySem.W.codeIn K cd39 "Sorted.text_at" = true)
    (k39 : PySem.W.keepIn K (.ref f39) = true)
    (a40 : PySem.W.findIn K (.ref Cs) "number_of" = some (some (.ref f40)))
    (i40 : PySem.W.isFn K (.ref f40) = true)
    (l40 : K.lookup f40 = some ⟨oc40, od40, .func (PySem.W.fnOf "number_of" "Sorted.number_of" (defArgs s_numm) (defBody s_numm) (defScope s_numm) .none kV40 dc40 pm40 an40 cd40 ct40), sl40⟩)
    (c40 : PySem.W.codeIn K cd40 "Sorted.number_of" = true)
    (k40 : PySem.W.keepIn K (.ref f40) = true)
    (a41 : PySem.W.nsIn K mainGlobals "count_marked" = some (some (.ref f41)))
    (l41 : K.lookup f41 = some ⟨oc41, od41, .func (PySem.W.fnOf "count_marked" "count_marked" (defArgs s_cntm) (defBody s_cntm) (defScope s_cntm) .none kV41 dc41 pm41 an41 cd41 ct41), sl41⟩)
    (c41 : PySem.W.codeIn K cd41 "count_marked" = true)
    (k41 : PySem.W.keepIn K (.ref f41) = true)
    (a42 : PySem.W.nsIn K mainGlobals "marked_text" = some (some (.ref f42)))
    (l42 : K.lookup f42 = some ⟨oc42, od42, .func (PySem.W.fnOf "marked_text" "marked_text" (defArgs s_mkdt) (defBody s_mkdt) (defScope s_mkdt) .none kV42 dc42 pm42 an42 cd42 ct42), sl42⟩)
    (c42 : PySem.W.codeIn K cd42 "marked_text" = true)
    (k42 : PySem.W.keepIn K (.ref f42) = true)
    (a43 : PySem.W.nsIn K mainGlobals "number_of" = some (some (.ref f43)))
    (l43 : K.lookup f43 = some ⟨oc43, od43, .func (PySem.W.fnOf "number_of" "number_of" (defArgs s_numof) (defBody s_numof) (defScope s_numof) .none kV43 dc43 pm43 an43 cd43 ct43), sl43⟩)
    (c43 : PySem.W.codeIn K cd43 "number_of" = true)
    (k43 : PySem.W.keepIn K (.ref f43) = true)
    (a44 : PySem.W.nsIn K mainGlobals "mark_counts" = some (some (.ref f44)))
    (l44 : K.lookup f44 = some ⟨oc44, od44, .func (PySem.W.fnOf "mark_counts" "mark_counts" (defArgs s_markcounts) (defBody s_markcounts) (defScope s_markcounts) .none kV44 dc44 pm44 an44 cd44 ct44), sl44⟩)
    (c44 : PySem.W.codeIn K cd44 "mark_counts" = true)
    (k44 : PySem.W.keepIn K (.ref f44) = true)
    (a45 : PySem.W.nsIn K mainGlobals "even_from" = some (some (.ref f45)))
    (l45 : K.lookup f45 = some ⟨oc45, od45, .func (PySem.W.fnOf "even_from" "even_from" (defArgs s_evenfrom) (defBody s_evenfrom) (defScope s_evenfrom) .none kV45 dc45 pm45 an45 cd45 ct45), sl45⟩)
    (c45 : PySem.W.codeIn K cd45 "even_from" = true)
    (k45 : PySem.W.keepIn K (.ref f45) = true)
    (mCq : PySem.W.nsIn K mainGlobals "Scale" = some (some (.ref Cq)))
    (pgCq : PySem.W.plainGet K Cq Str.empty = true)
    (hdCq : PySem.W.hasDictIn K Cq = true)
    (poCq : PySem.W.plainOver K Cq = true)
    (saCq : PySem.W.findIn K (.ref Cq) "__setattr__" = some (some (.builtin "object.__setattr__")))
    (haCq : PySem.W.findIn K (.ref Cq) "__class__" = some (some (.builtin "object.__class__")))
    (hmCq : PySem.W.mroIn K Cq (.type "object") = some true)
    (mkCq : PySem.W.makesIn K Cq = true)
    (kcCq : PySem.W.keepIn K (.ref Cq) = true)
    (nCq_bases : PySem.W.findIn K (.ref Cq) "bases" = some none)
    (nCq_number : PySem.W.findIn K (.ref Cq) "number" = some none)
    (nCq_low : PySem.W.findIn K (.ref Cq) "low" = some none)
    (nCq_zero : PySem.W.findIn K (.ref Cq) "zero" = some none)
    (a46 : PySem.W.findIn K (.ref Cq) "__init__" = some (some (.ref f46)))
    (i46 : PySem.W.isFn K (.ref f46) = true)
    (l46 : K.lookup f46 = some ⟨oc46, od46, .func (PySem.W.fnOf "__init__" "Scale.__init__" (defArgs s_scinit) (defBody s_scinit) (defScope s_scinit) .none kV46 dc46 pm46 an46 cd46 ct46), sl46⟩)
    (c46 : PySem.W.codeIn K cd46 "Scale.__init__" = true)
    (k46 : PySem.W.keepIn K (.ref f46) = true)
    (a47 : PySem.W.findIn K (.ref Cq) "led" = some (some (.ref f47)))
    (i47 : PySem.W.isFn K (.ref f47) = true)
    (l47 : K.lookup f47 = some ⟨oc47, od47, .func (PySem.W.fnOf "led" "Scale.led" (defArgs s_led) (defBody s_led) (defScope s_led) .none kV47 dc47 pm47 an47 cd47 ct47), sl47⟩)
    (c47 : PySem.W.codeIn K cd47 "Scale.led" = true)
    (k47 : PySem.W.keepIn K (.ref f47) = true)
    (a48 : PySem.W.findIn K (.ref Cq) "weight" = some (some (.ref f48)))
    (i48 : PySem.W.isFn K (.ref f48) = true)
    (l48 : K.lookup f48 = some ⟨oc48, od48, .func (PySem.W.fnOf "weight" "Scale.weight" (defArgs s_scweight) (defBody s_scweight) (defScope s_scweight) .none kV48 dc48 pm48 an48 cd48 ct48), sl48⟩)
    (c48 : PySem.W.codeIn K cd48 "Scale.weight" = true)
    (k48 : PySem.W.keepIn K (.ref f48) = true)
    (a49 : PySem.W.findIn K (.ref Cq) "weights" = some (some (.ref f49)))
    (i49 : PySem.W.isFn K (.ref f49) = true)
    (l49 : K.lookup f49 = some ⟨oc49, od49, .func (PySem.W.fnOf "weights" "Scale.weights" (defArgs s_scweights) (defBody s_scweights) (defScope s_scweights) .none kV49 dc49 pm49 an49 cd49 ct49), sl49⟩)
    (c49 : PySem.W.codeIn K cd49 "Scale.weights" = true)
    (k49 : PySem.W.keepIn K (.ref f49) = true)
    (a50 : PySem.W.findIn K (.ref Cq) "moved" = some (some (.ref f50)))
    (i50 : PySem.W.isFn K (.ref f50) = true)
    (l50 : K.lookup f50 = some ⟨oc50, od50, .func (PySem.W.fnOf "moved" "Scale.moved" (defArgs s_scmoved) (defBody s_scmoved) (defScope s_scmoved) .none kV50 dc50 pm50 an50 cd50 ct50), sl50⟩)
    (c50 : PySem.W.codeIn K cd50 "Scale.moved" = true)
    (k50 : PySem.W.keepIn K (.ref f50) = true)
    (a51 : PySem.W.findIn K (.ref Cq) "negative" = some (some (.ref f51)))
    (i51 : PySem.W.isFn K (.ref f51) = true)
    (l51 : K.lookup f51 = some ⟨oc51, od51, .func (PySem.W.fnOf "negative" "Scale.negative" (defArgs s_scneg) (defBody s_scneg) (defScope s_scneg) .none kV51 dc51 pm51 an51 cd51 ct51), sl51⟩)
    (c51 : PySem.W.codeIn K cd51 "Scale.negative" = true)
    (k51 : PySem.W.keepIn K (.ref f51) = true)
    (a52 : PySem.W.nsIn K mainGlobals "scale_of" = some (some (.ref f52)))
    (l52 : K.lookup f52 = some ⟨oc52, od52, .func (PySem.W.fnOf "scale_of" "scale_of" (defArgs s_scof) (defBody s_scof) (defScope s_scof) .none kV52 dc52 pm52 an52 cd52 ct52), sl52⟩)
    (c52 : PySem.W.codeIn K cd52 "scale_of" = true)
    (k52 : PySem.W.keepIn K (.ref f52) = true)
    (a53 : PySem.W.nsIn K mainGlobals "all_true" = some (some (.ref f53)))
    (l53 : K.lookup f53 = some ⟨oc53, od53, .func (PySem.W.fnOf "all_true" "all_true" (defArgs s_alltrue) (defBody s_alltrue) (defScope s_alltrue) .none kV53 dc53 pm53 an53 cd53 ct53), sl53⟩)
    (c53 : PySem.W.codeIn K cd53 "all_true" = true)
    (k53 : PySem.W.keepIn K (.ref f53) = true)
    (a54 : PySem.W.nsIn K mainGlobals "least_length" = some (some (.ref f54)))
    (l54 : K.lookup f54 = some ⟨oc54, od54, .func (PySem.W.fnOf "least_length" "least_length" (defArgs s_lstlen) (defBody s_lstlen) (defScope s_lstlen) .none kV54 dc54 pm54 an54 cd54 ct54), sl54⟩)
    (c54 : PySem.W.codeIn K cd54 "least_length" = true)
    (k54 : PySem.W.keepIn K (.ref f54) = true)
    (a55 : PySem.W.nsIn K mainGlobals "least_window" = some (some (.ref f55)))
    (l55 : K.lookup f55 = some ⟨oc55, od55, .func (PySem.W.fnOf "least_window" "least_window" (defArgs s_lwin) (defBody s_lwin) (defScope s_lwin) .none kV55 dc55 pm55 an55 cd55 ct55), sl55⟩)
    (c55 : PySem.W.codeIn K cd55 "least_window" = true)
    (k55 : PySem.W.keepIn K (.ref f55) = true)
    (z_dict : PySem.W.nsIn K mainGlobals "dict" = some none)
    (a56 : PySem.W.nsIn K mainGlobals "sums_behind" = some (some (.ref f56)))
    (l56 : K.lookup f56 = some ⟨oc56, od56, .func (PySem.W.fnOf "sums_behind" "sums_behind" (defArgs s_sumsb) (defBody s_sumsb) (defScope s_sumsb) .none kV56 dc56 pm56 an56 cd56 ct56), sl56⟩)
    (c56 : PySem.W.codeIn K cd56 "sums_behind" = true)
    (k56 : PySem.W.keepIn K (.ref f56) = true)
    (a57 : PySem.W.nsIn K mainGlobals "unlike_sums_behind" = some (some (.ref f57)))
    (l57 : K.lookup f57 = some ⟨oc57, od57, .func (PySem.W.fnOf "unlike_sums_behind" "unlike_sums_behind" (defArgs s_unlsb) (defBody s_unlsb) (defScope s_unlsb) .none kV57 dc57 pm57 an57 cd57 ct57), sl57⟩)
    (c57 : PySem.W.codeIn K cd57 "unlike_sums_behind" = true)
    (k57 : PySem.W.keepIn K (.ref f57) = true)
    (a58 : PySem.W.nsIn K mainGlobals "goes_on" = some (some (.ref f58)))
    (l58 : K.lookup f58 = some ⟨oc58, od58, .func (PySem.W.fnOf "goes_on" "goes_on" (defArgs s_goeson) (defBody s_goeson) (defScope s_goeson) .none kV58 dc58 pm58 an58 cd58 ct58), sl58⟩)
    (c58 : PySem.W.codeIn K cd58 "goes_on" = true)
    (k58 : PySem.W.keepIn K (.ref f58) = true)
    (a59 : PySem.W.nsIn K mainGlobals "next_states" = some (some (.ref f59)))
    (l59 : K.lookup f59 = some ⟨oc59, od59, .func (PySem.W.fnOf "next_states" "next_states" (defArgs s_nextst) (defBody s_nextst) (defScope s_nextst) .none kV59 dc59 pm59 an59 cd59 ct59), sl59⟩)
    (c59 : PySem.W.codeIn K cd59 "next_states" = true)
    (k59 : PySem.W.keepIn K (.ref f59) = true)
    (a60 : PySem.W.nsIn K mainGlobals "first_text" = some (some (.ref f60)))
    (l60 : K.lookup f60 = some ⟨oc60, od60, .func (PySem.W.fnOf "first_text" "first_text" (defArgs s_firstt) (defBody s_firstt) (defScope s_firstt) .none kV60 dc60 pm60 an60 cd60 ct60), sl60⟩)
    (c60 : PySem.W.codeIn K cd60 "first_text" = true)
    (k60 : PySem.W.keepIn K (.ref f60) = true)
    (a61 : PySem.W.nsIn K mainGlobals "first_other" = some (some (.ref f61)))
    (l61 : K.lookup f61 = some ⟨oc61, od61, .func (PySem.W.fnOf "first_other" "first_other" (defArgs s_firsto) (defBody s_firsto) (defScope s_firsto) .none kV61 dc61 pm61 an61 cd61 ct61), sl61⟩)
    (c61 : PySem.W.codeIn K cd61 "first_other" = true)
    (k61 : PySem.W.keepIn K (.ref f61) = true)
    (a62 : PySem.W.nsIn K mainGlobals "first_pair" = some (some (.ref f62)))
    (l62 : K.lookup f62 = some ⟨oc62, od62, .func (PySem.W.fnOf "first_pair" "first_pair" (defArgs s_firstp) (defBody s_firstp) (defScope s_firstp) .none kV62 dc62 pm62 an62 cd62 ct62), sl62⟩)
    (c62 : PySem.W.codeIn K cd62 "first_pair" = true)
    (k62 : PySem.W.keepIn K (.ref f62) = true)
    (a63 : PySem.W.nsIn K mainGlobals "window_pair" = some (some (.ref f63)))
    (l63 : K.lookup f63 = some ⟨oc63, od63, .func (PySem.W.fnOf "window_pair" "window_pair" (defArgs s_winpair) (defBody s_winpair) (defScope s_winpair) .none kV63 dc63 pm63 an63 cd63 ct63), sl63⟩)
    (c63 : PySem.W.codeIn K cd63 "window_pair" = true)
    (k63 : PySem.W.keepIn K (.ref f63) = true)
    (z_set : PySem.W.nsIn K mainGlobals "set" = some none)
    (a64 : PySem.W.nsIn K mainGlobals "law" = some (some (.ref f64)))
    (l64 : K.lookup f64 = some ⟨oc64, od64, .func (PySem.W.fnOf "law" "law" (defArgs s_law) (defBody s_law) (defScope s_law) .none kV64 dc64 pm64 an64 cd64 ct64), sl64⟩)
    (c64 : PySem.W.codeIn K cd64 "law" = true)
    (k64 : PySem.W.keepIn K (.ref f64) = true)
    (fi35 : PySem.W.fnIn K f35 = true) :
    ∃ fd : FuncData, (∀ (s : Shared) (v : Value), BindsTo s fd ⟨[v], []⟩ [("_law_script", v)]) ∧ ∀ base : Heap, K.In base → base.Ns mainGlobals mg → FnOk l.prog w K mg base L2.CX0 8 fa fd ["_law_script"] (spLaw K) := by
  have e := hfa.symm.trans (PySem.W.mg_of X G a64)
  cases e
  have T : Bt mg := ⟨PySem.W.mg_none_of X G z_len, PySem.W.mg_none_of X G z_int, PySem.W.mg_none_of X G z_abs, PySem.W.mg_none_of X G z_max, PySem.W.mg_none_of X G z_min, PySem.W.mg_none_of X G z_range, PySem.W.mg_none_of X G z_isinstance, PySem.W.mg_none_of X G z_list, PySem.W.mg_none_of X G z_tuple, PySem.W.mg_none_of X G z_str, PySem.W.mg_none_of X G z_bool, PySem.W.mg_none_of X G z_ord, PySem.W.mg_none_of X G z_all, PySem.W.mg_none_of X G z_enumerate, PySem.W.mg_none_of X G z_zip⟩
  have K_Cm : ClsF K Cm := ⟨⟨pgCm, hdCm, poCm, saCm⟩, haCm, objhn, objht, hmCm⟩
  have K_Ck : ClsF K Ck := ⟨⟨pgCk, hdCk, poCk, saCk⟩, haCk, objhn, objht, hmCk⟩
  have K_Cw : ClsF K Cw := ⟨⟨pgCw, hdCw, poCw, saCw⟩, haCw, objhn, objht, hmCw⟩
  have KX : Kx K mg ⟨Cm, Ck, Cw⟩ := ⟨K_Cm, K_Ck, K_Cw, PySem.W.mg_of X G mCm, PySem.W.mg_of X G mCk, PySem.W.mg_of X G mCw, nCm_number, nCm_factors, nCk_low, nCk_shift, nCk_lead, nCw_marking, nCw_modulus, nCw_number, nCw_base⟩
  have F_isint : Dn K mg "is_integer" s_isint ["thing"] := ⟨f1, _, fun_mk (st := s_isint) l1 c1 k1, PySem.W.mg_of X G a1, (fun_mk (st := s_isint) l1 c1 k1).binds (ps := ["thing"]) fun _ _ _ _ _ _ us hl => (by obtain ⟨_, rfl⟩ := lenL1 hl; exact rfl)⟩
  have F_raised : Dn K mg "raised" s_raised ["factor", "power"] := ⟨f2, _, fun_mk (st := s_raised) l2 c2 k2, PySem.W.mg_of X G a2, (fun_mk (st := s_raised) l2 c2 k2).binds (ps := ["factor", "power"]) fun _ _ _ _ _ _ us hl => (by obtain ⟨_, _, rfl⟩ := lenL2 hl; exact rfl)⟩
  have F_prime : Dn K mg "is_prime_number" s_prime ["number"] := ⟨f3, _, fun_mk (st := s_prime) l3 c3 k3, PySem.W.mg_of X G a3, (fun_mk (st := s_prime) l3 c3 k3).binds (ps := ["number"]) fun _ _ _ _ _ _ us hl => (by obtain ⟨_, rfl⟩ := lenL1 hl; exact rfl)⟩
  have F_isfac : Dn K mg "is_factor" s_isfac ["thing", "least"] := ⟨f4, _, fun_mk (st := s_isfac) l4 c4 k4, PySem.W.mg_of X G a4, (fun_mk (st := s_isfac) l4 c4 k4).binds (ps := ["thing", "least"]) fun _ _ _ _ _ _ us hl => (by obtain ⟨_, _, rfl⟩ := lenL2 hl; exact rfl)⟩
  have F_reqmod : Dn K mg "require_modulus" s_reqmod ["modulus"] := ⟨f5, _, fun_mk (st := s_reqmod) l5 c5 k5, PySem.W.mg_of X G a5, (fun_mk (st := s_reqmod) l5 c5 k5).binds (ps := ["modulus"]) fun _ _ _ _ _ _ us hl => (by obtain ⟨_, rfl⟩ := lenL1 hl; exact rfl)⟩
  have F_istext : Dn K mg "is_text" s_istext ["thing"] := ⟨f6, _, fun_mk (st := s_istext) l6 c6 k6, PySem.W.mg_of X G a6, (fun_mk (st := s_istext) l6 c6 k6).binds (ps := ["thing"]) fun _ _ _ _ _ _ us hl => (by obtain ⟨_, rfl⟩ := lenL1 hl; exact rfl)⟩
  have F_read : Dn K mg "read" s_read ["text"] := ⟨f7, _, fun_mk (st := s_read) l7 c7 k7, PySem.W.mg_of X G a7, (fun_mk (st := s_read) l7 c7 k7).binds (ps := ["text"]) fun _ _ _ _ _ _ us hl => (by obtain ⟨_, rfl⟩ := lenL1 hl; exact rfl)⟩
  have F_reqtext : Dn K mg "require_text" s_reqtext ["thing"] := ⟨f8, _, fun_mk (st := s_reqtext) l8 c8 k8, PySem.W.mg_of X G a8, (fun_mk (st := s_reqtext) l8 c8 k8).binds (ps := ["thing"]) fun _ _ _ _ _ _ us hl => (by obtain ⟨_, rfl⟩ := lenL1 hl; exact rfl)⟩
  have F_mkof : Dn K mg "marking_of" s_mkof ["marking"] := ⟨f9, _, fun_mk (st := s_mkof) l9 c9 k9, PySem.W.mg_of X G a9, (fun_mk (st := s_mkof) l9 c9 k9).binds (ps := ["marking"]) fun _ _ _ _ _ _ us hl => (by obtain ⟨_, rfl⟩ := lenL1 hl; exact rfl)⟩
  have F_restat : Dn K mg "rest_at" s_restat ["coefficients", "base", "number"] := ⟨f10, _, fun_mk (st := s_restat) l10 c10 k10, PySem.W.mg_of X G a10, (fun_mk (st := s_restat) l10 c10 k10).binds (ps := ["coefficients", "base", "number"]) fun _ _ _ _ _ _ us hl => (by obtain ⟨_, _, _, rfl⟩ := lenL3 hl; exact rfl)⟩
  have F_mixed : Dn K mg "_law_mixed" s_mixed ["_law_cell", "_law_k"] := ⟨f11, _, fun_mk (st := s_mixed) l11 c11 k11, PySem.W.mg_of X G a11, (fun_mk (st := s_mixed) l11 c11 k11).binds (ps := ["_law_cell", "_law_k"]) fun _ _ _ _ _ _ us hl => (by obtain ⟨_, _, rfl⟩ := lenL2 hl; exact rfl)⟩
  have F_purse : Dn K mg "_law_purse" s_purse ["_law_cells", "_law_at"] := ⟨f12, _, fun_mk (st := s_purse) l12 c12 k12, PySem.W.mg_of X G a12, (fun_mk (st := s_purse) l12 c12 k12).binds (ps := ["_law_cells", "_law_at"]) fun _ _ _ _ _ _ us hl => (by obtain ⟨_, _, rfl⟩ := lenL2 hl; exact rfl)⟩
  have F_draw : Dn K mg "_law_draw" s_draw ["_law_purse_here", "_law_out_of"] := ⟨f13, _, fun_mk (st := s_draw) l13 c13 k13, PySem.W.mg_of X G a13, (fun_mk (st := s_draw) l13 c13 k13).binds (ps := ["_law_purse_here", "_law_out_of"]) fun _ _ _ _ _ _ us hl => (by obtain ⟨_, _, rfl⟩ := lenL2 hl; exact rfl)⟩
  have F_great : Dn K mg "_law_great" s_great ["_law_purse_here", "_law_figures"] := ⟨f14, _, fun_mk (st := s_great) l14 c14 k14, PySem.W.mg_of X G a14, (fun_mk (st := s_great) l14 c14 k14).binds (ps := ["_law_purse_here", "_law_figures"]) fun _ _ _ _ _ _ us hl => (by obtain ⟨_, _, rfl⟩ := lenL2 hl; exact rfl)⟩
  have F_style : Dn K mg "_law_style" s_style ["_law_purse_here"] := ⟨f15, _, fun_mk (st := s_style) l15 c15 k15, PySem.W.mg_of X G a15, (fun_mk (st := s_style) l15 c15 k15).binds (ps := ["_law_purse_here"]) fun _ _ _ _ _ _ us hl => (by obtain ⟨_, rfl⟩ := lenL1 hl; exact rfl)⟩
  have F_marking : Dn K mg "_law_marking" s_marking ["_law_given"] := ⟨f16, _, fun_mk (st := s_marking) l16 c16 k16, PySem.W.mg_of X G a16, (fun_mk (st := s_marking) l16 c16 k16).binds (ps := ["_law_given"]) fun _ _ _ _ _ _ us hl => (by obtain ⟨_, rfl⟩ := lenL1 hl; exact rfl)⟩
  have F_root : Dn K mg "_law_root" s_root ["_law_purse_here", "_law_size"] := ⟨f17, _, fun_mk (st := s_root) l17 c17 k17, PySem.W.mg_of X G a17, (fun_mk (st := s_root) l17 c17 k17).binds (ps := ["_law_purse_here", "_law_size"]) fun _ _ _ _ _ _ us hl => (by obtain ⟨_, _, rfl⟩ := lenL2 hl; exact rfl)⟩
  have F_reqway : Dn K mg "require_way" s_reqway ["way"] := ⟨f18, _, fun_mk (st := s_reqway) l18 c18 k18, PySem.W.mg_of X G a18, (fun_mk (st := s_reqway) l18 c18 k18).binds (ps := ["way"]) fun _ _ _ _ _ _ us hl => (by obtain ⟨_, rfl⟩ := lenL1 hl; exact rfl)⟩
  have F_reqstock : Dn K mg "require_stock" s_reqstock ["stock"] := ⟨f19, _, fun_mk (st := s_reqstock) l19 c19 k19, PySem.W.mg_of X G a19, (fun_mk (st := s_reqstock) l19 c19 k19).binds (ps := ["stock"]) fun _ _ _ _ _ _ us hl => (by obtain ⟨_, rfl⟩ := lenL1 hl; exact rfl)⟩
  have F_reqlen : Dn K mg "require_length" s_reqlen ["thing"] := ⟨f20, _, fun_mk (st := s_reqlen) l20 c20 k20, PySem.W.mg_of X G a20, (fun_mk (st := s_reqlen) l20 c20 k20).binds (ps := ["thing"]) fun _ _ _ _ _ _ us hl => (by obtain ⟨_, rfl⟩ := lenL1 hl; exact rfl)⟩
  have F_reqmark : Dn K mg "require_mark" s_reqmark ["way", "mark"] := ⟨f21, _, fun_mk (st := s_reqmark) l21 c21 k21, PySem.W.mg_of X G a21, (fun_mk (st := s_reqmark) l21 c21 k21).binds (ps := ["way", "mark"]) fun _ _ _ _ _ _ us hl => (by obtain ⟨_, _, rfl⟩ := lenL2 hl; exact rfl)⟩
  have F_power : Dn K mg "power_rest" s_power ["base", "exponent", "number"] := ⟨f22, _, fun_mk (st := s_power) l22 c22 k22, PySem.W.mg_of X G a22, (fun_mk (st := s_power) l22 c22 k22).binds (ps := ["base", "exponent", "number"]) fun _ _ _ _ _ _ us hl => (by obtain ⟨_, _, _, rfl⟩ := lenL3 hl; exact rfl)⟩
  have F_wtsof : Dn K mg "weights_of" s_wtsof ["way", "length"] := ⟨f23, _, fun_mk (st := s_wtsof) l23 c23 k23, PySem.W.mg_of X G a23, (fun_mk (st := s_wtsof) l23 c23 k23).binds (ps := ["way", "length"]) fun _ _ _ _ _ _ us hl => (by obtain ⟨_, _, rfl⟩ := lenL2 hl; exact rfl)⟩
  have F_countsof : Dn K mg "counts_of" s_countsof ["way", "stock", "length"] := ⟨f24, _, fun_mk (st := s_countsof) l24 c24 k24, PySem.W.mg_of X G a24, (fun_mk (st := s_countsof) l24 c24 k24).binds (ps := ["way", "stock", "length"]) fun _ _ _ _ _ _ us hl => (by obtain ⟨_, _, _, rfl⟩ := lenL3 hl; exact rfl)⟩
  have F_expin : Dn K mg "exponent_in" s_expin ["number", "prime", "most"] := ⟨f25, _, fun_mk (st := s_expin) l25 c25 k25, PySem.W.mg_of X G a25, (fun_mk (st := s_expin) l25 c25 k25).binds (ps := ["number", "prime", "most"]) fun _ _ _ _ _ _ us hl => (by obtain ⟨_, _, _, rfl⟩ := lenL3 hl; exact rfl)⟩
  have F_metfrom : Dn K mg "met_from" s_metfrom ["way", "prime", "power", "stock"] := ⟨f26, _, fun_mk (st := s_metfrom) l26 c26 k26, PySem.W.mg_of X G a26, (fun_mk (st := s_metfrom) l26 c26 k26).binds (ps := ["way", "prime", "power", "stock"]) fun _ _ _ _ _ _ us hl => (by obtain ⟨_, _, _, _, rfl⟩ := lenL4 hl; exact rfl)⟩
  have F_mod2 : Dn K mg "_law_modulus" s_mod2 ["_law_purse_here", "_law_most_here"] := ⟨f27, _, fun_mk (st := s_mod2) l27 c27 k27, PySem.W.mg_of X G a27, (fun_mk (st := s_mod2) l27 c27 k27).binds (ps := ["_law_purse_here", "_law_most_here"]) fun _ _ _ _ _ _ us hl => (by obtain ⟨_, _, rfl⟩ := lenL2 hl; exact rfl)⟩
  have F_most90 : Dn K mg "_law_most" s_most90 ["_law_counts"] := ⟨f28, _, fun_mk (st := s_most90) l28 c28 k28, PySem.W.mg_of X G a28, (fun_mk (st := s_most90) l28 c28 k28).binds (ps := ["_law_counts"]) fun _ _ _ _ _ _ us hl => (by obtain ⟨_, rfl⟩ := lenL1 hl; exact rfl)⟩
  have F_right : Dn K mg "_law_right" s_right ["_law_purse_here"] := ⟨f29, _, fun_mk (st := s_right) l29 c29 k29, PySem.W.mg_of X G a29, (fun_mk (st := s_right) l29 c29 k29).binds (ps := ["_law_purse_here"]) fun _ _ _ _ _ _ us hl => (by obtain ⟨_, rfl⟩ := lenL1 hl; exact rfl)⟩
  have F_modinit : FunD K "__init__" "Modulus.__init__" (defArgs s_modinit) (defBody s_modinit) (defScope s_modinit) [] [] f30 _ := ⟨⟨oc30, od30, .none, kV30, dc30, pm30, an30, cd30, ct30, sl30, rfl, l30, c30, .inl ⟨rfl, rfl⟩, .inl rfl⟩, k30⟩
  have B_modinit := F_modinit.bindsN (ps := ["self", "factors"]) fun _ _ _ _ _ _ us hl => (by obtain ⟨_, _, rfl⟩ := lenL2 hl; exact rfl)
  have F_mkinit : FunD K "__init__" "Marking.__init__" (defArgs s_mkinit) (defBody s_mkinit) (defScope s_mkinit) [] [("low", .bl false), ("shift", .int 0), ("lead", .bl false)] f31 _ := ⟨⟨oc31, od31, .none, (.ref D31), dc31, pm31, an31, cd31, ct31, sl31, rfl, l31, c31, .inl ⟨rfl, rfl⟩, .inr ⟨D31, rfl, fun q hq => by
    simp only [List.mem_cons, List.not_mem_nil, or_false] at hq
    rcases hq with rfl | rfl | rfl
    · exact ⟨_, d31_0, rfl⟩
    · exact ⟨_, d31_1, ⟨_, rfl⟩⟩
    · exact ⟨_, d31_2, rfl⟩⟩⟩, k31⟩
  have F_hf : FunD K "highest_first" "Marking.highest_first" (defArgs s_hf) (defBody s_hf) (defScope s_hf) [] [] f32 _ := ⟨⟨oc32, od32, .none, kV32, dc32, pm32, an32, cd32, ct32, sl32, rfl, l32, c32, .inl ⟨rfl, rfl⟩, .inl rfl⟩, k32⟩
  have B_hf := F_hf.bindsN (ps := ["self", "letters"]) fun _ _ _ _ _ _ us hl => (by obtain ⟨_, _, rfl⟩ := lenL2 hl; exact rfl)
  have F_wayinit : FunD K "__init__" "Way.__init__" (defArgs s_wayinit) (defBody s_wayinit) (defScope s_wayinit) [.non] [] f33 _ := ⟨⟨oc33, od33, (.ref T33), kV33, dc33, pm33, an33, cd33, ct33, sl33, rfl, l33, c33, .inr ⟨by simp, T33, _, _, _, rfl, t33, rfl, (.cons rfl .nil)⟩, .inl rfl⟩, k33⟩
  have F_ofl : FunD K "of_letters" "Way.of_letters" (defArgs s_ofl) (defBody s_ofl) (defScope s_ofl) [] [] f34 _ := ⟨⟨oc34, od34, .none, kV34, dc34, pm34, an34, cd34, ct34, sl34, rfl, l34, c34, .inl ⟨rfl, rfl⟩, .inl rfl⟩, k34⟩
  have B_ofl := F_ofl.bindsN (ps := ["self", "letters"]) fun _ _ _ _ _ _ us hl => (by obtain ⟨_, _, rfl⟩ := lenL2 hl; exact rfl)
  have F_call : FunD K "__call__" "Way.__call__" (defArgs s_call) (defBody s_call) (defScope s_call) [] [] f35 _ := ⟨⟨oc35, od35, .none, kV35, dc35, pm35, an35, cd35, ct35, sl35, rfl, l35, c35, .inl ⟨rfl, rfl⟩, .inl rfl⟩, k35⟩
  have B_call := F_call.bindsN (ps := ["self", "text"]) fun _ _ _ _ _ _ us hl => (by obtain ⟨_, _, rfl⟩ := lenL2 hl; exact rfl)
  have K_Cs : ClsF K Cs := ⟨⟨pgCs, hdCs, poCs, saCs⟩, haCs, objhn, objht, hmCs⟩
  have KS : Ks K mg Cs := ⟨K_Cs, PySem.W.mg_of X G mCs, nCs_way, nCs_stock, nCs_scales, nCs_lead, nCs_counts⟩
  have F_summ : FunD K "summand" "Sorted.summand" (defArgs s_summ) (defBody s_summ) (defScope s_summ) [] [] f36 _ := ⟨⟨oc36, od36, .none, kV36, dc36, pm36, an36, cd36, ct36, sl36, rfl, l36, c36, .inl ⟨rfl, rfl⟩, .inl rfl⟩, k36⟩
  have B_summ := F_summ.bindsN (ps := ["self", "weight", "letter"]) fun _ _ _ _ _ _ us hl => (by obtain ⟨_, _, _, rfl⟩ := lenL3 hl; exact rfl)
  have F_ahead : FunD K "counted_ahead" "Sorted.counted_ahead" (defArgs s_ahead) (defBody s_ahead) (defScope s_ahead) [] [] f37 _ := ⟨⟨oc37, od37, .none, kV37, dc37, pm37, an37, cd37, ct37, sl37, rfl, l37, c37, .inl ⟨rfl, rfl⟩, .inl rfl⟩, k37⟩
  have B_ahead := F_ahead.bindsN (ps := ["self", "weight", "counts"]) fun _ _ _ _ _ _ us hl => (by obtain ⟨_, _, _, rfl⟩ := lenL3 hl; exact rfl)
  have F_srinit : FunD K "__init__" "Sorted.__init__" (defArgs s_srinit) (defBody s_srinit) (defScope s_srinit) [] [] f38 _ := ⟨⟨oc38, od38, .none, kV38, dc38, pm38, an38, cd38, ct38, sl38, rfl, l38, c38, .inl ⟨rfl, rfl⟩, .inl rfl⟩, k38⟩
  have B_srinit := F_srinit.bindsN (ps := ["self", "way", "stock", "length"]) fun _ _ _ _ _ _ us hl => (by obtain ⟨_, _, _, _, rfl⟩ := lenL4 hl; exact rfl)
  have F_textat : FunD K "text_at" "Sorted.text_at" (defArgs s_textat) (defBody s_textat) (defScope s_textat) [] [] f39 _ := ⟨⟨oc39, od39, .none, kV39, dc39, pm39, an39, cd39, ct39, sl39, rfl, l39, c39, .inl ⟨rfl, rfl⟩, .inl rfl⟩, k39⟩
  have B_textat := F_textat.bindsN (ps := ["self", "mark", "number"]) fun _ _ _ _ _ _ us hl => (by obtain ⟨_, _, _, rfl⟩ := lenL3 hl; exact rfl)
  have F_numm : FunD K "number_of" "Sorted.number_of" (defArgs s_numm) (defBody s_numm) (defScope s_numm) [] [] f40 _ := ⟨⟨oc40, od40, .none, kV40, dc40, pm40, an40, cd40, ct40, sl40, rfl, l40, c40, .inl ⟨rfl, rfl⟩, .inl rfl⟩, k40⟩
  have B_numm := F_numm.bindsN (ps := ["self", "text"]) fun _ _ _ _ _ _ us hl => (by obtain ⟨_, _, rfl⟩ := lenL2 hl; exact rfl)
  have F_cntm : FunD K "count_marked" "count_marked" (defArgs s_cntm) (defBody s_cntm) (defScope s_cntm) [] [] f41 _ := ⟨⟨oc41, od41, .none, kV41, dc41, pm41, an41, cd41, ct41, sl41, rfl, l41, c41, .inl ⟨rfl, rfl⟩, .inl rfl⟩, k41⟩
  have B_cntm := F_cntm.bindsN (ps := ["way", "stock", "length", "mark"]) fun _ _ _ _ _ _ us hl => (by obtain ⟨_, _, _, _, rfl⟩ := lenL4 hl; exact rfl)
  have F_mkdt : FunD K "marked_text" "marked_text" (defArgs s_mkdt) (defBody s_mkdt) (defScope s_mkdt) [] [] f42 _ := ⟨⟨oc42, od42, .none, kV42, dc42, pm42, an42, cd42, ct42, sl42, rfl, l42, c42, .inl ⟨rfl, rfl⟩, .inl rfl⟩, k42⟩
  have B_mkdt := F_mkdt.bindsN (ps := ["way", "stock", "length", "mark", "number"]) fun _ _ _ _ _ _ us hl => (by obtain ⟨_, _, _, _, _, rfl⟩ := lenL5 hl; exact rfl)
  have F_numof : FunD K "number_of" "number_of" (defArgs s_numof) (defBody s_numof) (defScope s_numof) [] [] f43 _ := ⟨⟨oc43, od43, .none, kV43, dc43, pm43, an43, cd43, ct43, sl43, rfl, l43, c43, .inl ⟨rfl, rfl⟩, .inl rfl⟩, k43⟩
  have B_numof := F_numof.bindsN (ps := ["way", "stock", "text"]) fun _ _ _ _ _ _ us hl => (by obtain ⟨_, _, _, rfl⟩ := lenL3 hl; exact rfl)
  have F_markcounts : FunD K "mark_counts" "mark_counts" (defArgs s_markcounts) (defBody s_markcounts) (defScope s_markcounts) [] [] f44 _ := ⟨⟨oc44, od44, .none, kV44, dc44, pm44, an44, cd44, ct44, sl44, rfl, l44, c44, .inl ⟨rfl, rfl⟩, .inl rfl⟩, k44⟩
  have B_markcounts := F_markcounts.bindsN (ps := ["way", "stock", "length"]) fun _ _ _ _ _ _ us hl => (by obtain ⟨_, _, _, rfl⟩ := lenL3 hl; exact rfl)
  have F_evenfrom : FunD K "even_from" "even_from" (defArgs s_evenfrom) (defBody s_evenfrom) (defScope s_evenfrom) [] [] f45 _ := ⟨⟨oc45, od45, .none, kV45, dc45, pm45, an45, cd45, ct45, sl45, rfl, l45, c45, .inl ⟨rfl, rfl⟩, .inl rfl⟩, k45⟩
  have B_evenfrom := F_evenfrom.bindsN (ps := ["way", "stock"]) fun _ _ _ _ _ _ us hl => (by obtain ⟨_, _, rfl⟩ := lenL2 hl; exact rfl)
  have K_Cq : ClsF K Cq := ⟨⟨pgCq, hdCq, poCq, saCq⟩, haCq, objhn, objht, hmCq⟩
  have KSq : KSc K mg Cq := ⟨K_Cq, PySem.W.mg_of X G mCq, nCq_bases, nCq_number, nCq_low, nCq_zero⟩
  have F_scinit : FunD K "__init__" "Scale.__init__" (defArgs s_scinit) (defBody s_scinit) (defScope s_scinit) [] [] f46 _ := ⟨⟨oc46, od46, .none, kV46, dc46, pm46, an46, cd46, ct46, sl46, rfl, l46, c46, .inl ⟨rfl, rfl⟩, .inl rfl⟩, k46⟩
  have B_scinit := F_scinit.bindsN (ps := ["self", "bases", "number", "low"]) fun _ _ _ _ _ _ us hl => (by obtain ⟨_, _, _, _, rfl⟩ := lenL4 hl; exact rfl)
  have F_led : FunD K "led" "Scale.led" (defArgs s_led) (defBody s_led) (defScope s_led) [] [] f47 _ := ⟨⟨oc47, od47, .none, kV47, dc47, pm47, an47, cd47, ct47, sl47, rfl, l47, c47, .inl ⟨rfl, rfl⟩, .inl rfl⟩, k47⟩
  have B_led := F_led.bindsN (ps := ["self", "rests", "step"]) fun _ _ _ _ _ _ us hl => (by obtain ⟨_, _, _, rfl⟩ := lenL3 hl; exact rfl)
  have F_scweight : FunD K "weight" "Scale.weight" (defArgs s_scweight) (defBody s_scweight) (defScope s_scweight) [] [] f48 _ := ⟨⟨oc48, od48, .none, kV48, dc48, pm48, an48, cd48, ct48, sl48, rfl, l48, c48, .inl ⟨rfl, rfl⟩, .inl rfl⟩, k48⟩
  have B_scweight := F_scweight.bindsN (ps := ["self", "exponent"]) fun _ _ _ _ _ _ us hl => (by obtain ⟨_, _, rfl⟩ := lenL2 hl; exact rfl)
  have F_scweights : FunD K "weights" "Scale.weights" (defArgs s_scweights) (defBody s_scweights) (defScope s_scweights) [] [] f49 _ := ⟨⟨oc49, od49, .none, kV49, dc49, pm49, an49, cd49, ct49, sl49, rfl, l49, c49, .inl ⟨rfl, rfl⟩, .inl rfl⟩, k49⟩
  have B_scweights := F_scweights.bindsN (ps := ["self", "length"]) fun _ _ _ _ _ _ us hl => (by obtain ⟨_, _, rfl⟩ := lenL2 hl; exact rfl)
  have F_scmoved : FunD K "moved" "Scale.moved" (defArgs s_scmoved) (defBody s_scmoved) (defScope s_scmoved) [] [] f50 _ := ⟨⟨oc50, od50, .none, kV50, dc50, pm50, an50, cd50, ct50, sl50, rfl, l50, c50, .inl ⟨rfl, rfl⟩, .inl rfl⟩, k50⟩
  have B_scmoved := F_scmoved.bindsN (ps := ["self", "rests", "weight", "step"]) fun _ _ _ _ _ _ us hl => (by obtain ⟨_, _, _, _, rfl⟩ := lenL4 hl; exact rfl)
  have F_scneg : FunD K "negative" "Scale.negative" (defArgs s_scneg) (defBody s_scneg) (defScope s_scneg) [] [] f51 _ := ⟨⟨oc51, od51, .none, kV51, dc51, pm51, an51, cd51, ct51, sl51, rfl, l51, c51, .inl ⟨rfl, rfl⟩, .inl rfl⟩, k51⟩
  have B_scneg := F_scneg.bindsN (ps := ["self", "rests"]) fun _ _ _ _ _ _ us hl => (by obtain ⟨_, _, rfl⟩ := lenL2 hl; exact rfl)
  have F_scof : Dn K mg "scale_of" s_scof ["way"] := ⟨f52, _, fun_mk (st := s_scof) l52 c52 k52, PySem.W.mg_of X G a52, (fun_mk (st := s_scof) l52 c52 k52).binds (ps := ["way"]) fun _ _ _ _ _ _ us hl => (by obtain ⟨_, rfl⟩ := lenL1 hl; exact rfl)⟩
  have F_alltrue : Dn K mg "all_true" s_alltrue ["things"] := ⟨f53, _, fun_mk (st := s_alltrue) l53 c53 k53, PySem.W.mg_of X G a53, (fun_mk (st := s_alltrue) l53 c53 k53).binds (ps := ["things"]) fun _ _ _ _ _ _ us hl => (by obtain ⟨_, rfl⟩ := lenL1 hl; exact rfl)⟩
  have F_lstlen : Dn K mg "least_length" s_lstlen ["scale", "stock"] := ⟨f54, _, fun_mk (st := s_lstlen) l54 c54 k54, PySem.W.mg_of X G a54, (fun_mk (st := s_lstlen) l54 c54 k54).binds (ps := ["scale", "stock"]) fun _ _ _ _ _ _ us hl => (by obtain ⟨_, _, rfl⟩ := lenL2 hl; exact rfl)⟩
  have F_lwin : FunD K "least_window" "least_window" (defArgs s_lwin) (defBody s_lwin) (defScope s_lwin) [] [] f55 _ := ⟨⟨oc55, od55, .none, kV55, dc55, pm55, an55, cd55, ct55, sl55, rfl, l55, c55, .inl ⟨rfl, rfl⟩, .inl rfl⟩, k55⟩
  have B_lwin := F_lwin.bindsN (ps := ["way", "stock"]) fun _ _ _ _ _ _ us hl => (by obtain ⟨_, _, rfl⟩ := lenL2 hl; exact rfl)
  have zdict : mg "dict" = none := PySem.W.mg_none_of X G z_dict
  have F_sumsb : Dn K mg "sums_behind" s_sumsb ["scale", "weights", "ranges"] := ⟨f56, _, fun_mk (st := s_sumsb) l56 c56 k56, PySem.W.mg_of X G a56, (fun_mk (st := s_sumsb) l56 c56 k56).binds (ps := ["scale", "weights", "ranges"]) fun _ _ _ _ _ _ us hl => (by obtain ⟨_, _, _, rfl⟩ := lenL3 hl; exact rfl)⟩
  have F_unlsb : Dn K mg "unlike_sums_behind" s_unlsb ["scale", "weights", "ranges"] := ⟨f57, _, fun_mk (st := s_unlsb) l57 c57 k57, PySem.W.mg_of X G a57, (fun_mk (st := s_unlsb) l57 c57 k57).binds (ps := ["scale", "weights", "ranges"]) fun _ _ _ _ _ _ us hl => (by obtain ⟨_, _, _, rfl⟩ := lenL3 hl; exact rfl)⟩
  have F_goeson : Dn K mg "goes_on" s_goeson ["scale", "state", "every", "unlike"] := ⟨f58, _, fun_mk (st := s_goeson) l58 c58 k58, PySem.W.mg_of X G a58, (fun_mk (st := s_goeson) l58 c58 k58).binds (ps := ["scale", "state", "every", "unlike"]) fun _ _ _ _ _ _ us hl => (by obtain ⟨_, _, _, _, rfl⟩ := lenL4 hl; exact rfl)⟩
  have F_nextst : Dn K mg "next_states" s_nextst ["scale", "states", "weight", "letter", "stock"] := ⟨f59, _, fun_mk (st := s_nextst) l59 c59 k59, PySem.W.mg_of X G a59, (fun_mk (st := s_nextst) l59 c59 k59).binds (ps := ["scale", "states", "weight", "letter", "stock"]) fun _ _ _ _ _ _ us hl => (by obtain ⟨_, _, _, _, _, rfl⟩ := lenL5 hl; exact rfl)⟩
  have F_firstt : Dn K mg "first_text" s_firstt ["scale", "weights", "stock"] := ⟨f60, _, fun_mk (st := s_firstt) l60 c60 k60, PySem.W.mg_of X G a60, (fun_mk (st := s_firstt) l60 c60 k60).binds (ps := ["scale", "weights", "stock"]) fun _ _ _ _ _ _ us hl => (by obtain ⟨_, _, _, rfl⟩ := lenL3 hl; exact rfl)⟩
  have F_firsto : Dn K mg "first_other" s_firsto ["scale", "weights", "stock", "text"] := ⟨f61, _, fun_mk (st := s_firsto) l61 c61 k61, PySem.W.mg_of X G a61, (fun_mk (st := s_firsto) l61 c61 k61).binds (ps := ["scale", "weights", "stock", "text"]) fun _ _ _ _ _ _ us hl => (by obtain ⟨_, _, _, _, rfl⟩ := lenL4 hl; exact rfl)⟩
  have F_firstp : Dn K mg "first_pair" s_firstp ["scale", "stock"] := ⟨f62, _, fun_mk (st := s_firstp) l62 c62 k62, PySem.W.mg_of X G a62, (fun_mk (st := s_firstp) l62 c62 k62).binds (ps := ["scale", "stock"]) fun _ _ _ _ _ _ us hl => (by obtain ⟨_, _, rfl⟩ := lenL2 hl; exact rfl)⟩
  have F_winpair : FunD K "window_pair" "window_pair" (defArgs s_winpair) (defBody s_winpair) (defScope s_winpair) [] [] f63 _ := ⟨⟨oc63, od63, .none, kV63, dc63, pm63, an63, cd63, ct63, sl63, rfl, l63, c63, .inl ⟨rfl, rfl⟩, .inl rfl⟩, k63⟩
  have B_winpair := F_winpair.bindsN (ps := ["way", "stock"]) fun _ _ _ _ _ _ us hl => (by obtain ⟨_, _, rfl⟩ := lenL2 hl; exact rfl)
  have zset : mg "set" = none := PySem.W.mg_none_of X G z_set
  refine ⟨PySem.W.fnOf "law" "law" (defArgs s_law) (defBody s_law) (defScope s_law) .none kV64 dc64 pm64 an64 cd64 ct64, fun s v => .of_eq rfl, fun base _ _ => ?_⟩
  have c_isint := ok_isint (P := l.prog) (w := w) (K := K) (mg := mg) (base := base) F_isint T
  have c_raised := ok_raised (P := l.prog) (w := w) (K := K) (mg := mg) (base := base) F_raised T
  have c_prime := ok_prime (P := l.prog) (w := w) (K := K) (mg := mg) (base := base) F_prime T
  have c_isfac := ok_isfac F_isfac T c_isint c_prime
  have g_modinit := ok_modinit (c := ⟨Cm, Ck, Cw⟩) F_modinit T KX c_isfac c_raised
  have c_modinit : C8.Mak l.prog w K mg base 3 "Modulus" Cm (spModInit ⟨Cm, Ck, Cw⟩) [] := ⟨f30, _, _, _, ⟨mkCm, a30, i30, kcCm⟩, g_modinit, PySem.W.mg_of X G mCm, B_modinit, .nil⟩
  have c_reqmod := ok_reqmod (P := l.prog) (w := w) (K := K) (mg := mg) (base := base) F_reqmod T KX
  have c_istext := ok_istext F_istext T c_isint
  have c_read := ok_read (P := l.prog) (w := w) (K := K) (mg := mg) (base := base) F_read T
  have c_reqtext := ok_reqtext F_reqtext T c_istext c_read
  have c_reqstock := ok_reqstock F_reqstock T c_isint
  have g_mkinit := ok_mkinit (c := ⟨Cm, Ck, Cw⟩) F_mkinit T KX c_isint
  obtain ⟨ds0, vds0, bds0⟩ := F_mkinit.binds0 (ps := ["self", "low", "shift", "lead"]) 1 (by simp) rfl (fun _ _ _ _ _ _ us ks h1 h2 => match us, ks, h1, h2 with | [_], [_, _, _], _, _ => ⟨_, _, _, _, _, _, rfl, rfl, ⟨_, _, _, _, _, _, rfl, rfl, ⟨_, _, _, _, _, _, rfl, rfl, rfl⟩⟩⟩)
  have c_mk0 : C8.Mak l.prog w K mg base 2 "Marking" Ck (spMkInit ⟨Cm, Ck, Cw⟩) [.bl false, .int 0, .bl false] := ⟨f31, _, _, ds0, ⟨mkCk, a31, i31, kcCk⟩, g_mkinit, PySem.W.mg_of X G mCk, bds0, vds0⟩
  obtain ⟨mv3, kb3⟩ := F_mkinit.kbinds0 (ps := ["self", "low", "shift", "lead"]) 1 ["low", "shift", "lead"] [] (fun us _ ws => us ++ ws) (by simp) (fun q hq => by cases hq) (fun r1 _ r3 => r1.append r3) (fun _ _ _ _ _ _ us mv ws h1 h2 h3 => match us, ws, h1, h3 with | [_], [_, _, _], _, _ => rfl)
  have c_mk3 : MakK l.prog w K mg base 2 "Marking" Ck ["low", "shift", "lead"] (spMkInit ⟨Cm, Ck, Cw⟩) (fun vs zs => vs ++ zs) := ⟨f31, _, _, _, ⟨mkCk, a31, i31, kcCk⟩, g_mkinit, PySem.W.mg_of X G mCk, kb3⟩
  have g_hf := ok_hf (P := l.prog) (w := w) (base := base) (c := ⟨Cm, Ck, Cw⟩) F_hf T KX
  have c_hf : C8.Met l.prog w K mg base 1 Ck "highest_first" (spHf ⟨Cm, Ck, Cw⟩) [] := ⟨f32, _, _, [], KX.kg.cl, ⟨a32, i32, k32⟩, g_hf, B_hf, .nil⟩
  have c_mkof := ok_mkof F_mkof T KX c_mk0
  have c_restat := ok_restat (P := l.prog) (w := w) (K := K) (mg := mg) (base := base) F_restat T
  have g_way := ok_wayinit (c := ⟨Cm, Ck, Cw⟩) F_wayinit T KX c_isint c_reqmod c_mkof
  obtain ⟨dw2, vw2, bw2⟩ := F_wayinit.binds1 (ps := ["self", "base", "modulus", "marking"]) 3 0 (by simp) rfl (fun _ _ _ _ _ _ _ us its h1 h2 => match us, its, h1, h2 with | [_, _, _], [_], _, _ => ⟨_, rfl, rfl⟩)
  have c_way2 : C8.Mak l.prog w K mg base 5 "Way" Cw (spWayInit ⟨Cm, Ck, Cw⟩) [.non] := ⟨f33, _, _, dw2, ⟨mkCw, a33, i33, kcCw⟩, g_way, PySem.W.mg_of X G mCw, bw2, vw2⟩
  obtain ⟨dw3, vw3, bw3⟩ := F_wayinit.binds1 (ps := ["self", "base", "modulus", "marking"]) 4 1 (by simp) rfl (fun _ _ _ _ _ _ _ us its h1 h2 => match us, its, h1, h2 with | [_, _, _, _], [_], _, _ => ⟨_, rfl, rfl⟩)
  have c_way3 : C8.Mak l.prog w K mg base 5 "Way" Cw (spWayInit ⟨Cm, Ck, Cw⟩) [] := ⟨f33, _, _, dw3, ⟨mkCw, a33, i33, kcCw⟩, g_way, PySem.W.mg_of X G mCw, bw3, vw3⟩
  have g_ofl := ok_ofl (c := ⟨Cm, Ck, Cw⟩) F_ofl T KX c_restat c_hf
  have c_ofl : C8.Met l.prog w K mg base 2 Cw "of_letters" (spOfLetters ⟨Cm, Ck, Cw⟩) [] := ⟨f34, _, _, [], KX.wy.cl, ⟨a34, i34, k34⟩, g_ofl, B_ofl, .nil⟩
  have g_call := ok_call (c := ⟨Cm, Ck, Cw⟩) F_call T KX c_reqtext c_ofl
  have c_callO : CalO l.prog w K mg base 4 Cw (spMarkOf ⟨Cm, Ck, Cw⟩) := ⟨f35, ⟨a35, i35, fi35⟩, (g_call.raw B_call .nil).imp fun vs H Q E h => by rw [List.append_nil]; exact h⟩
  have c_reqway := ok_reqway (P := l.prog) (w := w) (K := K) (mg := mg) (base := base) F_reqway T KX
  have c_mixed := ok_mixed (P := l.prog) (w := w) (K := K) (mg := mg) (base := base) F_mixed T
  have c_purse := ok_purse (P := l.prog) (w := w) (K := K) (mg := mg) (base := base) F_purse T
  have c_draw := ok_draw F_draw T c_mixed
  have c_great := ok_great F_great T c_draw
  have c_style := ok_style F_style T c_draw c_great
  have c_marking := ok_marking (ca := ⟨Cm, Ck, Cw⟩) F_marking T c_mk3
  have c_root := ok_root F_root T c_draw c_great
  have c_reqlen := ok_reqlen F_reqlen T c_isint
  have c_reqmark := ok_reqmark F_reqmark T KX c_isint
  have c_countsof := ok_countsof (P := l.prog) (w := w) (K := K) (mg := mg) (base := base) (c := ⟨Cm, Ck, Cw⟩) F_countsof T KX
  have c_power := ok_power (P := l.prog) (w := w) (K := K) (mg := mg) (base := base) F_power T
  have c_wtsof := ok_wtsof (c := ⟨Cm, Ck, Cw⟩) F_wtsof T KX c_power
  have g_summ := ok_summ (P := l.prog) (w := w) (base := base) (c := ⟨Cm, Ck, Cw⟩) F_summ T KX KS
  have c_summ : C8.Met l.prog w K mg base 1 Cs "summand" (spSummand ⟨Cm, Ck, Cw⟩ Cs) [] := ⟨f36, _, _, [], KS.cl.cl, ⟨a36, i36, k36⟩, g_summ, B_summ, .nil⟩
  have g_ahead := ok_ahead (c := ⟨Cm, Ck, Cw⟩) F_ahead T KX KS c_summ
  have c_ahead : C8.Met l.prog w K mg base 2 Cs "counted_ahead" (spAhead ⟨Cm, Ck, Cw⟩ Cs) [] := ⟨f37, _, _, [], KS.cl.cl, ⟨a37, i37, k37⟩, g_ahead, B_ahead, .nil⟩
  have g_srinit := ok_srinit (c := ⟨Cm, Ck, Cw⟩) F_srinit T KX KS c_power c_wtsof c_ahead
  have c_srt : C8.Mak l.prog w K mg base 3 "Sorted" Cs (spSrInit ⟨Cm, Ck, Cw⟩ Cs) [] := ⟨f38, _, _, _, ⟨mkCs, a38, i38, kcCs⟩, g_srinit, PySem.W.mg_of X G mCs, B_srinit, .nil⟩
  have g_textat := ok_textat (c := ⟨Cm, Ck, Cw⟩) F_textat T KX KS c_summ
  have c_textat : C8.Met l.prog w K mg base 2 Cs "text_at" (spTextAt ⟨Cm, Ck, Cw⟩ Cs) [] := ⟨f39, _, _, [], KS.cl.cl, ⟨a39, i39, k39⟩, g_textat, B_textat, .nil⟩
  have g_numm := ok_numm (c := ⟨Cm, Ck, Cw⟩) F_numm T KX KS c_ofl c_summ
  have c_numm : C8.Met l.prog w K mg base 3 Cs "number_of" (spNumM ⟨Cm, Ck, Cw⟩ Cs) [] := ⟨f40, _, _, [], KS.cl.cl, ⟨a40, i40, k40⟩, g_numm, B_numm, .nil⟩
  have g_cntm := ok_cntm (c := ⟨Cm, Ck, Cw⟩) F_cntm T KX c_reqway c_reqstock c_reqlen c_reqmark c_countsof
  have c_cntm : C8.Cal l.prog w K mg base 3 "count_marked" (spCountM ⟨Cm, Ck, Cw⟩) [] := ⟨f41, _, _, [], g_cntm, PySem.W.mg_of X G a41, k41, B_cntm, .nil⟩
  have g_numof := ok_numof (c := ⟨Cm, Ck, Cw⟩) (Cs := Cs) F_numof T KX c_reqway c_reqstock c_reqtext c_srt c_numm
  have c_numof : C8.Cal l.prog w K mg base 5 "number_of" (spNumberOf ⟨Cm, Ck, Cw⟩) [] := ⟨f43, _, _, [], g_numof, PySem.W.mg_of X G a43, k43, B_numof, .nil⟩
  have g_mkdt := ok_mkdt (c := ⟨Cm, Ck, Cw⟩) (Cs := Cs) F_mkdt T KX c_isint c_cntm c_srt c_textat
  have c_mkdt : C8.Cal l.prog w K mg base 5 "marked_text" (spMarkedT ⟨Cm, Ck, Cw⟩) [] := ⟨f42, _, _, [], g_mkdt, PySem.W.mg_of X G a42, k42, B_mkdt, .nil⟩
  have g_markcounts := ok_markcounts (c := ⟨Cm, Ck, Cw⟩) F_markcounts T KX c_reqway c_reqstock c_reqlen c_countsof
  have c_markcounts : C8.Cal l.prog w K mg base 3 "mark_counts" (spCounts ⟨Cm, Ck, Cw⟩) [] := ⟨f44, _, _, [], g_markcounts, PySem.W.mg_of X G a44, k44, B_markcounts, .nil⟩
  have c_expin := ok_expin (P := l.prog) (w := w) (K := K) (mg := mg) (base := base) F_expin T
  have c_metfrom := ok_metfrom F_metfrom T KX c_expin
  have g_evenfrom := ok_evenfrom (c := ⟨Cm, Ck, Cw⟩) F_evenfrom T KX c_reqway c_reqstock c_metfrom
  have c_evenfrom : C8.Cal l.prog w K mg base 3 "even_from" (spEvenFrom ⟨Cm, Ck, Cw⟩) [] := ⟨f45, _, _, [], g_evenfrom, PySem.W.mg_of X G a45, k45, B_evenfrom, .nil⟩
  have g_scinit := ok_scinit (P := l.prog) (w := w) (base := base) F_scinit T KSq
  have c_sc : C8.Mak l.prog w K mg base 1 "Scale" Cq (spScInit Cq) [] := ⟨f46, _, _, _, ⟨mkCq, a46, i46, kcCq⟩, g_scinit, PySem.W.mg_of X G mCq, B_scinit, .nil⟩
  have g_led := ok_led (P := l.prog) (w := w) (base := base) F_led T KSq
  have c_led : C8.Met l.prog w K mg base 1 Cq "led" (spLed Cq) [] := ⟨f47, _, _, [], KSq.cl.cl, ⟨a47, i47, k47⟩, g_led, B_led, .nil⟩
  have c_scof := ok_scof (c := ⟨Cm, Ck, Cw⟩) (Cq := Cq) F_scof T KX c_sc
  have c_alltrue := ok_alltrue (P := l.prog) (w := w) (K := K) (mg := mg) (base := base) F_alltrue T
  have c_lstlen := ok_lstlen (Cq := Cq) F_lstlen T KSq c_led c_alltrue
  have g_lwin := ok_lwin (c := ⟨Cm, Ck, Cw⟩) (Cq := Cq) F_lwin T KX c_reqway c_reqstock c_scof c_lstlen
  have c_lwin : C8.Cal l.prog w K mg base 4 "least_window" (spLeastWin ⟨Cm, Ck, Cw⟩) [] := ⟨f55, _, _, [], g_lwin, PySem.W.mg_of X G a55, k55, B_lwin, .nil⟩
  have g_scweight := ok_scweight (P := l.prog) (w := w) (base := base) (Cq := Cq) F_scweight T KSq c_power
  have c_scweight : C8.Met l.prog w K mg base 2 Cq "weight" (spScW Cq) [] := ⟨f48, _, _, [], KSq.cl.cl, ⟨a48, i48, k48⟩, g_scweight, B_scweight, .nil⟩
  have g_scweights := ok_scweights (P := l.prog) (w := w) (base := base) (Cq := Cq) F_scweights T KSq c_scweight
  have c_scweights : C8.Met l.prog w K mg base 3 Cq "weights" (spWeights Cq) [] := ⟨f49, _, _, [], KSq.cl.cl, ⟨a49, i49, k49⟩, g_scweights, B_scweights, .nil⟩
  have g_scmoved := ok_scmoved (P := l.prog) (w := w) (base := base) (Cq := Cq) F_scmoved T KSq
  have c_scmoved : C8.Met l.prog w K mg base 1 Cq "moved" (spMoved Cq) [] := ⟨f50, _, _, [], KSq.cl.cl, ⟨a50, i50, k50⟩, g_scmoved, B_scmoved, .nil⟩
  have g_scneg := ok_scneg (P := l.prog) (w := w) (base := base) (Cq := Cq) F_scneg T KSq
  have c_scneg : C8.Met l.prog w K mg base 1 Cq "negative" (spNegat Cq) [] := ⟨f51, _, _, [], KSq.cl.cl, ⟨a51, i51, k51⟩, g_scneg, B_scneg, .nil⟩
  have c_sumsb := ok_sumsb (Cq := Cq) (ap := Hap l.prog w) F_sumsb T KSq c_scmoved c_alltrue
  have c_unlsb := ok_unlsb (Cq := Cq) F_unlsb T zdict KSq c_scmoved c_alltrue c_sumsb
  have c_goeson := ok_goeson (Cq := Cq) F_goeson T KSq c_scneg
  have c_nextst := ok_nextst (Cq := Cq) F_nextst T KSq c_scmoved
  have c_firstt := ok_firstt (Cq := Cq) F_firstt T KSq c_sumsb c_unlsb c_goeson c_nextst
  have c_firsto := ok_firsto (Cq := Cq) F_firsto T KSq c_scmoved c_sumsb c_unlsb c_goeson
  have c_firstp := ok_firstp (Cq := Cq) F_firstp T KSq c_lstlen c_scweights c_firstt c_firsto
  have g_winpair := ok_winpair (c := ⟨Cm, Ck, Cw⟩) (Cq := Cq) F_winpair T KX c_reqway c_reqstock c_scof c_firstp
  have c_winpair : C8.Cal l.prog w K mg base 6 "window_pair" (spWinPair l.prog w ⟨Cm, Ck, Cw⟩) [] := ⟨f63, _, _, [], g_winpair, PySem.W.mg_of X G a63, k63, B_winpair, .nil⟩
  have c_mod2 := ok_mod2 F_mod2 T c_draw
  have c_most90 := ok_most90 (P := l.prog) (w := w) (K := K) (mg := mg) (base := base) F_most90 T
  have c_right := ok_right F_right T KX zset c_draw c_mod2 c_root c_style c_marking c_modinit c_way3 c_markcounts c_evenfrom c_cntm c_mkdt c_numof c_callO c_lwin c_winpair c_most90
  exact ok_law (fun_mk (st := s_law) l64 c64 k64) T c_purse c_right
theorem walk {l : PySem.W.OpenLaw} {q : Program} {loose : List Str} {XP : (Str → Option Value) → Heap → Prop} {YP : World → Heap → Prop} {d : DefRec} {K : Params → PySem.W.Frag} (hn : l.most = some 63) (hdf : d.params.defaults = [])
    (hY : ∀ (w : World) (h : Heap), YP w h → (K w.params).In h)
    (F : ∀ (w : World) (mg : Str → Option Value) (fa : Addr) (h : Heap), (K w.params).In h → h.Ns mainGlobals mg → mg d.name = some (.ref fa) →
      ∃ fd : FuncData, (∀ (s : Shared) (u : Value), BindsTo s fd ⟨[u], []⟩ [("_law_script", u)]) ∧ ∀ base : Heap, (K w.params).In base → base.Ns mainGlobals mg → FnOk l.prog w (K w.params) mg base L2.CX0 8 fa fd ["_law_script"] (spLaw (K w.params))) :
    PySem.W.WalkO q loose XP YP l.row.toRowW d [] (fun f vs => PySem.call f vs) :=
  L2.walk_of (n := 63) (k := 8) (x := "_law_script") (CX := fun _ => L2.CX0) (sp := fun w => spLaw (K w.params)) hn (by decide) hdf ⟨rfl, by decide, by decide⟩ hY F (fun _ _ a ns hl _ hS => ⟨a, ns, rfl, hS, hl, fun _ => rfl⟩) fun _ _ _ _ _ z => z
end Lw
open PySem PySem.W PyProof.Rows in
set_option maxRecDepth 100000 in
set_option maxHeartbeats 0 in
theorem PySem.Challenge.cw_baseclash_k90_whole_windows_and_counts_holds : PySem.Challenge.rw_baseclash_k90_whole_windows_and_counts.Holds := by
  w_on; o_law; k_head; (case hw => w_witness2)
  k_fill
  refine Lw.walk (l := PySem.Challenge.rw_baseclash_k90_whole_windows_and_counts) rfl rfl (fun w h Y => PySem.W.kIn_of Y) ?F
  case F =>
    intro w mg fa h KX G hmg
    refine' Lw.all_mk KX G hmg ?z_len ?z_int ?z_abs ?z_max ?z_min ?z_range ?z_isinstance ?z_list ?z_tuple ?z_str ?z_bool ?z_ord ?z_all ?z_enumerate ?z_zip ?mCm ?pgCm ?hdCm ?poCm ?saCm ?haCm ?hmCm ?mkCm ?kcCm ?objhn ?objht ?mCk ?pgCk ?hdCk ?poCk ?saCk ?haCk ?hmCk ?mkCk ?kcCk ?mCw ?pgCw ?hdCw ?poCw ?saCw ?haCw ?hmCw ?mkCw ?kcCw ?nCm_number ?nCm_factors ?nCk_low ?nCk_shift ?nCk_lead ?nCw_marking ?nCw_modulus ?nCw_number ?nCw_base ?a1 ?l1 ?c1 ?k1 ?a2 ?l2 ?c2 ?k2 ?a3 ?l3 ?c3 ?k3 ?a4 ?l4 ?c4 ?k4 ?a5 ?l5 ?c5 ?k5 ?a6 ?l6 ?c6 ?k6 ?a7 ?l7 ?c7 ?k7 ?a8 ?l8 ?c8 ?k8 ?a9 ?l9 ?c9 ?k9 ?a10 ?l10 ?c10 ?k10 ?a11 ?l11 ?c11 ?k11 ?a12 ?l12 ?c12 ?k12 ?a13 ?l13 ?c13 ?k13 ?a14 ?l14 ?c14 ?k14 ?a15 ?l15 ?c15 ?k15 ?a16 ?l16 ?c16 ?k16 ?a17 ?l17 ?c17 ?k17 ?a18 ?l18 ?c18 ?k18 ?a19 ?l19 ?c19 ?k19 ?a20 ?l20 ?c20 ?k20 ?a21 ?l21 ?c21 ?k21 ?a22 ?l22 ?c22 ?k22 ?a23 ?l23 ?c23 ?k23 ?a24 ?l24 ?c24 ?k24 ?a25 ?l25 ?c25 ?k25 ?a26 ?l26 ?c26 ?k26 ?a27 ?l27 ?c27 ?k27 ?a28 ?l28 ?c28 ?k28 ?a29 ?l29 ?c29 ?k29 ?a30 ?i30 ?l30 ?c30 ?k30 ?a31 ?i31 ?l31 ?c31 ?k31 ?d31_0 ?d31_1 ?d31_2 ?a32 ?i32 ?l32 ?c32 ?k32 ?a33 ?i33 ?l33 ?c33 ?k33 ?t33 ?a34 ?i34 ?l34 ?c34 ?k34 ?a35 ?i35 ?l35 ?c35 ?k35 ?mCs ?pgCs ?hdCs ?poCs ?saCs ?haCs ?hmCs ?mkCs ?kcCs ?nCs_way ?nCs_stock ?nCs_scales ?nCs_lead ?nCs_counts ?a36 ?i36 ?l36 ?c36 ?k36 ?a37 ?i37 ?l37 ?c37 ?k37 ?a38 ?i38 ?l38 ?c38 ?k38 ?a39 ?i39 ?l39 ?c39 ?k39 ?a40 ?i40 ?l40 ?c40 ?k40 ?a41 ?l41 ?c41 ?k41 ?a42 ?l42 ?c42 ?k42 ?a43 ?l43 ?c43 ?k43 ?a44 ?l44 ?c44 ?k44 ?a45 ?l45 ?c45 ?k45 ?mCq ?pgCq ?hdCq ?poCq ?saCq ?haCq ?hmCq ?mkCq ?kcCq ?nCq_bases ?nCq_number ?nCq_low ?nCq_zero ?a46 ?i46 ?l46 ?c46 ?k46 ?a47 ?i47 ?l47 ?c47 ?k47 ?a48 ?i48 ?l48 ?c48 ?k48 ?a49 ?i49 ?l49 ?c49 ?k49 ?a50 ?i50 ?l50 ?c50 ?k50 ?a51 ?i51 ?l51 ?c51 ?k51 ?a52 ?l52 ?c52 ?k52 ?a53 ?l53 ?c53 ?k53 ?a54 ?l54 ?c54 ?k54 ?a55 ?l55 ?c55 ?k55 ?z_dict ?a56 ?l56 ?c56 ?k56 ?a57 ?l57 ?c57 ?k57 ?a58 ?l58 ?c58 ?k58 ?a59 ?l59 ?c59 ?k59 ?a60 ?l60 ?c60 ?k60 ?a61 ?l61 ?c61 ?k61 ?a62 ?l62 ?c62 ?k62 ?a63 ?l63 ?c63 ?k63 ?z_set ?a64 ?l64 ?c64 ?k64 ?fi35
    (case z_len => k_is)
    (case z_int => k_is)
    (case z_abs => k_is)
    (case z_max => k_is)
    (case z_min => k_is)
    (case z_range => k_is)
    (case z_isinstance => k_is)
    (case z_list => k_is)
    (case z_tuple => k_is)
    (case z_str => k_is)
    (case z_bool => k_is)
    (case z_ord => k_is)
    (case z_all => k_is)
    (case z_enumerate => k_is)
    (case z_zip => k_is)
    (case mCm => k_is)
    (case pgCm => k_is)
    (case hdCm => k_is)
    (case poCm => k_is)
    (case saCm => k_is)
    (case haCm => k_is)
    (case hmCm => k_is)
    (case mkCm => k_is)
    (case kcCm => k_is)
    (case objhn => k_is)
    (case objht => k_is)
    (case mCk => k_is)
    (case pgCk => k_is)
    (case hdCk => k_is)
    (case poCk => k_is)
    (case saCk => k_is)
    (case haCk => k_is)
    (case hmCk => k_is)
    (case mkCk => k_is)
    (case kcCk => k_is)
    (case mCw => k_is)
    (case pgCw => k_is)
    (case hdCw => k_is)
    (case poCw => k_is)
    (case saCw => k_is)
    (case haCw => k_is)
    (case hmCw => k_is)
    (case mkCw => k_is)
    (case kcCw => k_is)
    (case nCm_number => k_is)
    (case nCm_factors => k_is)
    (case nCk_low => k_is)
    (case nCk_shift => k_is)
    (case nCk_lead => k_is)
    (case nCw_marking => k_is)
    (case nCw_modulus => k_is)
    (case nCw_number => k_is)
    (case nCw_base => k_is)
    (case a1 => k_is)
    (case l1 => k_is)
    (case c1 => k_is)
    (case k1 => k_is)
    (case a2 => k_is)
    (case l2 => k_is)
    (case c2 => k_is)
    (case k2 => k_is)
    (case a3 => k_is)
    (case l3 => k_is)
    (case c3 => k_is)
    (case k3 => k_is)
    (case a4 => k_is)
    (case l4 => k_is)
    (case c4 => k_is)
    (case k4 => k_is)
    (case a5 => k_is)
    (case l5 => k_is)
    (case c5 => k_is)
    (case k5 => k_is)
    (case a6 => k_is)
    (case l6 => k_is)
    (case c6 => k_is)
    (case k6 => k_is)
    (case a7 => k_is)
    (case l7 => k_is)
    (case c7 => k_is)
    (case k7 => k_is)
    (case a8 => k_is)
    (case l8 => k_is)
    (case c8 => k_is)
    (case k8 => k_is)
    (case a9 => k_is)
    (case l9 => k_is)
    (case c9 => k_is)
    (case k9 => k_is)
    (case a10 => k_is)
    (case l10 => k_is)
    (case c10 => k_is)
    (case k10 => k_is)
    (case a11 => k_is)
    (case l11 => k_is)
    (case c11 => k_is)
    (case k11 => k_is)
    (case a12 => k_is)
    (case l12 => k_is)
    (case c12 => k_is)
    (case k12 => k_is)
    (case a13 => k_is)
    (case l13 => k_is)
    (case c13 => k_is)
    (case k13 => k_is)
    (case a14 => k_is)
    (case l14 => k_is)
    (case c14 => k_is)
    (case k14 => k_is)
    (case a15 => k_is)
    (case l15 => k_is)
    (case c15 => k_is)
    (case k15 => k_is)
    (case a16 => k_is)
    (case l16 => k_is)
    (case c16 => k_is)
    (case k16 => k_is)
    (case a17 => k_is)
    (case l17 => k_is)
    (case c17 => k_is)
    (case k17 => k_is)
    (case a18 => k_is)
    (case l18 => k_is)
    (case c18 => k_is)
    (case k18 => k_is)
    (case a19 => k_is)
    (case l19 => k_is)
    (case c19 => k_is)
    (case k19 => k_is)
    (case a20 => k_is)
    (case l20 => k_is)
    (case c20 => k_is)
    (case k20 => k_is)
    (case a21 => k_is)
    (case l21 => k_is)
    (case c21 => k_is)
    (case k21 => k_is)
    (case a22 => k_is)
    (case l22 => k_is)
    (case c22 => k_is)
    (case k22 => k_is)
    (case a23 => k_is)
    (case l23 => k_is)
    (case c23 => k_is)
    (case k23 => k_is)
    (case a24 => k_is)
    (case l24 => k_is)
    (case c24 => k_is)
    (case k24 => k_is)
    (case a25 => k_is)
    (case l25 => k_is)
    (case c25 => k_is)
    (case k25 => k_is)
    (case a26 => k_is)
    (case l26 => k_is)
    (case c26 => k_is)
    (case k26 => k_is)
    (case a27 => k_is)
    (case l27 => k_is)
    (case c27 => k_is)
    (case k27 => k_is)
    (case a28 => k_is)
    (case l28 => k_is)
    (case c28 => k_is)
    (case k28 => k_is)
    (case a29 => k_is)
    (case l29 => k_is)
    (case c29 => k_is)
    (case k29 => k_is)
    (case a30 => k_is)
    (case i30 => k_is)
    (case l30 => k_is)
    (case c30 => k_is)
    (case k30 => k_is)
    (case a31 => k_is)
    (case i31 => k_is)
    (case l31 => k_is)
    (case c31 => k_is)
    (case k31 => k_is)
    (case d31_0 => k_is)
    (case d31_1 => k_is)
    (case d31_2 => k_is)
    (case a32 => k_is)
    (case i32 => k_is)
    (case l32 => k_is)
    (case c32 => k_is)
    (case k32 => k_is)
    (case a33 => k_is)
    (case i33 => k_is)
    (case l33 => k_is)
    (case c33 => k_is)
    (case k33 => k_is)
    (case t33 => k_is)
    (case a34 => k_is)
    (case i34 => k_is)
    (case l34 => k_is)
    (case c34 => k_is)
    (case k34 => k_is)
    (case a35 => k_is)
    (case i35 => k_is)
    (case l35 => k_is)
    (case c35 => k_is)
    (case k35 => k_is)
    (case mCs => k_is)
    (case pgCs => k_is)
    (case hdCs => k_is)
    (case poCs => k_is)
    (case saCs => k_is)
    (case haCs => k_is)
    (case hmCs => k_is)
    (case mkCs => k_is)
    (case kcCs => k_is)
    (case nCs_way => k_is)
    (case nCs_stock => k_is)
    (case nCs_scales => k_is)
    (case nCs_lead => k_is)
    (case nCs_counts => k_is)
    (case a36 => k_is)
    (case i36 => k_is)
    (case l36 => k_is)
    (case c36 => k_is)
    (case k36 => k_is)
    (case a37 => k_is)
    (case i37 => k_is)
    (case l37 => k_is)
    (case c37 => k_is)
    (case k37 => k_is)
    (case a38 => k_is)
    (case i38 => k_is)
    (case l38 => k_is)
    (case c38 => k_is)
    (case k38 => k_is)
    (case a39 => k_is)
    (case i39 => k_is)
    (case l39 => k_is)
    (case c39 => k_is)
    (case k39 => k_is)
    (case a40 => k_is)
    (case i40 => k_is)
    (case l40 => k_is)
    (case c40 => k_is)
    (case k40 => k_is)
    (case a41 => k_is)
    (case l41 => k_is)
    (case c41 => k_is)
    (case k41 => k_is)
    (case a42 => k_is)
    (case l42 => k_is)
    (case c42 => k_is)
    (case k42 => k_is)
    (case a43 => k_is)
    (case l43 => k_is)
    (case c43 => k_is)
    (case k43 => k_is)
    (case a44 => k_is)
    (case l44 => k_is)
    (case c44 => k_is)
    (case k44 => k_is)
    (case a45 => k_is)
    (case l45 => k_is)
    (case c45 => k_is)
    (case k45 => k_is)
    (case mCq => k_is)
    (case pgCq => k_is)
    (case hdCq => k_is)
    (case poCq => k_is)
    (case saCq => k_is)
    (case haCq => k_is)
    (case hmCq => k_is)
    (case mkCq => k_is)
    (case kcCq => k_is)
    (case nCq_bases => k_is)
    (case nCq_number => k_is)
    (case nCq_low => k_is)
    (case nCq_zero => k_is)
    (case a46 => k_is)
    (case i46 => k_is)
    (case l46 => k_is)
    (case c46 => k_is)
    (case k46 => k_is)
    (case a47 => k_is)
    (case i47 => k_is)
    (case l47 => k_is)
    (case c47 => k_is)
    (case k47 => k_is)
    (case a48 => k_is)
    (case i48 => k_is)
    (case l48 => k_is)
    (case c48 => k_is)
    (case k48 => k_is)
    (case a49 => k_is)
    (case i49 => k_is)
    (case l49 => k_is)
    (case c49 => k_is)
    (case k49 => k_is)
    (case a50 => k_is)
    (case i50 => k_is)
    (case l50 => k_is)
    (case c50 => k_is)
    (case k50 => k_is)
    (case a51 => k_is)
    (case i51 => k_is)
    (case l51 => k_is)
    (case c51 => k_is)
    (case k51 => k_is)
    (case a52 => k_is)
    (case l52 => k_is)
    (case c52 => k_is)
    (case k52 => k_is)
    (case a53 => k_is)
    (case l53 => k_is)
    (case c53 => k_is)
    (case k53 => k_is)
    (case a54 => k_is)
    (case l54 => k_is)
    (case c54 => k_is)
    (case k54 => k_is)
    (case a55 => k_is)
    (case l55 => k_is)
    (case c55 => k_is)
    (case k55 => k_is)
    (case z_dict => k_is)
    (case a56 => k_is)
    (case l56 => k_is)
    (case c56 => k_is)
    (case k56 => k_is)
    (case a57 => k_is)
    (case l57 => k_is)
    (case c57 => k_is)
    (case k57 => k_is)
    (case a58 => k_is)
    (case l58 => k_is)
    (case c58 => k_is)
    (case k58 => k_is)
    (case a59 => k_is)
    (case l59 => k_is)
    (case c59 => k_is)
    (case k59 => k_is)
    (case a60 => k_is)
    (case l60 => k_is)
    (case c60 => k_is)
    (case k60 => k_is)
    (case a61 => k_is)
    (case l61 => k_is)
    (case c61 => k_is)
    (case k61 => k_is)
    (case a62 => k_is)
    (case l62 => k_is)
    (case c62 => k_is)
    (case k62 => k_is)
    (case a63 => k_is)
    (case l63 => k_is)
    (case c63 => k_is)
    (case k63 => k_is)
    (case z_set => k_is)
    (case a64 => k_is)
    (case l64 => k_is)
    (case c64 => k_is)
    (case k64 => k_is)
    (case fi35 => k_is)
