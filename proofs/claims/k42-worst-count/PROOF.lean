import PyProof.Rows.All
import Wide.All
import OpenK.AllK
import Wide.FinOn
import HandS.ForMost
import HandS.Codes
import HandS.Style
import HandS.Flow
import HandS.Wide
import HandS.WideBits
import HandS.Defaults
import HandS.MakeKwOnly
import HandS.MakeKw
import HandS.Star
import HandS.IsInst
import HandS.Steps
import HandS.Walk
import HandS.Conv
import HandS.NoneIn
import HandS.Exc
import HandS.ExcOwn
import HandS.ExcInit
import HandS.ExcField
import HandS.CallSlots
import HandS.TryOnly
import HandS.TryMany
import HandS.WordsExc
import KE.GoesMore
import HandS.TupAny
import HandS.SetFor
import HandS.Set
import PyProof.Rows.SetFrom
import HandS.Strs
import HandS.Deep
import HandS.Dict
import HandS.DictComp
import HandS.Iter
import HandS.Small
import PySem.Challenge.RW_baseclash_k42_the_worst_count
set_option Elab.async false
set_option maxRecDepth 100000
set_option linter.all false
namespace Bc
open PySem PySem.Spec PyProof.Rows L2
section
variable {X : Cx}
noncomputable def rLen (K : PySem.W.Frag) : List V → Hp → VK → Prop := fun xs H Q => ∃ p ys, xs = [.ref p] ∧ (SqL K H p ys ∨ SqT K H p ys) ∧ Q (.int ys.length) H
theorem cLen : CallR X (.builtin "len") (rLen X.K) := call_len_seq
noncomputable def rAbs : List V → Hp → VK → Prop := fun xs H Q => ∃ i, xs = [.int i] ∧ Q (.int (if i < 0 then -i else i)) H
noncomputable def rMax2 : List V → Hp → VK → Prop := fun xs H Q => ∃ i j, xs = [.int i, .int j] ∧ Q (.int (if j > i then j else i)) H
theorem cMax2 (hc : X.calm = true) : CallR X (.builtin "max") rMax2 := call_max2 hc
noncomputable def rMin2 : List V → Hp → VK → Prop := fun xs H Q => ∃ i j, xs = [.int i, .int j] ∧ Q (.int (if j < i then j else i)) H
theorem cMin2 (hc : X.calm = true) : CallR X (.builtin "min") rMin2 := call_min2 hc
noncomputable def rInt1 : List V → Hp → VK → Prop := fun xs H Q => (∃ i, xs = [.int i] ∧ Q (.int i) H) ∨ ∃ k, xs = [.bl k] ∧ Q (.int (if k then 1 else 0)) H
theorem cInt1 : CallR X (.type "int") rInt1 := call_int1
noncomputable def rOrd : List V → Hp → VK → Prop := fun xs H Q => ∃ x, xs = [.str x] ∧ x.length = 1 ∧ Q (.int (x.cps.getD 0 0 : Nat)) H
noncomputable def rListOf (K : PySem.W.Frag) : List V → Hp → VK → Prop := fun xs H Q => ∃ p ys, xs = [.ref p] ∧ (SqL K H p ys ∨ SqT K H p ys) ∧ ∀ l, H l = none → Q (.ref l) (upd H l (.lst ys))
theorem cListOf : CallR X (.type "list") (rListOf X.K) := call_list_of
noncomputable def rTupOf (K : PySem.W.Frag) : List V → Hp → VK → Prop := fun xs H Q => ∃ p ys, xs = [.ref p] ∧ ((SqL K H p ys ∧ ∀ l, H l = none → Q (.ref l) (upd H l (.tup ys))) ∨ (SqT K H p ys ∧ Q (.ref p) H))
theorem cTupOf : CallR X (.type "tuple") (rTupOf X.K) := call_tuple_of
noncomputable def rLeS : R2 := fun x y H Q => ∃ i j, x = .str i ∧ y = .str j ∧ Q (.bl (!decide (j.cps.toList < i.cps.toList))) H
noncomputable def CPowW (i j : Int) : Prop := 0 ≤ j ∧ (Builtin.Int.intBits i : Int) * j ≤ 2 ^ 27
theorem oPowW : OpR X (binaryOp .Pow) (rI CPowW fun i j => .int (i ^ j.toNat)) := opI fun _ _ _ _ _ _ _ hc q => PyProof.Rows.pow_int hc.1 hc.2 q
end
section
variable {σ : L2.St} {H : Hp} {D : Ends} {Q : VK} {QT : Bool → Hp → Prop} {QA : List V → Hp → Prop} {K : PySem.W.Frag} {te ta tb tc : TE} {t u : TS} {tt tu : TT} {as : TA} {i j : Nat} {v x y : V} {a b n m : Int}
/-- a continuation kept apart -/
noncomputable def atV (Q : VK) (v : V) (H : Hp) : Prop := Q v H
theorem w_atV (q : Q v H) : atV Q v H := q
theorem w_var (h : σ[i]? = some (some v)) (q : Q v H) : tVar i σ H Q := ⟨v, h, q⟩
theorem w_c (q : Q v H) : tC v σ H Q := q
theorem w_op {r : R2} (q : ta σ H fun x H1 => tb σ H1 fun y H2 => r x y H2 Q) : tOp r ta tb σ H Q := q
theorem w_un {r : V → Hp → VK → Prop} (q : ta σ H fun x H1 => r x H1 Q) : tUn r ta σ H Q := q
theorem w_cb {r : List V → Hp → VK → Prop} (q : as σ H fun vs H1 => r vs H1 Q) : tCB r as σ H Q := q
theorem w_cons {tr : TA} (q : ta σ H fun x H1 => tr σ H1 fun xs H2 => QA (x :: xs) H2) : tCons ta tr σ H QA := q
theorem w_nil (q : QA [] H) : tNil σ H QA := q
theorem w_seq (q : t { D with nx := u D } σ H) : tSeq t u D σ H := q
theorem w_set (q : te σ H fun x H1 => D.nx (σ.set i (some x)) H1) : tAsg te (gName i) D σ H := q
theorem w_asg {g : TG} (q : te σ H fun x H1 => g x σ H1 D.nx) : tAsg te g D σ H := q
theorem w_name {Qs : L2.St → Hp → Prop} (q : Qs (σ.set i (some v)) H) : gName i v σ H Qs := q
theorem w_par (q : as σ H fun vs H1 => ∃ v w, vs = [v, w] ∧ D.nx ((σ.set i (some v)).set j (some w)) H1) : tPar i j as D σ H := q
theorem w_par2 {p q : V} {P : V → V → Prop} (h : P p q) : ∃ v w, [p, q] = [v, w] ∧ P v w := ⟨p, q, rfl, h⟩
theorem w_aug {ti : TIp} (h : σ[i]? = some (some v)) (q : te σ H fun y H1 => ti v y H1 fun z H2 => D.nx (σ.set i (some z)) H2) : tAug i te ti D σ H := ⟨v, h, q⟩
theorem w_ipI {f : Int → Int → Int} (q : Q (.int (f a b)) H) : ipI f (.int a) (.int b) H Q := ⟨a, b, rfl, rfl, q⟩
theorem w_drop (q : te σ H fun _ H1 => D.nx σ H1) : tDrop te D σ H := q
theorem w_ret (q : te σ H D.rt) : tRet te D σ H := q
theorem w_retN (q : D.rt .non H) : tRetN D σ H := q
theorem w_next (q : D.nx σ H) : tNext D σ H := q
theorem w_if {c : TT} (q : c σ H fun b H1 => if b = true then t D σ H1 else u D σ H1) : tIfS c t u D σ H := q
theorem w_test (q : te σ H fun x H' => ∃ k, x = .bl k ∧ QT k H') : tTest te σ H QT := q
theorem w_tB (q : te σ H fun x H' => ∃ k, x = .bl k ∧ QT k H') : tB te σ H QT := q
theorem w_bl {k : Bool} {P : Bool → Prop} (q : P k) : ∃ c, V.bl k = .bl c ∧ P c := ⟨k, rfl, q⟩
theorem w_and (q : tt σ H fun c H1 => if c = true then tu σ H1 QT else QT false H1) : tAnd tt tu σ H QT := q
theorem w_or (q : tt σ H fun c H1 => if c = true then QT true H1 else tu σ H1 QT) : tOr tt tu σ H QT := q
theorem w_not (q : tt σ H fun c H1 => QT (!c) H1) : tNot tt σ H QT := q
theorem w_andV (q : ta σ H fun x H1 => ∃ c, x = .bl c ∧ if c = true then tb σ H1 Q else Q (.bl false) H1) : tAndV ta tb σ H Q := q
theorem w_orV (q : ta σ H fun x H1 => ∃ c, x = .bl c ∧ if c = true then Q (.bl true) H1 else tb σ H1 Q) : tOrV ta tb σ H Q := q
theorem w_notV (q : ta σ H fun x H1 => ∃ c, x = .bl c ∧ Q (.bl (!c)) H1) : tNotV ta σ H Q := q
theorem w_ifE (q : tt σ H fun c H1 => if c = true then ta σ H1 Q else tb σ H1 Q) : tIf tt ta tb σ H Q := q
theorem w_tup (q : as σ H fun xs H1 => xs.length ≤ sizeLine ∧ ∀ p, H1 p = none → atV Q (.ref p) (upd H1 p (.tup xs))) : tTup as σ H Q := q
theorem w_lst (q : as σ H fun xs H1 => xs.length ≤ sizeLine ∧ ∀ p, H1 p = none → atV Q (.ref p) (upd H1 p (.lst xs))) : tLst as σ H Q := q
theorem w_call {sp : Sp} {dvs : List V} {E : XK} (q : as σ H fun vs H1 => sp (vs ++ dvs) H1 Q E) : tCall sp dvs E as σ H Q := q
theorem w_yes (q : QT true H) : tYes σ H QT := q
theorem w_chain {r r' : R2} (q : ta σ H fun x H1 => tb σ H1 fun y H2 => r x y H2 fun z H3 => ∃ k, z = .bl k ∧ (if k = true then tc σ H3 fun w' H4 => r' y w' H4 Q else Q (.bl false) H3)) : tChain r r' ta tb tc σ H Q := q
theorem w_I0 {g : Int → Int → V} (q : Q (g a b) H) : rI0 g (.int a) (.int b) H Q := ⟨a, b, rfl, rfl, q⟩
theorem w_I {C : Int → Int → Prop} {g : Int → Int → V} (c : C a b) (q : Q (g a b) H) : rI C g (.int a) (.int b) H Q := ⟨a, b, rfl, rfl, c, q⟩
theorem w_U {g : Int → V} (q : Q (g a) H) : rU g (.int a) H Q := ⟨a, rfl, q⟩
theorem w_eq (h : scal x y = true) (q : Q (.bl (decide (x = y))) H) : rEq x y H Q := ⟨h, q⟩
theorem w_ne (h : scal x y = true) (q : Q (.bl (!decide (x = y))) H) : rNe x y H Q := ⟨h, q⟩
theorem w_ixL {p : Addr} {xs : List V} (h : SqL K H p xs) (e : atI xs a = some v) (q : Q v H) : rIxL K (.ref p) (.int a) H Q := ⟨p, xs, a, v, rfl, rfl, h, e, q⟩
theorem w_ixT {p : Addr} {xs : List V} (h : SqT K H p xs) (e : atI xs a = some v) (q : Q v H) : rIxT K (.ref p) (.int a) H Q := ⟨p, xs, a, v, rfl, rfl, h, e, q⟩
theorem w_len {p : Addr} {xs : List V} (h : SqL K H p xs) (q : Q (.int xs.length) H) : rLen K [.ref p] H Q := ⟨p, xs, rfl, .inl h, q⟩
theorem w_lenT {p : Addr} {xs : List V} (h : SqT K H p xs) (q : Q (.int xs.length) H) : rLen K [.ref p] H Q := ⟨p, xs, rfl, .inr h, q⟩
theorem w_abs (q : Q (.int (if a < 0 then -a else a)) H) : rAbs [.int a] H Q := ⟨a, rfl, q⟩
theorem w_max2 (q : Q (.int (if b > a then b else a)) H) : rMax2 [.int a, .int b] H Q := ⟨a, b, rfl, q⟩
theorem w_min2 (q : Q (.int (if b < a then b else a)) H) : rMin2 [.int a, .int b] H Q := ⟨a, b, rfl, q⟩
theorem w_int1 (q : Q (.int a) H) : rInt1 [.int a] H Q := .inl ⟨a, rfl, q⟩
theorem w_int1b {k : Bool} (q : Q (.int (if k then 1 else 0)) H) : rInt1 [.bl k] H Q := .inr ⟨k, rfl, q⟩
theorem w_listL {p : Addr} {xs : List V} (h : SqL K H p xs) (q : ∀ l, H l = none → atV Q (.ref l) (upd H l (.lst xs))) : rListOf K [.ref p] H Q := ⟨p, xs, rfl, .inl h, q⟩
theorem w_tupL {p : Addr} {xs : List V} (h : SqL K H p xs) (q : ∀ l, H l = none → atV Q (.ref l) (upd H l (.tup xs))) : rTupOf K [.ref p] H Q := ⟨p, xs, rfl, .inl ⟨h, q⟩⟩
theorem w_setL {p : Addr} {xs : List V} {Qs : Hp → Prop} (h : H p = some (.lst xs)) (e : ixN xs.length a = some j) (q : Qs (upd H p (.lst (xs.set j v)))) : rSetL (.ref p) (.int a) v H Qs := ⟨p, xs, a, j, rfl, rfl, h, e, q⟩
theorem w_gsub {to ti : TE} {ts : TSet} {Qs : L2.St → Hp → Prop} (q : to σ H fun o H1 => ti σ H1 fun i H2 => ts o i v H2 fun H3 => Qs σ H3) : gSub to ti ts v σ H Qs := q
theorem w_bm {T : String} {r : V → List V → Hp → VK → Prop} (q : ta σ H fun x H1 => tyV K T x H1 ∧ as σ H1 fun xs H2 => r x xs H2 Q) : tBM K T r ta as σ H Q := q
theorem w_bm0 {T : String} {r : V → List V → Hp → VK → Prop} (q : ta σ H fun x H1 => tyV K T x H1 ∧ r x [] H1 Q) : tBM0 K T r ta σ H Q := q
theorem w_append {p : Addr} {xs : List V} (h : H p = some (.lst xs)) (l : xs.length < sizeLine) (q : Q .non (upd H p (.lst (xs ++ [v])))) : rAppend (.ref p) [v] H Q := ⟨p, xs, v, rfl, rfl, h, l, q⟩
theorem w_cat {p r : Addr} {xs ys : List V} (h : H p = some (.lst xs)) (h2 : H r = some (.lst ys)) (l : xs.length + ys.length ≤ sizeLine) (q : ∀ p, H p = none → atV Q (.ref p) (upd H p (.lst (xs ++ ys)))) : rCat (.ref p) (.ref r) H Q := ⟨p, r, xs, ys, rfl, rfl, h, h2, l, q⟩
theorem w_fld {f : Str} (q : ta σ H fun x H1 => ∃ a C dx fs v, x = .ref a ∧ H1 a = some (.ins C dx fs) ∧ Cls K C ∧ NoAttr K C f ∧ fs.lookup f = some v ∧ Q v H1) : tFld K ta f σ H Q := q
theorem w_sl {r : V → Option Int → Option Int → Hp → VK → Prop} {tl th : TO} (q : te σ H fun x H1 => tl σ H1 fun l H2 => th σ H2 fun u H3 => r x l u H3 Q) : tSl r te tl th σ H Q := q
theorem w_noPart {Qo : Option Int → Hp → Prop} (q : Qo none H) : tNoPart σ H Qo := q
theorem w_part {Qo : Option Int → Hp → Prop} (q : te σ H fun x H1 => ∃ i, x = .int i ∧ Qo (some i) H1) : tPart te σ H Qo := q
theorem w_isI {P : Int → Prop} (q : P a) : ∃ i, V.int a = .int i ∧ P i := ⟨a, rfl, q⟩
theorem w_revL {K : PySem.W.Frag} (q : te σ H fun x H1 => ∃ a xs, x = .ref a ∧ SqL K H1 a xs ∧ ∀ p, H1 p = none → atV Q (.ref p) (upd H1 p (.lst xs.reverse))) : tRevL K te σ H Q := q
theorem w_isN (q : Q (.bl (decide (x = .non))) H) : rIsN x .non H Q := ⟨rfl, q⟩
theorem w_notN (q : Q (.bl (!decide (x = .non))) H) : rNotN x .non H Q := ⟨rfl, q⟩
theorem w_bits (q : te σ H fun x H1 => ∃ i, x = .int i ∧ Q (.int (Builtin.Int.intBits i : Nat)) H1) : tBits te σ H Q := q
theorem w_gtup {K : PySem.W.Frag} {tg : TGs} {p : Addr} {xs : List V} {k : Nat} {Qs : L2.St → Hp → Prop} (h : SqT K H p xs) (l : xs.length = k) (q : tg xs σ H Qs) : gTup K k tg (.ref p) σ H Qs := ⟨p, xs, rfl, h, l, q⟩
theorem w_gcons {tg : TG} {tr : TGs} {xs : List V} {Qs : L2.St → Hp → Prop} (q : tg v σ H fun σ' H' => tr xs σ' H' Qs) : gCons tg tr (v :: xs) σ H Qs := ⟨v, xs, rfl, q⟩
theorem w_gnil {Qs : L2.St → Hp → Prop} (q : Qs σ H) : gNil [] σ H Qs := ⟨rfl, q⟩
theorem w_for {wi : TI} {g : TG} {tb : TS} (q : wi σ H fun J H1 => ∃ W : Nat → Nat → L2.St → Hp → Prop, (∃ m, W 0 m σ H1) ∧ ∀ i m σ H, W i m σ H →
      (J.stop i H ∧ D.nx σ H) ∨ (J.go i H ∧ ∃ N : L2.St → Hp → Prop, (∀ σ' H', N σ' H' → ∃ m', m' < m ∧ W (i + 1) m' σ' H') ∧ ∀ x H', J.yld i H x H' → g x σ H' fun σ2 H2 => tb { D with nx := N, ct := N, bk := D.nx } σ2 H2)) : tFor wi g tb D σ H := q
theorem w_rng1 {R : It → Hp → Prop} (q : as σ H fun vs H1 => ∃ j : Int, vs = [.int j] ∧ -(2 ^ 62) ≤ j ∧ j < 2 ^ 62 ∧ R (Itr 0 j.toNat) H1) : iRng1 as σ H R := q
theorem w_rng1i {P : Int → Prop} (h0 : -(2 ^ 62) ≤ n) (h1 : n < 2 ^ 62) (q : P n) : ∃ j : Int, [V.int n] = [.int j] ∧ -(2 ^ 62) ≤ j ∧ j < 2 ^ 62 ∧ P j := ⟨n, rfl, h0, h1, q⟩
theorem w_rng2 {R : It → Hp → Prop} (q : as σ H fun vs H1 => ∃ i j : Int, vs = [.int i, .int j] ∧ (-(2 ^ 62) ≤ i ∧ i < 2 ^ 62 ∧ -(2 ^ 62) ≤ j ∧ j < 2 ^ 62) ∧ R (Itr i (j - i).toNat) H1) : iRng2 as σ H R := q
theorem w_rng2i {P : Int → Int → Prop} (h0 : -(2 ^ 62) ≤ n ∧ n < 2 ^ 62 ∧ -(2 ^ 62) ≤ m ∧ m < 2 ^ 62) (q : P n m) : ∃ i j : Int, [V.int n, V.int m] = [.int i, .int j] ∧ (-(2 ^ 62) ≤ i ∧ i < 2 ^ 62 ∧ -(2 ^ 62) ≤ j ∧ j < 2 ^ 62) ∧ P i j := ⟨n, m, rfl, h0, q⟩
theorem w_andsz {xs : List V} {P : Prop} (h : Nat.ble xs.length 100000 = true) (q : P) : xs.length ≤ sizeLine ∧ P := ⟨Nat.le_trans (Nat.le_of_ble_eq_true h) (by decide), q⟩
theorem w_iList {R : It → Hp → Prop} (q : te σ H fun x H1 => ∃ a, x = .ref a ∧ (∃ xs, SqL K H1 a xs) ∧ R (Itl K a) H1) : iList K te σ H R := q
theorem w_iTup {R : It → Hp → Prop} (q : te σ H fun x H1 => ∃ a, x = .ref a ∧ (∃ xs, SqT K H1 a xs) ∧ R (Itt K a) H1) : iTup K te σ H R := q
theorem w_iAt {p : Addr} {P : Addr → Prop} (q : P p) : ∃ a, V.ref p = .ref a ∧ P a := ⟨p, rfl, q⟩
end
theorem w_lc {wi : TI} {g : TG} {tt : TT} {te : TE} {vs : List Nat} {σ : L2.St} {H : Hp} {Q : VK} (q : wi σ H fun J H1 => ∀ D, H1 D = none → ∃ W : Nat → Nat → Hp → Prop, (∃ m, W 0 m (upd H1 D (.lst []))) ∧ ∀ i m H, W i m H →
  (J.stop i H ∧ Q (.ref D) H) ∨ (J.go i H ∧ ∃ Nx : Hp → Prop, (∀ H', Nx H' → ∃ m', m' < m ∧ W (i + 1) m' H') ∧ ∀ x H', J.yld i H x H' → g x (wipe σ vs) H' fun σ2 H2 => wipe σ2 vs = wipe σ vs ∧ tt σ2 H2 fun b H3 =>
    if b = true then te σ2 H3 fun y H4 => ∃ acc, H4 D = some (.lst acc) ∧ acc.length < sizeLine ∧ Nx (upd H4 D (.lst (acc ++ [y]))) else Nx H3)) : tLc wi g tt te vs σ H Q := q
theorem w_iStr {te : TE} {σ : L2.St} {H : Hp} {R : It → Hp → Prop} (q : te σ H fun v H1 => ∃ x, v = .str x ∧ R (Its x) H1) : iStr te σ H R := q
theorem w_isS {z : Str} {P : Str → Prop} (q : P z) : ∃ x, V.str z = .str x ∧ P x := ⟨z, rfl, q⟩
theorem w_iL {K : PySem.W.Frag} {H : Hp} {a : Addr} {xs : List V} {P : Prop} (h : SqL K H a xs) (q : P) : (∃ xs, SqL K H a xs) ∧ P := ⟨⟨xs, h⟩, q⟩
theorem w_iT {K : PySem.W.Frag} {H : Hp} {a : Addr} {xs : List V} {P : Prop} (h : SqT K H a xs) (q : P) : (∃ xs, SqT K H a xs) ∧ P := ⟨⟨xs, h⟩, q⟩
theorem w_leS {x y : Str} {H : Hp} {Q : VK} (q : Q (.bl (!decide (y.cps.toList < x.cps.toList))) H) : rLeS (.str x) (.str y) H Q := ⟨x, y, rfl, rfl, q⟩
theorem w_ord {H : Hp} {Q : VK} {c : Nat} (q : Q (.int (c : Int)) H) : rOrd [.str ⟨#[c]⟩] H Q := ⟨_, rfl, rfl, q⟩
theorem w_nx {N : L2.St → Hp → Prop} {rt : VK} {bk ct : L2.St → Hp → Prop} {σ : L2.St} {H : Hp} (q : N σ H) : Ends.nx ⟨N, rt, bk, ct⟩ σ H := q
theorem w_rt {N : L2.St → Hp → Prop} {rt : VK} {bk ct : L2.St → Hp → Prop} {v : V} {H : Hp} (q : rt v H) : Ends.rt ⟨N, rt, bk, ct⟩ v H := q
theorem w_ct {N : L2.St → Hp → Prop} {rt : VK} {bk ct : L2.St → Hp → Prop} {σ : L2.St} {H : Hp} (q : ct σ H) : Ends.ct ⟨N, rt, bk, ct⟩ σ H := q
theorem w_bk {N : L2.St → Hp → Prop} {rt : VK} {bk ct : L2.St → Hp → Prop} {σ : L2.St} {H : Hp} (q : bk σ H) : Ends.bk ⟨N, rt, bk, ct⟩ σ H := q
theorem sq {K : PySem.W.Frag} {H : Hp} {a : Addr} {xs : List V} (h : H a = some (.lst xs)) : SqL K H a xs := .inl (.inl h)
theorem sqt {K : PySem.W.Frag} {H : Hp} {a : Addr} {xs : List V} (h : H a = some (.tup xs)) : SqT K H a xs := .inl (.inl h)
theorem upd_new {H : Hp} {p q : Addr} {o u : HO} (n : H p = none) (h : H q = some u) : upd H p o q = some u := (upd_ne (ne_of_none h n)).trans h
theorem ite_d {p : Prop} [Decidable p] {A B : Prop} (h1 : p → A) (h2 : ¬ p → B) : if decide p = true then A else B := by
  by_cases h : p
  · rw [if_pos (decide_eq_true h)]; exact h1 h
  · rw [if_neg (by rw [decide_eq_false h]; decide)]; exact h2 h
theorem wmul {i j : Int} {a b : Nat} (ha : i.natAbs < 2 ^ a) (hb : j.natAbs < 2 ^ b) (h : a + b ≤ 900000) : CMulW i j :=
  wide_mul (a := a + 1) (b := b + 1) (Nat.lt_trans ha (Nat.pow_lt_pow_right (by decide) (Nat.lt_succ_self _))) (Nat.lt_trans hb (Nat.pow_lt_pow_right (by decide) (Nat.lt_succ_self _))) (Nat.succ_pos _) (Nat.succ_pos _) (by omega)
theorem wdiv {i j : Int} {b : Nat} (h : 0 < j) (hb : j.natAbs < 2 ^ b) (h9 : b ≤ 8000) : CDivW i j :=
  wide_div (b := b + 1) h (Nat.lt_trans hb (Nat.pow_lt_pow_right (by decide) (Nat.lt_succ_self _))) (Nat.succ_pos _) (by omega)
/-- products: one side small, or both of bounded bits -/
noncomputable def CMx (i j : Int) : Prop := CMul i j ∨ CMulW i j
theorem oMul {X : Cx} : OpR X (binaryOp .Mult) (rI CMx fun i j => .int (i * j)) := opI fun _ _ _ _ _ _ _ hc q => hc.elim (fun h => mul_int q h.ok) (fun h => mul_int q h.ok)
theorem mx_l {i j : Int} (h : -(2 ^ 64) < i ∧ i < 2 ^ 64) : CMx i j := .inl (.inl h)
theorem mx_r {i j : Int} (h : -(2 ^ 64) < j ∧ j < 2 ^ 64) : CMx i j := .inl (.inr h)
theorem mx_w {i j : Int} {a b : Nat} (ha : i.natAbs < 2 ^ a) (hb : j.natAbs < 2 ^ b) (h : a + b ≤ 900000) : CMx i j := .inr (wmul ha hb h)
theorem wdiv60 {i j : Int} (h : 0 < j) (hb : j < 2 ^ 60) : CDivW i j := wdiv (b := 60) h (by omega) (by decide)
structure Bt (mg : Str → Option Value) : Prop where
  len : mg "len" = none
  int : mg "int" = none
  abs : mg "abs" = none
  max : mg "max" = none
  min : mg "min" = none
  range : mg "range" = none
  isinstance : mg "isinstance" = none
  list : mg "list" = none
  tuple : mg "tuple" = none
  str : mg "str" = none
  bool : mg "bool" = none
  ord : mg "ord" = none
  all : mg "all" = none
  enumerate : mg "enumerate" = none
  zip : mg "zip" = none
/-- a list of three ints at a: what is left of a great number, a seed, a count up to c -/
noncomputable def Purse (H : Hp) (a : Addr) (c : Int) : Prop := ∃ x y z : Int, H a = some (.lst [.int x, .int y, .int z]) ∧ 0 ≤ x ∧ x < 2 ^ 1600 ∧ 0 ≤ y ∧ y < 2 ^ 31 ∧ 0 ≤ z ∧ z ≤ c
/-- all but what stands at a is kept -/
noncomputable def Keep (a : Addr) (H H' : Hp) : Prop := ∀ b o, b ≠ a → H b = some o → H' b = some o
theorem Keep.refl {a : Addr} {H : Hp} : Keep a H H := fun _ _ _ h => h
theorem Keep.trans {a : Addr} {H H1 H2 : Hp} (k : Keep a H H1) (l : Keep a H1 H2) : Keep a H H2 := fun b o n h => l b o n (k b o n h)
theorem Keep.of {a : Addr} {H H' : Hp} (s : Same H H') : Keep a H H' := fun b o _ h => s b o h
theorem Keep.at_ {a b : Addr} {o : HO} {H H' : Hp} (k : Keep a H H') (n : b ≠ a) (h : H b = some o) : H' b = some o := k b o n h
theorem Same.new {H : Hp} {p : Addr} {o : HO} (n : H p = none) : Same H (upd H p o) := fun b u h => upd_new n h
theorem Purse.same {H H' : Hp} {a : Addr} {c : Int} (p : Purse H a c) (s : Same H H') : Purse H' a c := by
  obtain ⟨x, y, z, h, r⟩ := p
  exact ⟨x, y, z, s _ _ h, r⟩
theorem Purse.le {H : Hp} {a : Addr} {c d : Int} (p : Purse H a c) (h : c ≤ d) : Purse H a d := by
  obtain ⟨x, y, z, h0, h1, h2, h3, h4, h5, h6⟩ := p
  exact ⟨x, y, z, h0, h1, h2, h3, h4, h5, by omega⟩
section
variable {P : Program} {w : World} {K : PySem.W.Frag} {mg : Str → Option Value} {base : Heap}
/-- a def of the module without defaults -/
structure Dn (K : PySem.W.Frag) (mg : Str → Option Value) (x : Str) (st : Stmt) (ps : List Str) : Prop where
  ex : ∃ (f : Addr) (fd : FuncData), L2.Fun K x x st f fd ∧ mg x = some (.ref f) ∧ Binds K fd ps []
theorem Dn.cal {x : Str} {st : Stmt} {N ps : List Str} {k : Nat} {sp : Sp} (F : Dn K mg x st ps) (S : FnScope N ps (defScope st)) (len : ∀ vs H Q E, sp vs H Q E → vs.length = ps.length)
    (hbody : ∀ (f : Addr) (cdv : Value) (A : Around) (outer : List Env) (s : Shared) (H : Hp) (vs : List V) (Q : VK) (E : XK), Room k (A.deeper (envOfC x (defScope st) s.heap.objs.size f cdv)) → sp vs H Q E →
      ∃ t, PSs (cxOf CX0 P w K mg base N x (defScope st) f cdv A outer s H E).nox (defBody st) t ∧ t { nx := fun _ H' => Q .non H', rt := Q } (start N vs) H) : C8.Cal P w K mg base (k + 1) x sp [] := by
  obtain ⟨f, fd, F1, m, b⟩ := F.ex
  exact ⟨f, fd, ps, [], F1.ok S len (fun cdv A outer s H vs Q E hr h => hbody f cdv A outer s H vs Q E hr h), m, F1.kp, b, .nil⟩
end
theorem atI_ints {ns : List Int} {i : Int} (h0 : 0 ≤ i) (h1 : i < (ns.map V.int).length) : atI (ns.map V.int) i = some (.int (ns.getD i.toNat 0)) := by
  obtain ⟨j, rfl⟩ := Int.eq_ofNat_of_zero_le h0
  rw [List.length_map] at h1
  have h2 : j < ns.length := by omega
  refine atI_nat ?_
  rw [List.getElem?_map, List.getElem?_eq_getElem h2]
  simp [List.getD, h2]
theorem atI_get {xs : List V} {i : Int} {v : V} (h0 : 0 ≤ i) (h : xs[i.toNat]? = some v) : atI xs i = some v := by
  obtain ⟨j, rfl⟩ := Int.eq_ofNat_of_zero_le h0
  exact atI_nat h
theorem Keep.upd {a : Addr} {H H' : Hp} {o : HO} (k : Keep a H H') : Keep a H (upd H' a o) := fun b u n h => by rw [upd_ne n]; exact k b u n h
section
variable {c : TT} {tb : TS} {D : Ends} {σ : L2.St} {H : Hp}
theorem while_go (Pv : L2.St → Hp → Prop) (μ : L2.St → Hp → Nat) (h0 : Pv σ H) (hs : ∀ σ H, Pv σ H → c σ H fun b H1 => if b = true then (∃ N : L2.St → Hp → Prop, (∀ σ' H', N σ' H' → ∃ m', m' < μ σ H ∧ (m' = μ σ' H' ∧ Pv σ' H')) ∧
      tb { D with nx := N, ct := N, bk := D.nx } σ H1) else D.nx σ H1) : tWhile c tb D σ H := ⟨fun m σ H => m = μ σ H ∧ Pv σ H, ⟨_, rfl, h0⟩, fun m σ H h => by
  obtain ⟨e, p⟩ := h
  subst e
  exact hs σ H p⟩
theorem while_n {Pv : L2.St → Hp → Prop} {μ : L2.St → Hp → Nat} {k : Nat} (q : tb { D with nx := fun σ' H' => μ σ' H' < k ∧ Pv σ' H', ct := fun σ' H' => μ σ' H' < k ∧ Pv σ' H', bk := D.nx } σ H) :
    ∃ N : L2.St → Hp → Prop, (∀ σ' H', N σ' H' → ∃ m', m' < k ∧ (m' = μ σ' H' ∧ Pv σ' H')) ∧ tb { D with nx := N, ct := N, bk := D.nx } σ H := ⟨_, fun _ _ h => ⟨_, h.1, rfl, h.2⟩, q⟩
end
theorem w_isi {K : PySem.W.Frag} {H : Hp} {Q : VK} {x : V} {t : Value} {n : String} {b : Bool} (ty : TyX K H x t) (k : PySem.W.kitOne K t (.type n) = some b) (q : Q (.bl b) H) : rIsi K [x, .ty n] H Q := ⟨x, .ty n, t, .type n, b, rfl, .ty n, ty, k, q⟩
theorem w_isiC {K : PySem.W.Frag} {H : Hp} {Q : VK} {x : V} {t : Value} {C : Addr} {b : Bool} (ty : TyX K H x t) (k : PySem.W.kitOne K t (.ref C) = some b) (q : Q (.bl b) H) : rIsi K [x, .ref C] H Q := ⟨x, .ref C, t, .ref C, b, rfl, .own C, ty, k, q⟩
theorem w_isi2 {K : PySem.W.Frag} {H : Hp} {Q : VK} {x : V} {t : Value} {m n : String} {p : Addr} {b : Bool} (h : H p = some (.tup [.ty m, .ty n])) (ty : TyX K H x t) (k : PySem.W.kitAny K t [.type m, .type n] = some b) (q : Q (.bl b) H) : rIsiT K [x, .ref p] H Q :=
  ⟨x, p, _, t, _, b, rfl, h, .cons (.ty m) (.cons (.ty n) .nil), ty, k, q⟩
theorem ty_int {K : PySem.W.Frag} {H : Hp} (i : Int) : TyX K H (.int i) (.type "int") := .base (.int i)
noncomputable def spIsInt (K : PySem.W.Frag) : Sp := fun vs H Q _ => ∃ (v : V) (t : Value) (b1 b2 : Bool), vs = [v] ∧ TyX K H v t ∧ PySem.W.kitOne K t (.type "int") = some b1 ∧ PySem.W.kitOne K t (.type "bool") = some b2 ∧ Q (.bl (b1 && !b2)) H
theorem use_isInt {K : PySem.W.Frag} {H : Hp} {Q : VK} {E : XK} {i : Int} (q : Q (.bl true) H) : spIsInt K ([.int i] ++ []) H Q E := ⟨.int i, _, true, false, rfl, ty_int i, kit_ty (by decide +kernel), kit_ty (by decide +kernel), q⟩
noncomputable def spRaised : Sp := fun vs H Q _ => ∃ (f p : Int) (b : Nat), vs = [.int f, .int p] ∧ 0 ≤ p ∧ p < 2 ^ 40 ∧ f.natAbs < 2 ^ b ∧ b * p.toNat + b ≤ 100000 ∧ Q (.int (f ^ p.toNat)) H
noncomputable def Pr (n : Int) : Prop := 1 < n ∧ ∀ d : Int, 2 ≤ d → d * d ≤ n → n % d ≠ 0
noncomputable def spPrime : Sp := fun vs H Q _ => ∃ n : Int, vs = [.int n] ∧ n < 2 ^ 60 ∧ ∀ b : Bool, (b = true ↔ Pr n) → Q (.bl b) H
theorem natAbs_pow_lt {f : Int} {b : Nat} (h : f.natAbs < 2 ^ b) (n : Nat) : (f ^ n).natAbs < 2 ^ (b * n + 1) := by
  rw [Int.natAbs_pow]
  have h1 : f.natAbs ^ n ≤ (2 ^ b) ^ n := Nat.pow_le_pow_left (Nat.le_of_lt h) n
  rw [← Nat.pow_mul] at h1
  exact Nat.lt_of_le_of_lt h1 (Nat.pow_lt_pow_right (by decide) (Nat.lt_succ_self _))
/-- a text's value and its letters -/
inductive TextAt (H : Hp) : V → List Int → Prop where
  | str (z : Str) (h : ∀ c ∈ z.cps.toList, 32 ≤ c ∧ c ≤ 126) (l : z.length ≤ 100000) : TextAt H (.str z) (z.cps.toList.map Int.ofNat)
  | lst (a : Addr) (ls : List Int) (h : H a = some (.lst (ls.map V.int))) (l : ls.length ≤ 100000) : TextAt H (.ref a) ls
  | tup (a : Addr) (ls : List Int) (h : H a = some (.tup (ls.map V.int))) (l : ls.length ≤ 100000) : TextAt H (.ref a) ls
theorem TextAt.same {H H' : Hp} {v : V} {ls : List Int} (t : TextAt H v ls) (s : Same H H') : TextAt H' v ls := by
  cases t with
  | str z h l => exact .str z h l
  | lst a _ h l => exact .lst a _ (s _ _ h) l
  | tup a _ h l => exact .tup a _ (s _ _ h) l
theorem TextAt.len {H : Hp} {v : V} {ls : List Int} (t : TextAt H v ls) : ls.length ≤ 100000 := by
  cases t with
  | str z h l => rw [List.length_map]; exact l
  | lst a _ h l => exact l
  | tup a _ h l => exact l
theorem all_true {α : Type} (l : List α) : (l.map fun _ => true).all id = true := by
  induction l with
  | nil => rfl
  | cons a r ih => rw [List.map_cons, List.all_cons, ih]; rfl
theorem get_map {α β : Type} {f : α → β} {l : List α} {i : Nat} {y : β} (h : (l.map f)[i]? = some y) : ∃ x, l[i]? = some x ∧ f x = y := by
  rw [List.getElem?_map] at h
  cases e : l[i]? with
  | none => rw [e] at h; cases h
  | some x => rw [e] at h; exact ⟨x, rfl, Option.some.inj h⟩
theorem kitA {K : PySem.W.Frag} {t m n : String} {b : Bool} (h : (match kitB t m with | some true => some true | some false => (match kitB t n with | some true => some true | some false => some false | none => none) | none => none) = some b) : PySem.W.kitAny K (.type t) [.type m, .type n] = some b := h
noncomputable def num (ps : List (Int × Int)) : Int := ps.foldl (fun n p => n * p.1 ^ p.2.toNat) 1
noncomputable def Asc : Int → List (Int × Int) → Prop
  | _, [] => True
  | l, q :: r => l < q.1 ∧ 0 < q.2 ∧ Pr q.1 ∧ Asc q.1 r
noncomputable def Small (ps : List (Int × Int)) : Prop := (∀ q ∈ ps, 0 < q.1 ∧ q.1 < 1024 ∧ 0 < q.2 ∧ q.2 ≤ 100) ∧ ps.length ≤ 64
theorem num_snoc (ps : List (Int × Int)) (q : Int × Int) : num (ps ++ [q]) = num ps * q.1 ^ q.2.toNat := by
  unfold num
  rw [List.foldl_append]
  rfl
theorem num_take {ps : List (Int × Int)} {i : Nat} {q : Int × Int} (h : ps[i]? = some q) : num (ps.take (i + 1)) = num (ps.take i) * q.1 ^ q.2.toNat := by
  obtain ⟨hi, e⟩ := List.getElem?_eq_some_iff.mp h
  rw [List.take_succ_eq_append_getElem hi, num_snoc, e]
theorem num_bound {ps : List (Int × Int)} (h : Small ps) : ∀ i, i ≤ ps.length → 0 < num (ps.take i) ∧ (num (ps.take i)).natAbs < 2 ^ (1010 * i + 1)
  | 0, _ => by
    rw [List.take_zero]
    exact ⟨by decide, by decide⟩
  | i + 1, hi => by
    have ih := num_bound h i (by omega)
    have hlt : i < ps.length := by omega
    have hq := h.1 ps[i] (List.getElem_mem hlt)
    rw [num_take (q := ps[i]) (by simp [hlt])]
    have h1 : ((ps[i].1) ^ (ps[i].2.toNat)).natAbs < 2 ^ (10 * ps[i].2.toNat + 1) := natAbs_pow_lt (b := 10) (by show ps[i].1.natAbs < 1024; omega) _
    refine ⟨Int.mul_pos ih.1 (Int.pow_pos hq.1), ?_⟩
    have h2 := wide_lt ih.2 h1
    refine Nat.lt_of_lt_of_le h2 (Nat.pow_le_pow_right (by decide) ?_)
    omega
theorem Asc.at_ : ∀ {l : Int} {ps : List (Int × Int)} {i : Nat} {q : Int × Int}, Asc l ps → ps[i]? = some q → ((ps.take i).getLast?.map (·.1)).getD l < q.1 ∧ 0 < q.2 ∧ Pr q.1
  | l, [], i, q, _, h => by simp at h
  | l, r :: ps, 0, q, a, h => by
    have e : r = q := by simpa using h
    subst e
    exact ⟨a.1, a.2.1, a.2.2.1⟩
  | l, r :: ps, i + 1, q, a, h => by
    have ih := Asc.at_ (i := i) a.2.2.2 (by simpa using h)
    refine ⟨?_, ih.2⟩
    have e := ih.1
    rw [List.take_succ_cons, List.getLast?_cons]
    cases hh : (ps.take i).getLast? with
    | none => rw [hh] at e; exact e
    | some z => rw [hh] at e; exact e
noncomputable def Tp (H : Hp) (p : Int × Int) (t : Addr) : Prop := H t = some (.tup [.int p.1, .int p.2])
theorem paired_get {α β : Type} {R : α → β → Prop} : ∀ {xs : List α} {ys : List β} {i : Nat} {y : β}, Paired R xs ys → ys[i]? = some y → ∃ x, xs[i]? = some x ∧ R x y
  | _, _, _, _, .nil, h => by simp at h
  | _, _, 0, _, .cons r _, h => by
    have e := Option.some.inj (by simpa using h)
    subst e
    exact ⟨_, rfl, r⟩
  | _, _, i + 1, _, .cons _ t, h => by
    obtain ⟨x, h1, h2⟩ := paired_get (i := i) t (by simpa using h)
    exact ⟨x, by simpa using h1, h2⟩
theorem paired_imp {α β : Type} {R S : α → β → Prop} (h : ∀ x y, R x y → S x y) : ∀ {xs : List α} {ys : List β}, Paired R xs ys → Paired S xs ys
  | _, _, .nil => .nil
  | _, _, .cons r t => .cons (h _ _ r) (paired_imp h t)
theorem lk0 {f : Str} {v : V} {r : List (Str × V)} : List.lookup f ((f, v) :: r) = some v := by simp [List.lookup]
theorem lkS {f g : Str} {u : V} {r : List (Str × V)} (h : f ≠ g) : List.lookup f ((g, u) :: r) = List.lookup f r := by
  rw [List.lookup]
  have e : (f == g) = false := by simpa using h
  rw [e]
theorem putS {f g : Str} {u v : V} {r : List (Str × V)} (h : g ≠ f) : putF f v ((g, u) :: r) = (g, u) :: putF f v r := by
  unfold putF
  rw [if_neg h]
  cases r <;> rfl
theorem put0 {f : Str} {v : V} : putF f v [] = [(f, v)] := rfl
/-- a class whose instances are plain -/
structure ClsF (K : PySem.W.Frag) (C : Addr) : Prop where
  cl : Cls K C
  ha : PySem.W.findIn K (.ref C) "__class__" = some (some (.builtin "object.__class__"))
  hn : PySem.W.specialIn K (.builtin "object.__class__") "__get__" = some (some (.builtin "getset_descriptor.__get__"))
  htk : PySem.W.takesIn K (.builtin "object.__class__") = some true
  hm : PySem.W.mroIn K C (.type "object") = some true
theorem ClsF.ty {K : PySem.W.Frag} {C : Addr} (c : ClsF K C) {H : Hp} {a dx : Addr} {fs : List (Str × V)} (h : H a = some (.ins C dx fs)) : TyX K H (.ref a) (.ref C) := .base (.ins h c.cl c.ha c.hn c.htk c.hm)
theorem kit_own {K : PySem.W.Frag} {C : Addr} : PySem.W.kitOne K (.ref C) (.ref C) = some true := by
  unfold PySem.W.kitOne
  rw [if_pos (by simp)]
/-- the addresses of the three classes -/
structure CA where
  md : Addr
  kg : Addr
  wy : Addr
structure Kx (K : PySem.W.Frag) (mg : Str → Option Value) (c : CA) : Prop where
  md : ClsF K c.md
  kg : ClsF K c.kg
  wy : ClsF K c.wy
  mgMd : mg "Modulus" = some (.ref c.md)
  mgMk : True
  mgWy : True
  number : NoAttr K c.md "number"
  factors : NoAttr K c.md "factors"
  low : NoAttr K c.kg "low"
  shift : NoAttr K c.kg "shift"
  lead : NoAttr K c.kg "lead"
  marking : NoAttr K c.wy "marking"
  modulus : NoAttr K c.wy "modulus"
  wnumber : NoAttr K c.wy "number"
  base : NoAttr K c.wy "base"
noncomputable def mdF (n : Int) (t : Addr) : List (Str × V) := [("number", .int n), ("factors", .ref t)]
noncomputable def mkF (low : Bool) (shift : Int) (lead : Bool) : List (Str × V) := [("low", .bl low), ("shift", .int shift), ("lead", .bl lead)]
noncomputable def wyF (k m : Addr) (n b : Int) : List (Str × V) := [("marking", .ref k), ("modulus", .ref m), ("number", .int n), ("base", .int b)]
noncomputable def ModAt (c : CA) (H : Hp) (m : Addr) (ps : List (Int × Int)) : Prop := ∃ (dx t : Addr) (ts : List Addr), H m = some (.ins c.md dx (mdF (num ps) t)) ∧ H t = some (.tup (ts.map V.ref)) ∧ Paired (Tp H) ps ts ∧ Asc 0 ps ∧ Small ps
noncomputable def MkAt (c : CA) (H : Hp) (k : Addr) (low : Bool) (shift : Int) (lead : Bool) : Prop := ∃ dx : Addr, H k = some (.ins c.kg dx (mkF low shift lead))
/-- how letters are added up -/
structure Sty where
  low : Bool
  shift : Int
  lead : Bool
noncomputable def WayAt (c : CA) (H : Hp) (a : Addr) (b : Int) (ps : List (Int × Int)) (y : Sty) : Prop := ∃ (dx m k : Addr), H a = some (.ins c.wy dx (wyF k m (num ps) b)) ∧ ModAt c H m ps ∧ MkAt c H k y.low y.shift y.lead ∧ 0 ≤ b ∧ b < num ps
theorem ModAt.same {c : CA} {H H' : Hp} {m : Addr} {ps : List (Int × Int)} (h : ModAt c H m ps) (s : Same H H') : ModAt c H' m ps := by
  obtain ⟨dx, t, ts, h1, h2, h3, h4⟩ := h
  exact ⟨dx, t, ts, s _ _ h1, s _ _ h2, paired_imp (fun _ _ z => s _ _ z) h3, h4⟩
theorem MkAt.same {c : CA} {H H' : Hp} {k : Addr} {l : Bool} {s : Int} {d : Bool} (h : MkAt c H k l s d) (e : Same H H') : MkAt c H' k l s d := by
  obtain ⟨dx, h1⟩ := h
  exact ⟨dx, e _ _ h1⟩
theorem WayAt.same {c : CA} {H H' : Hp} {a : Addr} {b : Int} {ps : List (Int × Int)} {y : Sty} (h : WayAt c H a b ps y) (s : Same H H') : WayAt c H' a b ps y := by
  obtain ⟨dx, m, k, h1, h2, h3, h4⟩ := h
  exact ⟨dx, m, k, s _ _ h1, h2.same s, h3.same s, h4⟩
/-- coefficients of the sum, that of the highest power first -/
noncomputable def hf (y : Sty) (ls : List Int) : List Int := (if y.lead then 1 else 0) :: (if y.low then (ls.map (· + y.shift)).reverse else ls.map (· + y.shift))
noncomputable def restAt (cs : List Int) (b n : Int) : Int := cs.foldl (fun f c => (f * b + c) % n) 0
noncomputable def mark (y : Sty) (b n : Int) (ls : List Int) : Int := restAt (hf y ls) b n
section
variable {σ : L2.St} {H : Hp} {D : Ends} {Q : VK} {K : PySem.W.Frag} {ta tv : TE} {f : Str} {x C dx : Addr} {fs : List (Str × V)} {v y : V}
theorem w_fldi {P : V → Prop} (h : H x = some (.ins C dx fs)) (c : Cls K C) (n : NoAttr K C f) (l : fs.lookup f = some v) (q : P v) : ∃ a C dx fs v, V.ref x = .ref a ∧ H a = some (.ins C dx fs) ∧ Cls K C ∧ NoAttr K C f ∧ fs.lookup f = some v ∧ P v := ⟨x, C, dx, fs, v, rfl, h, c, n, l, q⟩
theorem w_sfld (q : tv σ H fun y H1 => ta σ H1 fun x H2 => ∃ a C dx fs, x = .ref a ∧ H2 a = some (.ins C dx fs) ∧ Cls K C ∧ NoAttr K C f ∧ fs.length < 1000 ∧ D.nx σ (upd H2 a (.ins C dx (putF f y fs)))) : sFld K ta tv f D σ H := q
theorem w_sfldi {P : Hp → Prop} (h : H x = some (.ins C dx fs)) (c : Cls K C) (n : NoAttr K C f) (l : fs.length < 1000) (q : P (upd H x (.ins C dx (putF f y fs)))) : ∃ a C dx fs, V.ref x = .ref a ∧ H a = some (.ins C dx fs) ∧ Cls K C ∧ NoAttr K C f ∧ fs.length < 1000 ∧ P (upd H a (.ins C dx (putF f y fs))) :=
  ⟨x, C, dx, fs, rfl, h, c, n, l, q⟩
theorem w_make {sp : Sp} {dvs : List V} {E : XK} {as : TA} (q : as σ H fun vs H1 => ∀ x dx, H1 x = none → H1 dx = none → dx ≠ x → sp (.ref x :: (vs ++ dvs)) (upd (upd H1 dx (.own x)) x (.ins C dx [])) (fun v H2 => v = .non ∧ Q (.ref x) H2) E) : tMake C sp dvs E as σ H Q := q
theorem w_meth {m : Str} {sp : Sp} {dvs : List V} {E : XK} {as : TA} (q : ta σ H fun x H1 => ∃ a dx fs, x = .ref a ∧ H1 a = some (.ins C dx fs) ∧ fs.lookup m = none ∧ as σ H1 fun vs H2 => sp (x :: (vs ++ dvs)) H2 Q E) : tMeth C m sp dvs E ta as σ H Q := q
theorem w_methi {m : Str} {P : Addr → Prop} (h : H x = some (.ins C dx fs)) (l : fs.lookup m = none) (q : P x) : ∃ a dx fs, V.ref x = .ref a ∧ H a = some (.ins C dx fs) ∧ fs.lookup m = none ∧ P a := ⟨x, dx, fs, rfl, h, l, q⟩
theorem w_iEnum {K : PySem.W.Frag} {as : TA} {R : It → Hp → Prop} (q : as σ H fun vs H1 => ∃ a xs, vs = [.ref a] ∧ SqL K H1 a xs ∧ R (Ite K a) H1) : iEnum K as σ H R := q
theorem w_enumi {K : PySem.W.Frag} {a : Addr} {xs : List V} {P : Addr → Prop} (h : SqL K H a xs) (q : P a) : ∃ a' xs', [V.ref a] = [.ref a'] ∧ SqL K H a' xs' ∧ P a' := ⟨a, xs, rfl, h, q⟩
end
theorem mk_same {H H' : Hp} {x dx C : Addr} (nx : H x = none) (nd : H dx = none) (k : ∀ b o, b ≠ x → (upd (upd H dx (.own x)) x (.ins C dx [])) b = some o → H' b = some o) : Same H H' := fun b o e =>
  k b o (ne_of_none e nx) (by rw [upd_ne (ne_of_none e nx), upd_ne (ne_of_none e nd)]; exact e)
/-- __init__ of an own class by its body -/
theorem fnD_ok {P : Program} {w : World} {K : PySem.W.Frag} {mg : Str → Option Value} {base : Heap} {x qual : Str} {st : Stmt} {dvs : List V} {kws : List (Str × V)} {f : Addr} {fd : FuncData} {N ps : List Str} {k : Nat} {sp : Sp}
    (F : FunD K x qual (defArgs st) (defBody st) (defScope st) dvs kws f fd) (S : FnScope N ps (defScope st)) (len : ∀ vs H Q E, sp vs H Q E → vs.length = ps.length)
    (hbody : ∀ (cdv : Value) (A : Around) (outer : List Env) (s : Shared) (H : Hp) (vs : List V) (Q : VK) (E : XK), Room k (A.deeper (envOfC qual (defScope st) s.heap.objs.size f cdv)) → sp vs H Q E →
      ∃ t, PSs (cxOf CX0 P w K mg base N qual (defScope st) f cdv A outer s H E).nox (defBody st) t ∧ t { nx := fun _ H' => Q .non H', rt := Q } (start N vs) H) : FnOk P w K mg base CX0 (k + 1) f fd ps sp := by
  refine F.ok S len fun cdv A outer s H vs Q E hr h => ?_
  obtain ⟨t, h1, h2⟩ := hbody cdv A outer s H vs Q E hr h
  exact ⟨t, h1.nox, h2⟩
noncomputable def spIsFactor : Sp := fun vs H Q _ => ∃ (t : Addr) (l p k : Int), vs = [.ref t, .int l] ∧ H t = some (.tup [.int p, .int k]) ∧ p < 2 ^ 60 ∧ ∀ b : Bool, (b = true ↔ l < p ∧ 0 < k ∧ Pr p) → Q (.bl b) H
noncomputable def spModInit (c : CA) : Sp := fun vs H Q _ => ∃ (x dx l : Addr) (ts : List Addr) (ps : List (Int × Int)), vs = [.ref x, .ref l] ∧ H x = some (.ins c.md dx []) ∧ H l = some (.lst (ts.map V.ref)) ∧ Paired (Tp H) ps ts ∧ Asc 0 ps ∧ Small ps ∧
  ∀ H' t, (∀ b o, b ≠ x → H b = some o → H' b = some o) → H' x = some (.ins c.md dx (mdF (num ps) t)) → H' t = some (.tup (ts.map V.ref)) → Q .non H'
theorem use_mod {c : CA} {H : Hp} {PP : Addr → Hp → Prop} {E : XK} {l : Addr} {ts : List Addr} {ps : List (Int × Int)} (hl : H l = some (.lst (ts.map V.ref))) (hp : Paired (Tp H) ps ts) (ha : Asc 0 ps) (hs : Small ps) (q : ∀ m H', H m = none → Same H H' → ModAt c H' m ps → PP m H') :
    ∀ x dx, H x = none → H dx = none → dx ≠ x → spModInit c (.ref x :: ([.ref l] ++ [])) (upd (upd H dx (.own x)) x (.ins c.md dx [])) (fun v H2 => v = .non ∧ PP x H2) E := fun x dx nx nd ne => by
  have up : Same H (upd (upd H dx (.own x)) x (.ins c.md dx [])) := fun b o e => by rw [upd_ne (ne_of_none e nx), upd_ne (ne_of_none e nd)]; exact e
  refine ⟨x, dx, l, ts, ps, rfl, upd_same, up _ _ hl, paired_imp (fun _ _ z => up _ _ z) hp, ha, hs, fun H' t k h1 h2 => ⟨rfl, ?_⟩⟩
  have sm : Same H H' := mk_same nx nd k
  exact q x H' nx sm ⟨dx, t, ts, h1, h2, paired_imp (fun _ _ z => sm _ _ z) hp, ha, hs⟩
section
variable {X : Cx} {k j : Nat} {x : Str} {C : Addr} {sp : Sp} {dvs : List V} {p pos : Pos} {ks : List Str} {gV : List V → List V → List V} {kws : List Keyword} {tk : TA}
theorem w_makeK {σ : L2.St} {H : Hp} {Q : VK} {n m : Nat} {E : XK} {t tk : TA} (q : t σ H fun vs H1 => tk σ H1 fun zs H2 => vs.length = n ∧ zs.length = m ∧ ∀ x dx, H2 x = none → H2 dx = none → dx ≠ x → sp (gV (.ref x :: vs) zs) (upd (upd H2 dx (.own x)) x (.ins C dx [])) (fun v H3 => v = .non ∧ Q (.ref x) H3) E) : tMakeK C n m sp gV E t tk σ H Q := q
theorem w_callN {σ : L2.St} {H : Hp} {Q : VK} {n m : Nat} {E : XK} {t tk : TA} (q : t σ H fun vs H1 => tk σ H1 fun zs H2 => vs.length = n ∧ zs.length = m ∧ sp (gV vs zs) H2 Q E) : tCallN n m sp gV E t tk σ H Q := q
end
section
variable {K : PySem.W.Frag} {H : Hp}
theorem dp_ints : ∀ ls : List Int, DpAll K H (ls.map V.int) (ls.map PyData.int)
  | [] => .nil
  | i :: r => .cons (.int i) (dp_ints r)
theorem eqv_ints : ∀ ls ms : List Int, PyData.eqvAll (ls.map PyData.int) (ms.map PyData.int) = decide (ls = ms)
  | [], [] => by simp [PyData.eqvAll]
  | [], _ :: _ => by simp [PyData.eqvAll]
  | _ :: _, [] => by simp [PyData.eqvAll]
  | i :: r, j :: t => by
    rw [List.map_cons, List.map_cons, PyData.eqvAll, eqv_ints r t, PyData.eqv]
    simp only [List.cons.injEq, Bool.decide_and]
    congr 1
theorem lay_ints : ∀ ls : List Int, PyData.canLayAll0 (ls.map PyData.int) = true
  | [] => rfl
  | i :: r => by
    rw [List.map_cons, PyData.canLayAll0, lay_ints r]
    rfl
theorem depth_ints : ∀ ls : List Int, PyData.depthAll (ls.map PyData.int) = 0
  | [] => rfl
  | i :: r => by
    rw [List.map_cons, PyData.depthAll, depth_ints r]
    rfl
theorem shaped_lst (ls : List Int) : SeqAt.shaped (.list (ls.map PyData.int)) = true := by
  unfold SeqAt.shaped
  rw [PyData.canLay0, lay_ints, PyData.depth, depth_ints]
  rfl
theorem w_eqLL {a b : Addr} {ls ms : List Int} {Q : VK} (ha : SqL K H a (ls.map V.int)) (hb : SqL K H b (ms.map V.int)) (q : Q (.bl (decide (ls = ms))) H) : rEqD K (.ref a) (.ref b) H Q :=
  ⟨_, _, .lst ha (dp_ints ls), .lst hb (dp_ints ms), shaped_lst _, shaped_lst _, by rw [PyData.eqv, eqv_ints]; exact q⟩
end
theorem mk_low {l : Bool} {s : Int} {d : Bool} : (mkF l s d).lookup ("low" : Str) = some (.bl l) := lk0
theorem mk_shift {l : Bool} {s : Int} {d : Bool} : (mkF l s d).lookup ("shift" : Str) = some (.int s) := (lkS (by decide +kernel)).trans lk0
theorem mk_lead {l : Bool} {s : Int} {d : Bool} : (mkF l s d).lookup ("lead" : Str) = some (.bl d) := (lkS (by decide +kernel)).trans ((lkS (by decide +kernel)).trans lk0)
theorem md_number {n : Int} {t : Addr} : (mdF n t).lookup ("number" : Str) = some (.int n) := lk0
theorem md_factors {n : Int} {t : Addr} : (mdF n t).lookup ("factors" : Str) = some (.ref t) := (lkS (by decide +kernel)).trans lk0
theorem wy_marking {k m : Addr} {n b : Int} : (wyF k m n b).lookup ("marking" : Str) = some (.ref k) := lk0
theorem wy_modulus {k m : Addr} {n b : Int} : (wyF k m n b).lookup ("modulus" : Str) = some (.ref m) := (lkS (by decide +kernel)).trans lk0
theorem wy_number {k m : Addr} {n b : Int} : (wyF k m n b).lookup ("number" : Str) = some (.int n) := (lkS (by decide +kernel)).trans ((lkS (by decide +kernel)).trans lk0)
theorem wy_base {k m : Addr} {n b : Int} : (wyF k m n b).lookup ("base" : Str) = some (.int b) := (lkS (by decide +kernel)).trans ((lkS (by decide +kernel)).trans ((lkS (by decide +kernel)).trans lk0))
theorem w_tyL {K : PySem.W.Frag} {H : Hp} {a : Addr} {xs : List V} {P : Prop} (h : SqL K H a xs) (q : P) : tyV K "list" (.ref a) H ∧ P := ⟨Or.inl ⟨rfl, _, h⟩, q⟩
theorem decI {a b : Int} : decide (V.int a = V.int b) = decide (a = b) := by
  by_cases z : a = b
  · rw [decide_eq_true z, decide_eq_true (by rw [z])]
  · rw [decide_eq_false z, decide_eq_false (fun w => z (by injection w))]
theorem w_m1 {σ : L2.St} {H : Hp} {Q : VK} {r : V → List V → Hp → VK → Prop} {to te : TE} (q : to σ H fun x H1 => (∃ a, x = .str a) ∧ te σ H1 fun y H2 => r x [y] H2 Q) : tM1 r to te σ H Q := q
theorem w_isStr {z : Str} {P : Prop} (q : P) : (∃ a, V.str z = .str a) ∧ P := ⟨⟨z, rfl⟩, q⟩
section
variable {a b : Addr} {c : Int} {H H' : Hp} {o : HO}
theorem Purse.ne (p : Purse H a c) (h : H b = some o) (d : ∀ x y z : Int, o ≠ .lst [.int x, .int y, .int z]) : b ≠ a := fun e => by
  obtain ⟨x, y, z, h1, _⟩ := p
  rw [e, h1] at h
  exact d x y z (Option.some.inj h).symm
theorem Purse.fresh (p : Purse H a c) (h : H b = none) : b ≠ a := fun e => by
  obtain ⟨x, y, z, h1, _⟩ := p
  rw [e, h1] at h
  cases h
theorem Keep.free (k : Keep a H H') (p : Purse H' a c) (h : H' b = none) : H b = none := by
  cases e : H b with
  | none => rfl
  | some o =>
    by_cases z : b = a
    · obtain ⟨_, _, _, e2, _⟩ := p
      rw [z, e2] at h
      cases h
    · rw [k _ _ z e] at h
      cases h
theorem Keep.tup {xs : List V} (k : Keep a H H') (p : Purse H a c) (h : H b = some (.tup xs)) : H' b = some (.tup xs) := k b _ (p.ne h fun _ _ _ z => by cases z) h
theorem Keep.ins {C dx : Addr} {fs : List (Str × V)} (k : Keep a H H') (p : Purse H a c) (h : H b = some (.ins C dx fs)) : H' b = some (.ins C dx fs) := k b _ (p.ne h fun _ _ _ z => by cases z) h
/-- a list of pairs -/
noncomputable def PrL (H : Hp) (l : Addr) (ps : List (Int × Int)) : Prop := ∃ ts : List Addr, H l = some (.lst (ts.map V.ref)) ∧ Paired (Tp H) ps ts
theorem refs_ne {ts : List Addr} (x y z : Int) : HO.lst (ts.map V.ref) ≠ .lst [.int x, .int y, .int z] := fun e => by
  injection e with e
  cases ts with
  | nil => cases e
  | cons t r =>
    rw [List.map_cons] at e
    injection e with e1
    cases e1
theorem PrL.keep {l : Addr} {ps : List (Int × Int)} (h : PrL H l ps) (p : Purse H a c) (k : Keep a H H') : PrL H' l ps := by
  obtain ⟨ts, h1, h2⟩ := h
  exact ⟨ts, k l _ (p.ne h1 refs_ne) h1, paired_imp (fun _ _ z => k.tup p z) h2⟩
theorem PrL.same {l : Addr} {ps : List (Int × Int)} (h : PrL H l ps) (s : Same H H') : PrL H' l ps := by
  obtain ⟨ts, h1, h2⟩ := h
  exact ⟨ts, s _ _ h1, paired_imp (fun _ _ z => s _ _ z) h2⟩
theorem ModAt.keep {ca : CA} {m : Addr} {ps : List (Int × Int)} (h : ModAt ca H m ps) (p : Purse H a c) (k : Keep a H H') : ModAt ca H' m ps := by
  obtain ⟨dx, t, ts, h1, h2, h3, h4⟩ := h
  exact ⟨dx, t, ts, k.ins p h1, k.tup p h2, paired_imp (fun _ _ z => k.tup p z) h3, h4⟩
theorem MkAt.keep {ca : CA} {m : Addr} {l : Bool} {s : Int} {d : Bool} (h : MkAt ca H m l s d) (p : Purse H a c) (k : Keep a H H') : MkAt ca H' m l s d := by
  obtain ⟨dx, h1⟩ := h
  exact ⟨dx, k.ins p h1⟩
theorem WayAt.keep {ca : CA} {m : Addr} {b : Int} {ps : List (Int × Int)} {y : Sty} (h : WayAt ca H m b ps y) (p : Purse H a c) (k : Keep a H H') : WayAt ca H' m b ps y := by
  obtain ⟨dx, m1, k1, h1, h2, h3, h4⟩ := h
  exact ⟨dx, m1, k1, k.ins p h1, h2.keep p k, h3.keep p k, h4⟩
end
theorem Asc.snoc : ∀ {l : Int} {ps : List (Int × Int)} {q : Int × Int}, Asc l ps → (ps.getLast?.map (·.1)).getD l < q.1 → 0 < q.2 → Pr q.1 → Asc l (ps ++ [q])
  | l, [], q, _, h1, h2, h3 => ⟨h1, h2, h3, trivial⟩
  | l, r :: ps, q, a, h1, h2, h3 => by
    refine ⟨a.1, a.2.1, a.2.2.1, Asc.snoc a.2.2.2 ?_ h2 h3⟩
    rw [List.getLast?_cons] at h1
    cases hh : ps.getLast? with
    | none => rw [hh] at h1; exact h1
    | some z => rw [hh] at h1; exact h1
noncomputable instance (n : Int) : Decidable (∀ d : Int, 2 ≤ d → d * d ≤ n → n % d ≠ 0) := 
  if h : ∀ k : Fin 64, (2 ≤ k.val ∧ (k.val : Int) * k.val ≤ n) → n % (k.val : Int) ≠ 0 then
    if h2 : n < 4096 then .isTrue (fun d h3 h4 => by
      have hd : d < 64 := by
        refine Int.not_le.mp fun z => ?_
        have := Int.mul_le_mul z z (by decide) (by omega)
        omega
      have e : ((d.toNat : Nat) : Int) = d := Int.toNat_of_nonneg (by omega)
      have := h ⟨d.toNat, by omega⟩ ⟨by show 2 ≤ d.toNat; omega, by show ((d.toNat : Nat) : Int) * ((d.toNat : Nat) : Int) ≤ n; rw [e]; exact h4⟩
      rwa [show (((⟨d.toNat, by omega⟩ : Fin 64).val : Nat) : Int) = d from e] at this)
    else if h5 : ∀ k : Fin n.toNat, (2 ≤ k.val ∧ (k.val : Int) * k.val ≤ n) → n % (k.val : Int) ≠ 0 then .isTrue (fun d h3 h4 => by
      have hd : d < n := by
        refine Int.not_le.mp fun z => ?_
        have : n * 2 ≤ d * d := Int.mul_le_mul z h3 (by decide) (by omega)
        omega
      have e : ((d.toNat : Nat) : Int) = d := Int.toNat_of_nonneg (by omega)
      have := h5 ⟨d.toNat, by omega⟩ ⟨by show 2 ≤ d.toNat; omega, by show ((d.toNat : Nat) : Int) * ((d.toNat : Nat) : Int) ≤ n; rw [e]; exact h4⟩
      rwa [show (((⟨d.toNat, by omega⟩ : Fin n.toNat).val : Nat) : Int) = d from e] at this)
    else .isFalse fun z => h5 fun k hk => z k.val (by omega) hk.2
  else .isFalse fun z => h fun k hk => z k.val (by omega) hk.2
noncomputable instance (n : Int) : Decidable (Pr n) := inferInstanceAs (Decidable (_ ∧ _))
theorem prN {p : Int} (h : Pr p) (d : Nat) (hd : d ∣ p.natAbs) : d = 1 ∨ d = p.natAbs := by
  obtain ⟨e, he⟩ := hd
  have hp := h.1
  have h0 : p = ((d * e : Nat) : Int) := by omega
  by_cases d1 : d = 1
  · exact .inl d1
  by_cases e1 : e = 1
  · right; rw [he, e1, Nat.mul_one]
  exfalso
  have d0 : d ≠ 0 := fun z => by rw [z, Nat.zero_mul] at he; omega
  have e0 : e ≠ 0 := fun z => by rw [z, Nat.mul_zero] at he; omega
  by_cases c : d ≤ e
  · refine h.2 d (by omega) ?_ ?_
    · rw [h0]
      have : d * d ≤ d * e := Nat.mul_le_mul_left d c
      exact_mod_cast this
    · rw [h0, Int.natCast_mul]
      exact Int.mul_emod_right _ _
  · refine h.2 e (by omega) ?_ ?_
    · rw [h0]
      have : e * e ≤ d * e := Nat.mul_le_mul_right e (by omega)
      exact_mod_cast this
    · rw [h0, Int.natCast_mul]
      exact Int.mul_emod_left _ _
theorem cop_or {p : Int} (h : Pr p) (b : Nat) : p.natAbs ∣ b ∨ Nat.Coprime b p.natAbs := by
  rcases prN h _ (Nat.gcd_dvd_right b p.natAbs) with e | e
  · exact .inr e
  · left
    have := Nat.gcd_dvd_left b p.natAbs
    rwa [e] at this
/-- the first of the places below N at which P holds -/
noncomputable def Fst (P : Nat → Prop) (N : Nat) : Option Nat → Prop
  | none => ∀ e, e < N → ¬ P e
  | some e => e < N ∧ P e ∧ ∀ j, j < e → ¬ P j
theorem Fst.same {P P' : Nat → Prop} {N M S : Nat} {r r' : Option Nat} (h : Fst P N r) (h' : Fst P' M r') (e : ∀ j, P j ↔ P' j) (st : ∀ j, S ≤ j → P j → P S) (hN : S < N) (hM : S < M) : r = r' := by
  have low : ∀ j, P j → ∃ i, i ≤ S ∧ i ≤ j ∧ P i := fun j hj => by
    by_cases c : S ≤ j
    · exact ⟨S, Nat.le_refl _, c, st j c hj⟩
    · exact ⟨j, by omega, Nat.le_refl _, hj⟩
  cases r with
  | none =>
    cases r' with
    | none => rfl
    | some e' =>
      obtain ⟨i, h1, h2, h3⟩ := low e' ((e e').mpr h'.2.1)
      exact absurd h3 (h i (by omega))
  | some e1 =>
    cases r' with
    | none =>
      obtain ⟨i, h1, h2, h3⟩ := low e1 h.2.1
      exact absurd ((e i).mp h3) (h' i (by omega))
    | some e2 =>
      have a1 : ¬ e1 < e2 := fun z => h'.2.2 e1 z ((e e1).mp h.2.1)
      have a2 : ¬ e2 < e1 := fun z => h.2.2 e2 z ((e e2).mpr h'.2.1)
      have : e1 = e2 := by omega
      rw [this]
theorem walk_rangeY {lo : Int} {n : Nat} : Walk (Itr lo n) ((List.range n).map fun i : Nat => V.int (lo + i)).length (fun _ => True) (YAt ((List.range n).map fun i : Nat => V.int (lo + i))) := by
  have h := walk_range (lo := lo) (n := n)
  have e : ((List.range n).map fun i : Nat => V.int (lo + i)).length = n := by simp
  rw [e]
  refine h.mono (fun _ h => h) (fun i H x H' hi _ y => ?_)
  obtain ⟨rfl, rfl⟩ := y
  refine ⟨rfl, ?_⟩
  rw [List.getElem?_map, List.getElem?_range hi]
  rfl
noncomputable def hv (cs : List Int) (b : Int) : Int := cs.foldl (fun f c => f * b + c) 0
theorem hv_fold (cs : List Int) (b : Int) : ∀ a : Int, cs.foldl (fun f c => f * b + c) a = a * b ^ cs.length + hv cs b := by
  unfold hv
  induction cs with
  | nil => intro a; simp
  | cons c r ih =>
    intro a
    rw [List.foldl_cons, List.foldl_cons, ih, ih (0 * b + c), List.length_cons, Int.pow_succ, Int.zero_mul, Int.zero_add, Int.add_mul, Int.mul_assoc, Int.mul_comm b]
    omega
noncomputable def spMixed : Sp := fun vs H Q _ => ∃ a b : Int, vs = [.int a, .int b] ∧ 0 ≤ a ∧ a < 2 ^ 31 ∧ 0 ≤ b ∧ b < 2 ^ 60 ∧ ∀ r : Int, 0 ≤ r → r < 2 ^ 31 → Q (.int r) H
noncomputable def spPurse (K : PySem.W.Frag) : Sp := fun vs H Q _ => ∃ (a : Addr) (ns : List Int) (i : Int), vs = [.ref a, .int i] ∧ SqL K H a (ns.map V.int) ∧ 0 ≤ i ∧ i < 2 ^ 40 ∧
  ∀ p H', H p = none → Same H H' → Purse H' p (1000 * i) → Q (.ref p) H'
noncomputable def spDraw : Sp := fun vs H Q _ => ∃ (a : Addr) (n c : Int), vs = [.ref a, .int n] ∧ 0 < n ∧ n < 2 ^ 60 ∧ c < 2 ^ 50 ∧ Purse H a c ∧
  ∀ r H', 0 ≤ r → r < n → Keep a H H' → Purse H' a (c + 1) → Q (.int r) H'
theorem use_draw {H : Hp} {Q : VK} {E : XK} {a : Addr} {n c : Int} (p : Purse H a c) (n0 : 0 < n) (n1 : n < 2 ^ 60) (hc : c < 2 ^ 50) (q : ∀ r H', 0 ≤ r → r < n → Keep a H H' → Purse H' a (c + 1) → Q (.int r) H') :
    spDraw ([.ref a, .int n] ++ []) H Q E := ⟨a, n, c, rfl, n0, n1, hc, p, q⟩
theorem w_st {t : TS} {N : List Str} {vs : List V} {σ' : L2.St} {D : Ends} {H : Hp} (h : L2.start N vs = σ') (q : t D σ' H) : t D (L2.start N vs) H := by rw [h]; exact q
theorem w_setN {te : TE} {i : Nat} {σ : L2.St} {σ' : V → L2.St} {D : Ends} {H : Hp} (h : ∀ x, σ.set i (some x) = σ' x) (q : te σ H fun x H1 => D.nx (σ' x) H1) : tAsg te (gName i) D σ H := by
  have e : (fun x H1 => D.nx (σ' x) H1) = fun x H1 => gName i x σ H1 D.nx := by
    funext x H1
    rw [← h x]
    rfl
  show te σ H fun x H1 => gName i x σ H1 D.nx
  rw [← e]
  exact q
theorem w_nxD {D : Ends} {σ : L2.St} {H : Hp} (q : D.nx σ H) : D.nx σ H := q
theorem w_rtD {D : Ends} {v : V} {H : Hp} (q : D.rt v H) : D.rt v H := q
theorem w_ctD {D : Ends} {σ : L2.St} {H : Hp} (q : D.ct σ H) : D.ct σ H := q
theorem w_bkD {D : Ends} {σ : L2.St} {H : Hp} (q : D.bk σ H) : D.bk σ H := q
end Bc
namespace Bc
open PySem PySem.Spec PyProof.Rows L2
theorem sz {n : Nat} (h : n ≤ 100000) : n ≤ sizeLine := Nat.le_trans h (by decide)
theorem vals_rev : ∀ {zs : List V} {ws : List Value}, Vals zs ws → Vals zs.reverse ws.reverse
  | _, _, .nil => .nil
  | _, _, .cons r t => by
    rw [List.reverse_cons, List.reverse_cons]
    exact Vals.append (vals_rev t) (.cons r .nil)
noncomputable def spLaw (K : PySem.W.Frag) : Sp := fun vs H Q _ => ∃ (a : Addr) (ns : List Int), vs = [.ref a] ∧ SqL K H a (ns.map V.int) ∧ ns.length ≤ 63 ∧ ∀ H', Q (.bl true) H'
end Bc
namespace Bc
open PySem PySem.Spec PyProof.Rows L2
noncomputable def NotAt (a : Addr) : V → Prop
  | .ref p => p ≠ a
  | _ => True
theorem TextAt.keep {a : Addr} {H H' : Hp} {v : V} {ls : List Int} (t : TextAt H v ls) (n : NotAt a v) (k : Keep a H H') : TextAt H' v ls := by
  cases t with
  | str z h l => exact .str z h l
  | lst p _ h l => exact .lst p _ (k _ _ n h) l
  | tup p _ h l => exact .tup p _ (k _ _ n h) l
end Bc
namespace Bc
open PySem PySem.Spec PyProof.Rows L2
section
variable {X : Cx} {k j : Nat} {C : Addr} {sp : Sp} {tf : TE} {t : TA} {fe e : Expr} {es : List Expr} {pos : Pos}
noncomputable def tCO (C : Addr) (sp : Sp) (E : XK) (tf : TE) (t : TA) : TE := fun σ H Q => tf σ H fun y H1 => ∃ a, y = V.ref a ∧ t σ H1 fun vs H2 => ((∃ dx vs, SlX.Slt H2 a C dx vs) ∨ ∃ dx fs, H2 a = some (.ins C dx fs)) ∧ sp (V.ref a :: vs) H2 Q E
theorem w_cO {σ : L2.St} {H : Hp} {Q : VK} {E : XK} (q : tf σ H fun y H1 => ∃ a, y = V.ref a ∧ t σ H1 fun vs H2 => ((∃ dx vs, SlX.Slt H2 a C dx vs) ∨ ∃ dx fs, H2 a = some (.ins C dx fs)) ∧ sp (V.ref a :: vs) H2 Q E) : tCO C sp E tf t σ H Q := q
end
end Bc
namespace Bc
open PySem PySem.Spec PyProof.Rows L2
theorem hv_app (u v : List Int) (b : Int) : hv (u ++ v) b = hv u b * b ^ v.length + hv v b := by
  show List.foldl _ _ _ = _
  rw [List.foldl_append, hv_fold]
  rfl
/-- the two rows of the search for an inverse -/
noncomputable def InvRow (r n one two f l : Int) : Prop := (one ≤ n ∧ two ≤ n) ∧ 0 < one ∧ 0 ≤ two ∧ (∃ u, f * r = one + n * u) ∧ (∃ v, l * r = two + n * v) ∧ Int.gcd one two = Int.gcd r n ∧ ∃ s F L : Int, (s = 1 ∨ s = -1) ∧ f = -s * F ∧ l = s * L ∧ 0 ≤ F ∧ 0 ≤ L ∧ L * one + F * two = n
theorem InvRow.start {r n : Int} (hn : 0 < n) : InvRow r n n (r % n) 0 1 := by
  have hlt := Int.emod_lt_of_pos r hn
  refine ⟨⟨by omega, by omega⟩, hn, Int.emod_nonneg _ (by omega), ⟨-1, by omega⟩, ⟨r / n, ?_⟩, ?_, 1, 0, 1, .inl rfl, rfl, rfl, by decide, by decide, by omega⟩
  · have := Int.emod_add_mul_ediv r n
    omega
  · have h := Int.gcd_mul_left_add_left n (r % n) (r / n)
    rw [Int.mul_ediv_add_emod] at h
    rw [Int.gcd_comm, h]
noncomputable def spRight : Sp := fun vs H Q _ => ∃ (a : Addr) (c : Int), vs = [.ref a] ∧ c < 2 ^ 46 ∧ Purse H a c ∧ ∀ H', Keep a H H' → Purse H' a (c + 10000) → Q (.bl true) H'
end Bc
namespace Bc
open PySem PySem.Spec PyProof.Rows L2
end Bc
namespace Bc
open PySem PySem.Spec PyProof.Rows L2
noncomputable def rm (a : Addr) (H : Hp) : Hp := fun b => if b = a then none else H b
section
variable {a b p : Addr} {c d : Int} {H H' X : Hp} {o : HO} {Q : VK} {ca : CA} {K : PySem.W.Frag}
theorem rm_le : Same (rm a H) H := fun b o h => by
  unfold rm at h
  by_cases e : b = a
  · rw [if_pos e] at h; cases h
  · rwa [if_neg e] at h
theorem rm_of (n : b ≠ a) (h : H b = some o) : rm a H b = some o := by
  unfold rm
  rw [if_neg n]; exact h
theorem rm_none (h : H b = none) : rm a H b = none := by
  unfold rm
  by_cases e : b = a
  · rw [if_pos e]
  · rw [if_neg e]; exact h
theorem rm_self : rm a H a = none := by
  unfold rm
  rw [if_pos rfl]
theorem Keep.rm (k : Keep a H H') : Same (rm a H) (rm a H') := fun b o h => by
  by_cases e : b = a
  · rw [e, rm_self] at h; cases h
  · exact rm_of e (k b o e (rm_le _ _ h))
theorem _root_.L2.Same.rm (s : Same H H') : Same (rm a H) (rm a H') := Keep.rm (.of s)
theorem Keep.ofR (s : Same (Bc.rm a H) (Bc.rm a H')) : Keep a H H' := fun b o n h => rm_le _ _ (s b o (rm_of n h))
theorem rm_in (n : X a = none) (s : Same X H) : Same X (rm a H) := fun b o h => rm_of (fun e => by rw [e, n] at h; cases h) (s b o h)
theorem rm_updS : rm a (upd H a o) = rm a H := by
  funext b
  by_cases e : b = a
  · rw [e, rm_self, rm_self]
  · unfold rm
    rw [if_neg e, if_neg e, upd_ne e]
theorem same_rm (s : Same X (rm a H)) : Same X H := s.trans rm_le
theorem hpL (h : X b = some o) (s : Same X H) : H b = some o := s _ _ h
theorem al (q : ∀ p H', H p = none → Same H H' → H' p = some o → atV Q (.ref p) H') : ∀ p, H p = none → atV Q (.ref p) (upd H p o) := fun p n => q p _ n (Same.new n) upd_same
theorem alR (pu : Purse H a c) (q : ∀ p H', Same (rm a H) (rm a H') → Purse H' a c → rm a H' p = some o → rm a H p = none → atV Q (.ref p) H') : ∀ p, H p = none → atV Q (.ref p) (upd H p o) := fun p n =>
  q p _ (Same.new n).rm (pu.same (Same.new n)) (rm_of (pu.fresh n) upd_same) (rm_none n)
theorem PrL.rm {l : Addr} {ps : List (Int × Int)} (h : PrL H l ps) (pu : Purse H a c) : PrL (rm a H) l ps := by
  obtain ⟨ts, h1, h2⟩ := h
  exact ⟨ts, rm_of (pu.ne h1 refs_ne) h1, paired_imp (fun _ _ z => rm_of (pu.ne z fun _ _ _ w => by cases w) z) h2⟩
theorem ModAt.rm {m : Addr} {ps : List (Int × Int)} (h : ModAt ca H m ps) (pu : Purse H a c) : ModAt ca (rm a H) m ps := by
  obtain ⟨dx, t, ts, h1, h2, h3, h4⟩ := h
  exact ⟨dx, t, ts, rm_of (pu.ne h1 fun _ _ _ w => by cases w) h1, rm_of (pu.ne h2 fun _ _ _ w => by cases w) h2, paired_imp (fun _ _ z => rm_of (pu.ne z fun _ _ _ w => by cases w) z) h3, h4⟩
theorem MkAt.rm {m : Addr} {l : Bool} {s : Int} {e : Bool} (h : MkAt ca H m l s e) (pu : Purse H a c) : MkAt ca (rm a H) m l s e := by
  obtain ⟨dx, h1⟩ := h
  exact ⟨dx, rm_of (pu.ne h1 fun _ _ _ w => by cases w) h1⟩
theorem WayAt.rm {m : Addr} {b : Int} {ps : List (Int × Int)} {y : Sty} (h : WayAt ca H m b ps y) (pu : Purse H a c) : WayAt ca (rm a H) m b ps y := by
  obtain ⟨dx, m1, k1, h1, h2, h3, h4⟩ := h
  exact ⟨dx, m1, k1, rm_of (pu.ne h1 fun _ _ _ w => by cases w) h1, h2.rm pu, h3.rm pu, h4⟩
theorem TextAt.rm {v : V} {ls : List Int} (t : TextAt H v ls) (n : NotAt a v) : TextAt (rm a H) v ls := by
  cases t with
  | str z h l => exact .str z h l
  | lst p _ h l => exact .lst p _ (rm_of n h) l
  | tup p _ h l => exact .tup p _ (rm_of n h) l
variable {x m k : Addr} {bb : Int} {ps : List (Int × Int)} {y : Sty} {mg : Str → Option Value} {P : V → Prop}
theorem w_wbase (X : Kx K mg ca) (h : WayAt ca H x bb ps y) (q : P (.int bb)) : ∃ a C dx fs v, V.ref x = .ref a ∧ H a = some (.ins C dx fs) ∧ Cls K C ∧ NoAttr K C "base" ∧ fs.lookup ("base" : Str) = some v ∧ P v := by
  obtain ⟨dx, m, k, hx, _⟩ := h
  exact w_fldi hx X.wy.cl X.base wy_base q
theorem w_wnum (X : Kx K mg ca) (h : WayAt ca H x bb ps y) (q : P (.int (num ps))) : ∃ a C dx fs v, V.ref x = .ref a ∧ H a = some (.ins C dx fs) ∧ Cls K C ∧ NoAttr K C "number" ∧ fs.lookup ("number" : Str) = some v ∧ P v := by
  obtain ⟨dx, m, k, hx, _⟩ := h
  exact w_fldi hx X.wy.cl X.wnumber wy_number q
theorem w_wmark (X : Kx K mg ca) (h : WayAt ca H x bb ps y) (q : ∀ k, MkAt ca H k y.low y.shift y.lead → P (.ref k)) : ∃ a C dx fs v, V.ref x = .ref a ∧ H a = some (.ins C dx fs) ∧ Cls K C ∧ NoAttr K C "marking" ∧ fs.lookup ("marking" : Str) = some v ∧ P v := by
  obtain ⟨dx, m, k, hx, hm, hk, _⟩ := h
  exact w_fldi hx X.wy.cl X.marking wy_marking (q k hk)
theorem w_wmod (X : Kx K mg ca) (h : WayAt ca H x bb ps y) (q : ∀ m, ModAt ca H m ps → P (.ref m)) : ∃ a C dx fs v, V.ref x = .ref a ∧ H a = some (.ins C dx fs) ∧ Cls K C ∧ NoAttr K C "modulus" ∧ fs.lookup ("modulus" : Str) = some v ∧ P v := by
  obtain ⟨dx, m, k, hx, hm, hk, _⟩ := h
  exact w_fldi hx X.wy.cl X.modulus wy_modulus (q m hm)
theorem w_mnum (X : Kx K mg ca) (h : ModAt ca H m ps) (q : P (.int (num ps))) : ∃ a C dx fs v, V.ref m = .ref a ∧ H a = some (.ins C dx fs) ∧ Cls K C ∧ NoAttr K C "number" ∧ fs.lookup ("number" : Str) = some v ∧ P v := by
  obtain ⟨dx, t, ts, hx, _⟩ := h
  exact w_fldi hx X.md.cl X.number md_number q
theorem w_mfac (X : Kx K mg ca) (h : ModAt ca H m ps) (q : ∀ t ts, H t = some (.tup (ts.map V.ref)) → Paired (Tp H) ps ts → P (.ref t)) : ∃ a C dx fs v, V.ref m = .ref a ∧ H a = some (.ins C dx fs) ∧ Cls K C ∧ NoAttr K C "factors" ∧ fs.lookup ("factors" : Str) = some v ∧ P v := by
  obtain ⟨dx, t, ts, hx, h1, h2, _⟩ := h
  exact w_fldi hx X.md.cl X.factors md_factors (q t ts h1 h2)
theorem w_klow (X : Kx K mg ca) {l e : Bool} {s : Int} (h : MkAt ca H k l s e) (q : P (.bl l)) : ∃ a C dx fs v, V.ref k = .ref a ∧ H a = some (.ins C dx fs) ∧ Cls K C ∧ NoAttr K C "low" ∧ fs.lookup ("low" : Str) = some v ∧ P v := by
  obtain ⟨dx, hx⟩ := h
  exact w_fldi hx X.kg.cl X.low mk_low q
theorem w_kshift (X : Kx K mg ca) {l e : Bool} {s : Int} (h : MkAt ca H k l s e) (q : P (.int s)) : ∃ a C dx fs v, V.ref k = .ref a ∧ H a = some (.ins C dx fs) ∧ Cls K C ∧ NoAttr K C "shift" ∧ fs.lookup ("shift" : Str) = some v ∧ P v := by
  obtain ⟨dx, hx⟩ := h
  exact w_fldi hx X.kg.cl X.shift mk_shift q
theorem w_klead (X : Kx K mg ca) {l e : Bool} {s : Int} (h : MkAt ca H k l s e) (q : P (.bl e)) : ∃ a C dx fs v, V.ref k = .ref a ∧ H a = some (.ins C dx fs) ∧ Cls K C ∧ NoAttr K C "lead" ∧ fs.lookup ("lead" : Str) = some v ∧ P v := by
  obtain ⟨dx, hx⟩ := h
  exact w_fldi hx X.kg.cl X.lead mk_lead q
variable {E : XK} {n : Int} {l g : Addr} {PP : Addr → Hp → Prop}
theorem use_drawR (pu : Purse H a c) (n0 : 0 < n) (n1 : n < 2 ^ 60) (hc : c < 2 ^ 50) (q : ∀ r H', 0 ≤ r → r < n → Same (rm a H) (rm a H') → Purse H' a (c + 1) → Q (.int r) H') : spDraw ([.ref a, .int n] ++ []) H Q E :=
  use_draw pu n0 n1 hc fun r H' h0 h1 k p => q r H' h0 h1 k.rm p
theorem use_modR (pu : Purse H a c) (hl : PrL H l ps) (ha : Asc 0 ps) (hs : Small ps) (q : ∀ m H', Same (rm a H) (rm a H') → Purse H' a c → ModAt ca (rm a H') m ps → PP m H') :
    ∀ x dx, H x = none → H dx = none → dx ≠ x → spModInit ca (.ref x :: ([.ref l] ++ [])) (upd (upd H dx (.own x)) x (.ins ca.md dx [])) (fun v H2 => v = .non ∧ PP x H2) E := by
  obtain ⟨ts, h1, h2⟩ := hl
  exact use_mod h1 h2 ha hs fun m H' _ s hm => q m H' s.rm (pu.same s) (hm.rm (pu.same s))
theorem use_modS (hl : PrL H l ps) (ha : Asc 0 ps) (hs : Small ps) (q : ∀ m H', Same H H' → ModAt ca H' m ps → PP m H') :
    ∀ x dx, H x = none → H dx = none → dx ≠ x → spModInit ca (.ref x :: ([.ref l] ++ [])) (upd (upd H dx (.own x)) x (.ins ca.md dx [])) (fun v H2 => v = .non ∧ PP x H2) E := by
  obtain ⟨ts, h1, h2⟩ := hl
  exact use_mod h1 h2 ha hs fun m H' _ s hm => q m H' s hm
end
end Bc
namespace Bc
open PySem PySem.Spec PyProof.Rows L2
end Bc
namespace Bc
open PySem PySem.Spec PyProof.Rows L2
section
variable {σ : L2.St} {H : Hp} {Q : VK} {ta tb : TE} {tr : L2.St → Hp → (Int → Int → Hp → Prop) → Prop} {R : Int → Int → Hp → Prop} {i j : Int} {P : Prop}
theorem w_lstRg (q : tr σ H fun a b H1 => RgOk a b ∧ ∀ q, H1 q = none → atV Q (.ref q) (upd H1 q (.lst (rgV a b)))) : tLstRg tr σ H Q := q
theorem w_rg1 (q : ta σ H fun x H1 => ∃ n, x = .int n ∧ R 0 n H1) : tRg1 ta σ H R := q
theorem w_rg2 (q : ta σ H fun x H1 => tb σ H1 fun y H2 => ∃ i j, x = .int i ∧ y = .int j ∧ R i j H2) : tRg2 ta tb σ H R := q
theorem w_rg2i {P : Int → Int → Prop} (q : P i j) : ∃ a b, V.int i = .int a ∧ V.int j = .int b ∧ P a b := ⟨i, j, rfl, rfl, q⟩
theorem w_rgok (h : -(2 ^ 62) ≤ i ∧ i < 2 ^ 62 ∧ -(2 ^ 62) ≤ j ∧ j < 2 ^ 62 ∧ (j - i).toNat ≤ 2 ^ 24) (q : P) : RgOk i j ∧ P := ⟨h, q⟩
end
section
variable {c : TT} {tb : TS} {D : Ends} {σ : L2.St} {H : Hp}
theorem while_nm {Pv : Nat → L2.St → Hp → Prop} {m : Nat} (q : tb { D with nx := fun σ' H' => ∃ m', m' < m ∧ Pv m' σ' H', ct := fun σ' H' => ∃ m', m' < m ∧ Pv m' σ' H', bk := D.nx } σ H) :
    ∃ N : L2.St → Hp → Prop, (∀ σ' H', N σ' H' → ∃ m', m' < m ∧ Pv m' σ' H') ∧ tb { D with nx := N, ct := N, bk := D.nx } σ H := ⟨_, fun _ _ h => h, q⟩
end
theorem w_unl {K : PySem.W.Frag} {H : Hp} {σ : L2.St} {tg : TGs} {p : Addr} {xs : List V} {k : Nat} {Qs : L2.St → Hp → Prop} (h : SqL K H p xs) (l : xs.length = k) (q : tg xs σ H Qs) : gUnl K k tg (.ref p) σ H Qs := ⟨p, xs, rfl, h, l, q⟩
end Bc
namespace Bc
open PySem PySem.Spec PyProof.Rows L2
noncomputable def LL (H : Hp) (r : Addr) (cuts : List (List Int)) : Prop := ∃ as : List Addr, H r = some (.lst (as.map V.ref)) ∧ Paired (fun c p => H p = some (.lst (c.map V.int))) cuts as
noncomputable def PM (y : Sty) (b n : Int) (H : Hp) (r : Addr) (us : List (List Int)) : Prop := ∃ qs : List Addr, H r = some (.lst (qs.map V.ref)) ∧ Paired (fun c q => H q = some (.lst [.int (mark y b n c), .int c.length])) us qs
theorem LL.same {H H' : Hp} {r : Addr} {cuts : List (List Int)} (h : LL H r cuts) (s : Same H H') : LL H' r cuts := by
  obtain ⟨as, h1, h2⟩ := h
  exact ⟨as, s _ _ h1, paired_imp (fun _ _ z => s _ _ z) h2⟩
theorem PM.same {y : Sty} {b n : Int} {H H' : Hp} {r : Addr} {us : List (List Int)} (h : PM y b n H r us) (s : Same H H') : PM y b n H' r us := by
  obtain ⟨as, h1, h2⟩ := h
  exact ⟨as, s _ _ h1, paired_imp (fun _ _ z => s _ _ z) h2⟩
theorem atI_map {α : Type} {f : α → V} {ls : List α} {i : Int} {x : α} (h0 : 0 ≤ i) (h : ls[i.toNat]? = some x) : atI (ls.map f) i = some (f x) := atI_get h0 (by rw [List.getElem?_map, h]; rfl)
end Bc
namespace Bc
open PySem PySem.Spec PyProof.Rows L2
/-- __init__ of an error with one field -/
noncomputable def spErr (C : Addr) (f : Str) : Sp := fun vs H Q _ => ∃ (a : Addr) (v : V), vs = [.ref a, v] ∧ H a = some (exo a C none) ∧ ∀ dx, H dx = none → dx ≠ a → Q .non (upd (upd H dx (exd dx [(f, v)])) a (exo a C (some dx)))
structure Err (P : Program) (w : World) (K : PySem.W.Frag) (mg : Str → Option Value) (base : Heap) (k : Nat) (x : Str) (C : Addr) (f : Str) : Prop where
  ex : ∃ (fI : Addr) (fd : FuncData) (ps : List Str), OexC K C ∧ PySem.W.findIn K (.ref C) "__init__" = some (some (.ref fI)) ∧ PySem.W.typeIn K (.ref fI) = some (.type "function") ∧ FnOk P w K mg base L2.CX0 k fI fd ps (spErr C f) ∧ Binds K fd ps [] ∧ mg x = some (.ref C)
/-- what is known of an error that is caught -/
structure ErrC (K : PySem.W.Frag) (mg : Str → Option Value) (x : Str) (C : Addr) (f : Str) : Prop where
  gC : mg x = some (.ref C)
  xf : XfC K C
  no : PySem.W.findIn K (.ref C) f = some none
  te : PySem.W.exmOne K (.ref C) (.ref C) = some true
section
variable {X : Cx} {k j : Nat} {x f : Str} {C : Addr} {sp : Sp} {dvs : List V} {p pos pos2 : Pos} {e : Expr} {es : List Expr} {ta t : TA} {W : WX}
theorem ps_rse (c : Err X.prog X.w X.K X.mg X.base k x C f) (hc : X.calm = true) (hr : Room j X.A) (hk : k + 1 ≤ j) (tk : Takes X W) (hg : Gl X x) (ha : PA X (e :: es) ta)
    (hdb : (x == ("__debug__" : Str)) = false := by decide) (he : starEach (e :: es) X.env = (false, eval e X.env) :: starEach es X.env := by rfl) (hpl : (backTo pos (starEach es X.env)).any (·.1) = false := by rfl) :
    PS X (.Raise (some (.Call (.Name x p) (e :: es) [] pos)) none pos2) (fun _ σ H => tMkO C (spErr C f) [] ta σ H fun cls d H' => W cls d σ H') := by
  obtain ⟨fI, fd, ps, T, iC, tI, F, b, hm⟩ := c.ex
  exact ps_raise hc tk (pmk_oex T iC tI F (hr.mono hk) b .nil (fun _ _ _ _ _ _ _ h => h.elim) hg hm ha hdb he hpl)
theorem w_mkO {σ : L2.St} {H : Hp} {Q : XK} {dvs : List V} (q : ta σ H fun vs H1 => vs.length ≤ 1000 ∧ ∀ a, H1 a = none → sp (.ref a :: (vs ++ dvs)) (upd H1 a (exo a C none))
  (fun v H2 => v = .non ∧ ∃ (d : Addr) (fs : List (Str × V)), H2 a = some (exo a C (some d)) ∧ H2 d = some (exd d fs) ∧ H1 d = none ∧ Q (.ref C) (some d) (upd (del H2 a) d (.xd fs))) (fun _ _ _ => False)) : tMkO C sp dvs ta σ H Q := q
/-- the error flies: its dict is new, what stood stands -/
theorem w_fly {H : Hp} {E : XK} {E' : XK} {v : V} (q : ∀ d H2, H d = none → Same H H2 → H2 d = some (.xd [(f, v)]) → E (.ref C) (some d) H2) : [v].length ≤ 1000 ∧ ∀ a, H a = none → spErr C f (.ref a :: ([v] ++ [])) (upd H a (exo a C none))
    (fun u H2 => u = .non ∧ ∃ (d : Addr) (fs : List (Str × V)), H2 a = some (exo a C (some d)) ∧ H2 d = some (exd d fs) ∧ H d = none ∧ E (.ref C) (some d) (upd (del H2 a) d (.xd fs))) E' :=
  ⟨by show 1 ≤ 1000; decide, fun a na => ⟨a, v, rfl, upd_same, fun dx nd ne => ⟨rfl, dx, _, upd_same, by rw [upd_ne ne, upd_same], by rw [upd_ne ne] at nd; exact nd, q dx _ (by rw [upd_ne ne] at nd; exact nd) (fun b o h => by
    have nb : b ≠ a := ne_of_none h na
    have nb2 : b ≠ dx := ne_of_none h (by rw [upd_ne ne] at nd; exact nd)
    rw [upd_ne nb2, del_ne nb, upd_ne nb, upd_ne nb2, upd_ne nb]
    exact h) upd_same⟩⟩⟩
/-- a def that may raise -/
structure CalX (P : Program) (w : World) (K : PySem.W.Frag) (mg : Str → Option Value) (base : Heap) (k : Nat) (x : Str) (sp : Sp) (dvs : List V) : Prop where
  ex : ∃ (f : Addr) (fd : FuncData) (ps : List Str) (ds : List Value), FnOk P w K mg base (L2.CX P w) k f fd ps sp ∧ mg x = some (.ref f) ∧ PySem.W.keepIn K (.ref f) = true ∧ Binds K fd ps ds ∧ Vals dvs ds
theorem pe_cX (c : CalX X.prog X.w X.K X.mg X.base k x sp dvs) (hr : Room j X.A) (hk : k ≤ j) (hg : Gl X x) (tk : Takes X W) (ha : PA X (e :: es) t)
    (hdb : (x == ("__debug__" : Str)) = false := by decide) (he : starEach (e :: es) X.env = (false, eval e X.env) :: starEach es X.env := by rfl) (hpl : (backTo pos (starEach es X.env)).any (·.1) = false := by rfl) :
    PE X (.Call (.Name x p) (e :: es) [] pos) (tCallSD sp dvs (WE W) t) := by
  obtain ⟨f, fd, ps, ds, F, hm, kp, b, d⟩ := c.ex
  exact pe_callSD F (hr.mono hk) hg hm kp b d (fun σ => passAt tk σ) ha hdb he hpl
/-- a call of it that raises nothing -/
theorem pe_cL (c : CalX X.prog X.w X.K X.mg X.base k x sp dvs) (hr : Room j X.A) (hk : k ≤ j) (hg : Gl X x) (ha : PA X (e :: es) t)
    (hdb : (x == ("__debug__" : Str)) = false := by decide) (he : starEach (e :: es) X.env = (false, eval e X.env) :: starEach es X.env := by rfl) (hpl : (backTo pos (starEach es X.env)).any (·.1) = false := by rfl) :
    PE X (.Call (.Name x p) (e :: es) [] pos) (tCall sp dvs L2.E0 t) := by
  obtain ⟨f, fd, ps, ds, F, hm, kp, b, d⟩ := c.ex
  exact pe_call F (hr.mono hk) hg hm kp b d passL ha hdb he hpl
theorem w_callX {σ : L2.St} {H : Hp} {Q : VK} (q : t σ H fun vs H1 => sp (vs ++ dvs) H1 Q fun cls d H2 => W cls d σ H2) : tCallSD sp dvs (WE W) t σ H Q := q
structure CalXK (P : Program) (w : World) (K : PySem.W.Frag) (mg : Str → Option Value) (base : Heap) (k : Nat) (x : Str) (ks : List Str) (sp : Sp) (gV : List V → List V → List V) : Prop where
  ex : ∃ (f : Addr) (fd : FuncData) (ps : List Str) (g : List Value → List Value → List Value), FnOk P w K mg base (L2.CX P w) k f fd ps sp ∧ mg x = some (.ref f) ∧ PySem.W.keepIn K (.ref f) = true ∧ KBn K fd ps 0 ks g gV
theorem pe_cLK {ks : List Str} {gV : List V → List V → List V} {kws : List Keyword} {tk : TA} (c : CalXK X.prog X.w X.K X.mg X.base k x ks sp gV) (hr : Room j X.A) (hk : k ≤ j) (hg : Gl X x) (hkw : PK X kws tk)
    (hall : (backToKw pos (keywordEach kws X.env)).all (·.1.isSome) = true := by rfl) (hks : (backToKw pos (keywordEach kws X.env)).filterMap (·.1) = ks := by rfl) (hdb : (x == ("__debug__" : Str)) = false := by decide)
    (hpl : ((backTo pos (starEach [] X.env)).any (·.1) || (backToKw pos (keywordEach kws X.env)).any (·.1.isNone)) = false := by rfl) :
    PE X (.Call (.Name x p) [] kws pos) (tCallN 0 ks.length sp gV L2.E0 tNil tk) := by
  obtain ⟨f, fd, ps, g, F, hm, kp, b⟩ := c.ex
  refine ⟨fun pins s σ H Q I h => ?_⟩
  refine wpAny_Call_Name_kw (ld_glob I hg hm ?_ hdb)
  refine PySem.W.callWith_KW0 (h₀ := X.base) I.ok.mod.kin kp hall ?_ hpl
  refine thn (hkw.run pos pins s σ H _ I h) fun ws s2 ⟨zs, H2, I2, rz, l1, l2, q2⟩ => ⟨I2.kIn, ?_⟩
  rw [hks]
  exact run_fnN (us := []) (vs := []) F (hr.mono hk) b passL I2 .nil rz rfl l2 q2
end
section
variable {P : Program} {w : World} {K : PySem.W.Frag} {mg : Str → Option Value} {base : Heap}
theorem Dn.calX {x : Str} {st : Stmt} {N ps : List Str} {k : Nat} {sp : Sp} (F : Dn K mg x st ps) (S : FnScope N ps (defScope st)) (len : ∀ vs H Q E, sp vs H Q E → vs.length = ps.length)
    (hbody : ∀ (f : Addr) (cdv : Value) (A : Around) (outer : List Env) (s : Shared) (H : Hp) (vs : List V) (Q : VK) (E : XK), Room k (A.deeper (envOfC x (defScope st) s.heap.objs.size f cdv)) → sp vs H Q E →
      ∃ t, PSs (cxOf (L2.CX P w) P w K mg base N x (defScope st) f cdv A outer s H E) (defBody st) t ∧ t { nx := fun _ H' => Q .non H', rt := Q } (start N vs) H) : CalX P w K mg base (k + 1) x sp [] := by
  obtain ⟨f, fd, F1, m, b⟩ := F.ex
  exact ⟨f, fd, ps, [], F1.okX S len (fun cdv A outer s H vs Q E hr h => hbody f cdv A outer s H vs Q E hr h), m, F1.kp, b, .nil⟩
/-- the same for a def whose call by keywords is wanted, too -/
theorem fnX_ok {x qual : Str} {st : Stmt} {dvs : List V} {kws : List (Str × V)} {f : Addr} {fd : FuncData} {N ps : List Str} {k : Nat} {sp : Sp}
    (F : FunD K x qual (defArgs st) (defBody st) (defScope st) dvs kws f fd) (S : FnScope N ps (defScope st)) (len : ∀ vs H Q E, sp vs H Q E → vs.length = ps.length)
    (hbody : ∀ (cdv : Value) (A : Around) (outer : List Env) (s : Shared) (H : Hp) (vs : List V) (Q : VK) (E : XK), Room k (A.deeper (envOfC qual (defScope st) s.heap.objs.size f cdv)) → sp vs H Q E →
      ∃ t, PSs (cxOf (L2.CX P w) P w K mg base N qual (defScope st) f cdv A outer s H E) (defBody st) t ∧ t { nx := fun _ H' => Q .non H', rt := Q } (start N vs) H) : FnOk P w K mg base (L2.CX P w) (k + 1) f fd ps sp :=
  F.ok S len fun cdv A outer s H vs Q E hr h => hbody cdv A outer s H vs Q E hr h
end
theorem w_xf {a C : Addr} {cls : Value} {d : Option Addr} {f : Str} {te : TE} {σ : L2.St} {H : Hp} {Q : VK} (q : te σ H fun x H1 => x = .ref a ∧ cls = .ref C ∧ ∃ (dd : Addr) (fs : List (Str × V)) (v : V), d = some dd ∧ H1 dd = some (.xd fs) ∧ fs.lookup f = some v ∧ Q v H1) : tXf a cls d C f te σ H Q := q
theorem w_xfi {a C dd : Addr} {f : Str} {H : Hp} {v : V} {P : V → Prop} (h : H dd = some (.xd [(f, v)])) (q : P v) : V.ref a = .ref a ∧ Value.ref C = .ref C ∧ ∃ (d2 : Addr) (fs : List (Str × V)) (u : V), some dd = some d2 ∧ H d2 = some (.xd fs) ∧ fs.lookup f = some u ∧ P u := ⟨rfl, rfl, dd, _, v, rfl, h, lk0, q⟩
theorem exm_own {K : PySem.W.Frag} {S : Addr} (b : PySem.W.subIn K (.ref S) (.type "BaseException") = some true) (i : PySem.W.isClsIn K S = true) (t : PySem.W.typeIn K (.ref S) = some (.type "type")) (s : PySem.W.subIn K (.ref S) (.ref S) = some true) : PySem.W.exmOne K (.ref S) (.ref S) = some true := by
  have i' : (PySem.W.clsIn K S).isSome = true := i
  unfold PySem.W.exmOne PySem.W.kitCls
  simp only [b, i', t, s, BEq.rfl, Bool.and_self, if_true]
end Bc
namespace Bc
open PySem PySem.Spec PyProof.Rows L2
theorem gcd_mod (x n : Int) : Int.gcd (x % n) n = Int.gcd x n := by
  have h := Int.gcd_mul_left_add_left n (x % n) (x / n)
  rw [Int.mul_ediv_add_emod] at h
  exact h.symm
end Bc
namespace Bc
open PySem PySem.Spec PyProof.Rows L2
/-- what the Euclidean steps keep -/
noncomputable def InvOk (u n one other first second : Int) : Prop := 0 ≤ one ∧ 0 ≤ other ∧ other < one + 1 + n ∧ Int.gcd one other = Int.gcd n u ∧ (∃ k, first * u = one + n * k) ∧ (∃ k, second * u = other + n * k) ∧ ((0 ≤ second ∧ first ≤ 0 ∧ -first * other + second * one = n) ∨ (second ≤ 0 ∧ 0 ≤ first ∧ first * other + -second * one = n))
theorem InvOk.start {u n : Int} (hn : 0 < n) : InvOk u n n (u % n) 0 1 := by
  have h0 := Int.emod_nonneg u (show n ≠ 0 by omega)
  have h1 := Int.emod_lt_of_pos u hn
  refine ⟨by omega, h0, by omega, ?_, ⟨-1, by omega⟩, ⟨u / n, ?_⟩, .inl ⟨by decide, by decide, by omega⟩⟩
  · rw [Int.gcd_comm n (u % n), Int.gcd_comm n u]
    exact gcd_mod u n
  · rw [Int.one_mul]
    have := Int.mul_ediv_add_emod u n
    omega
theorem InvOk.le {u n one other first second : Int} (h : InvOk u n one other first second) (hn : 0 < n) (ho : 0 < other) : first.natAbs ≤ n.natAbs ∧ (0 < one → second.natAbs ≤ n.natAbs) ∧ one / other ≤ one ∧ 0 ≤ one / other := by
  obtain ⟨h1, h2, h3, h4, _, _, h5⟩ := h
  have hdiv : one / other ≤ one := Int.ediv_le_self _ h1
  have hdiv0 : 0 ≤ one / other := Int.ediv_nonneg h1 (by omega)
  have key : ∀ a b c d : Int, 0 ≤ a → 0 ≤ b → 0 ≤ c → 0 ≤ d → a * b + c * d = n → (0 < b → a ≤ n) ∧ (0 < d → c ≤ n) := fun a b c d ha hb hc hd e => by
    have p1 := Int.mul_nonneg ha hb
    have p2 := Int.mul_nonneg hc hd
    constructor
    · intro z
      have := Int.mul_le_mul_of_nonneg_left (show 1 ≤ b from z) ha
      omega
    · intro z
      have := Int.mul_le_mul_of_nonneg_left (show 1 ≤ d from z) hc
      omega
  rcases h5 with ⟨a1, a2, a3⟩ | ⟨a1, a2, a3⟩
  · obtain ⟨x1, x2⟩ := key (-first) other second one (by omega) h2 a1 h1 a3
    have := x1 ho
    exact ⟨by omega, fun z => by have := x2 z; omega, hdiv, hdiv0⟩
  · obtain ⟨x1, x2⟩ := key first other (-second) one a2 h2 (by omega) h1 a3
    have := x1 ho
    exact ⟨by omega, fun z => by have := x2 z; omega, hdiv, hdiv0⟩
end Bc
namespace Bc
open PySem PySem.Spec PyProof.Rows L2
/-- what is told of a part: its mark, or that it is open -/
noncomputable def DE (op : Prop) (m len : Int) (e : V) (G : Hp) : Prop := (¬ op ∧ e = .int m) ∨ (op ∧ ∃ p, e = .ref p ∧ G p = some (.lst [.str "open", .int len]))
theorem DE.same {op : Prop} {m len : Int} {e : V} {G G' : Hp} (h : DE op m len e G) (s : Same G G') : DE op m len e G' := by
  rcases h with h | ⟨h, p, e1, e2⟩
  · exact .inl h
  · exact .inr ⟨h, p, e1, s _ _ e2⟩
end Bc
namespace Bc
open PySem PySem.Spec PyProof.Rows L2
/-- a clause: its class, the slot of its name if it has one, its suite's reading -/
structure Cl where
  c : Value
  i : Option Nat
  ts : Addr → Value → Option Addr → TS
noncomputable def clEnds (i : Option Nat) (D : Ends) : Ends := match i with
  | none => D
  | some i => { nx := fun σ' H' => D.nx (σ'.set i none) H', rt := D.rt, bk := fun σ' H' => D.bk (σ'.set i none) H', ct := fun σ' H' => D.ct (σ'.set i none) H' }
noncomputable def clSlot (i : Option Nat) (a : Addr) (σ : L2.St) : L2.St := match i with
  | none => σ
  | some i => σ.set i (some (.ref a))
/-- what the clauses wish of an error of the body -/
noncomputable def wCls (K : PySem.W.Frag) (Wout : WX) (D : Ends) : List Cl → WX
  | [] => Wout
  | k :: r => fun cls d σ H => ∃ b, PySem.W.exmOne K cls k.c = some b ∧ (b = true → ∀ a, H a = none → k.ts a cls d (clEnds k.i D) (clSlot k.i a σ) H) ∧ (b = false → wCls K Wout D r cls d σ H)
inductive ClsOk (X : Cx) : List ExceptHandler → List Cl → Prop
  | nil : ClsOk X [] []
  | as {x n : Str} {c : Value} {i : Nat} {ts : Addr → Value → Option Addr → TS} {b₀ : Stmt} {suite : List Stmt} {np pos' : Pos} {hds : List ExceptHandler} {l : List Cl} (hN : X.N.Nodup) (hi : X.N[i]? = some n) (hln : X.env.kindOf n = some .local) (hc : Names X x c)
      (hsu : ∀ (a : Addr) (oe : Obj) (cls : Value) (d : Option Addr) (pn : List (Addr × Obj)), Zc cls d oe → (∃ vs, oe.data = .fields vs) → PSs (X.suite a ((a, oe) :: pn)) (b₀ :: suite) (ts a cls d)) (r : ClsOk X hds l) :
      ClsOk X (.ExceptHandler (some (.Name x np)) (some n) (b₀ :: suite) pos' :: hds) (⟨c, some i, ts⟩ :: l)
  | no {x : Str} {c : Value} {ts : Addr → Value → Option Addr → TS} {b₀ : Stmt} {suite : List Stmt} {np pos' : Pos} {hds : List ExceptHandler} {l : List Cl} (hc : Names X x c)
      (hsu : ∀ (a : Addr) (oe : Obj) (cls : Value) (d : Option Addr) (pn : List (Addr × Obj)), Zc cls d oe → (∃ vs, oe.data = .fields vs) → PSs (X.suite a ((a, oe) :: pn)) (b₀ :: suite) (ts a cls d)) (r : ClsOk X hds l) :
      ClsOk X (.ExceptHandler (some (.Name x np)) none (b₀ :: suite) pos' :: hds) (⟨c, none, ts⟩ :: l)
section
variable {X : Cx} {body : List Stmt} {h₀ : ExceptHandler} {hds : List ExceptHandler} {l : List Cl} {pos : Pos} {tb : WX → TS} {Wout : WX}
theorem ps_try_cls (hs : X.stack = X.env :: X.outer) (hf : X.env.frame = some X.env.locals) (tk : Takes X Wout)
    (hb : ∀ (W : WX) (pn : List (Addr × Obj)) (xe : Value → Shared → Prop), Takes (X.tr pn xe) W → PassesOwn (model X.prog X.w) X.A X.env xe → PSs (X.tr pn xe) body (tb W))
    (hh : ClsOk X (h₀ :: hds) l) : PS X (.Try body (h₀ :: hds) [] [] pos) (fun D σ H => tb (wCls X.K Wout D l) D σ H) := by
  refine ⟨fun pins s σ H D I h => ?_⟩
  have ok := I.ok
  have hfr : X.A.frames = some (X.env :: X.outer) := by rw [ok.frames, hs]
  refine wpAny_Try_except ?_
  refine wpAny_mono ((hb (wCls X.K Wout D l) (X.pn ++ pins) (fun e s₁ => wpAny (model X.prog X.w) X.A (noteFrame e X.env) (fun _ s₂ => wpAny (model X.prog X.w) X.A (setFlight e none) (fun _ s₃ =>
    wpAny (model X.prog X.w) X.A (handleBy e X.env (h₀ :: hds)) (SP X pins D) X.xe s₃) X.xe s₂) X.xe s₁) (fun u s' xx => ?_) PassesOwn.looking).run [] s σ H D (I.toTry _) h) (fun f s1 hsp => ?_) (fun e s1 he => he)
  · obtain ⟨a, B, sI, pins', σ', H', cls, d, rfl, J', nb, up, sky, na, os, ag, w⟩ := xx
    have J : Inv X pins σ' H' sI := J'.ofTry ok
    have sky' : Sky B (X.env :: X.outer) a (Zc cls d) X.env.locals s'.heap := by rw [← hs]; exact sky
    show wpAny (model X.prog X.w) X.A (noteFrame (.ref a) X.env) _ _ _
    refine Sky.land Zc.steady hfr hf sky' fun h3 fl3 up3 => ?_
    have J3 : Inv X pins σ' H' { s' with heap := h3 } := J.landed nb fl3.1 (up.trans up3) os ag
    obtain ⟨oe3, vs3, he3, hz3, hd3⟩ := fl3.there
    have nfr : a ∉ frs (X.env :: X.outer) := fun hm => by
      obtain ⟨_, o', e', hnf⟩ := fl3.2.2.1.mem hm
      rw [he3] at e'
      cases e'
      exact hnf _ hd3
    have nL : a ≠ X.env.locals := fun z => nfr (List.mem_filterMap.mpr ⟨X.env, List.mem_cons_self, by rw [hf, z]⟩)
    have nF : a ∉ X.fs := fun hm => by
      obtain ⟨e, he, q⟩ := List.mem_filterMap.mp hm
      exact nfr (List.mem_filterMap.mpr ⟨e, List.mem_cons_of_mem _ he, q⟩)
    have S3 := J3.suite he3 hd3 na nL nF
    have LT : PySem.W.Looks (model X.prog X.w) h3 (typeOf (.ref a)) cls := fun A Q E s k q => wpAny_typeOf_ref (k _ _ he3) (by rw [hz3.1]; exact q)
    have test : ∀ {x : Str} {c : Value} {np : Pos} {Q : Value → Shared → Prop} {E : Value → Shared → Prop}, Names X x c → Q c { s' with heap := h3 } → wpAny (model X.prog X.w) (X.A.mark (some (.ref a))) (eval (.Name x np) X.env) Q E { s' with heap := h3 } := fun {x c np Q E} hc q => by
      obtain ⟨hg, hdbg, hm | ⟨hm, hv, hnn⟩⟩ := hc
      · exact ld_glob (X := X.suite a ((a, oe3) :: (X.pn ++ pins))) S3 hg hm q hdbg
      · exact ld_blt (X := X.suite a ((a, oe3) :: (X.pn ++ pins))) S3 hg hm hv q hnn hdbg
    have go : ∀ {hds' : List ExceptHandler} {l' : List Cl}, ClsOk X hds' l' → wCls X.K Wout D l' cls d σ' H' →
        wpAny (model X.prog X.w) X.A (handleBy (.ref a) X.env hds') (SP X pins D) X.xe { s' with heap := h3 } := by
      intro hds' l' hk
      induction hk with
      | nil =>
        intro w
        refine wpAny_handleBy_nil ?_
        obtain ⟨k1, k2, k3, oe, vs, T, oT, ts', he, hz, hd, h1, hr⟩ := id fl3
        unfold PySem.passOn
        refine wpAny_bind (wpAny_field he hd h1 ?_)
        rw [if_neg (show ¬ ((Value.ref T == Value.none) = true) from by simp)]
        have fin : wpAny (model X.prog X.w) X.A (setFlight (.ref a) X.env.frame) (fun _ s4 => wpAny (model X.prog X.w) X.A (throw (.ref a) : Sem Flow) (SP X pins D) X.xe s4) X.xe { s' with heap := h3 } := by
          rw [hf]
          refine HandSPX.setFlight_upZ fl3 fun h4 hh4 up4 => wpAny_throw (tk _ _ ?_)
          exact ⟨a, B, sI, pins, σ', H', cls, d, rfl, J, nb, (up.trans up3).trans up4, .inr (.inr (by rw [hs]; exact hh4)), na, os, ag, w⟩
        first
          | exact wpAny_bind (wpAny_pure (wpAny_bind fin))
          | exact wpAny_bind fin
      | @as x n c i ts b₀ suite np pos' hds2 l2 hN hi hln hc hsu r ih =>
        intro w
        obtain ⟨b, hb1, hyes, hno⟩ := w
        refine wpAny_handleBy_cons (codeAny_handlers_test ?_) (by intro q; cases q)
        refine test hc ((PySem.W.exm_one (M := model X.prog X.w) (J3.kIn) LT hb1).here ?_)
        cases b with
        | true =>
          refine codeAny_handlers_suite_as ?_
          refine HandSPX.lands_againZ fl3 fun h4 fl4 up4 => ?_
          have J4 : Inv X pins σ' H' { s' with heap := h4 } := J.landed nb fl4.1 ((up.trans up3).trans up4) os ag
          obtain ⟨oe4, vs4, he4, hz4, hd4⟩ := fl4.there
          have S4 := J4.suite he4 hd4 na nL nF
          refine store_ok (X := X.suite a ((a, oe4) :: (X.pn ++ pins))) (v := .ref a) S4 hN hi (.inl hln) rfl (fun s5 S5 => ?_) (.inr hln)
          refine wpAny_mono ((hsu a oe4 cls d (X.pn ++ pins) hz4 ⟨_, hd4⟩).run [] s5 _ H' _ S5 (hyes rfl a na)) (fun f s6 hsp => ?_) (fun _ _ z => False.elim z)
          have end_ : ∀ {σ6 : L2.St} {H6 : Hp} {Q : Shared → Prop}, Inv (X.suite a ((a, oe4) :: (X.pn ++ pins))) [] σ6 H6 s6 → (∀ s7, Inv X pins (σ6.set i none) H6 s7 → Q s7) →
              wpAny (model X.prog X.w) X.A (do bindName X.env n .none; unbindBehindTheSuite X.env n pos') (fun _ s7 => Q s7) X.xe s6 := fun {σ6 H6 Q} S6 hq => gone_ok (S6.unsuite ok) hN hi hln hq
          cases f with
          | next =>
            obtain ⟨σ6, H6, S6, q6⟩ := hsp
            exact end_ S6 fun s7 J7 => ⟨_, _, J7, q6⟩
          | brk =>
            obtain ⟨σ6, H6, S6, q6⟩ := hsp
            exact end_ S6 fun s7 J7 => ⟨_, _, J7, q6⟩
          | cont =>
            obtain ⟨σ6, H6, S6, q6⟩ := hsp
            exact end_ S6 fun s7 J7 => ⟨_, _, J7, q6⟩
          | ret u =>
            obtain ⟨v6, σ6, H6, S6, r6, q6⟩ := hsp
            exact end_ S6 fun s7 J7 => ⟨_, _, _, J7, r6, q6⟩
        | false =>
          show wpAny _ X.A (handleBy (.ref a) X.env hds2) _ _ _
          exact ih (hno rfl)
      | @no x c ts b₀ suite np pos' hds2 l2 hc hsu r ih =>
        intro w
        obtain ⟨b, hb1, hyes, hno⟩ := w
        refine wpAny_handleBy_cons (codeAny_handlers_test ?_) (by intro q; cases q)
        refine test hc ((PySem.W.exm_one (M := model X.prog X.w) (J3.kIn) LT hb1).here ?_)
        cases b with
        | true =>
          refine codeAny_handlers_suite ?_
          refine HandSPX.lands_againZ fl3 fun h4 fl4 up4 => ?_
          have J4 : Inv X pins σ' H' { s' with heap := h4 } := J.landed nb fl4.1 ((up.trans up3).trans up4) os ag
          obtain ⟨oe4, vs4, he4, hz4, hd4⟩ := fl4.there
          have S4 := J4.suite he4 hd4 na nL nF
          refine wpAny_mono ((hsu a oe4 cls d (X.pn ++ pins) hz4 ⟨_, hd4⟩).run [] _ _ H' _ S4 (hyes rfl a na)) (fun f s6 hsp => ?_) (fun _ _ z => False.elim z)
          cases f with
          | next =>
            obtain ⟨σ6, H6, S6, q6⟩ := hsp
            exact ⟨_, _, S6.unsuite ok, q6⟩
          | brk =>
            obtain ⟨σ6, H6, S6, q6⟩ := hsp
            exact ⟨_, _, S6.unsuite ok, q6⟩
          | cont =>
            obtain ⟨σ6, H6, S6, q6⟩ := hsp
            exact ⟨_, _, S6.unsuite ok, q6⟩
          | ret u =>
            obtain ⟨v6, σ6, H6, S6, r6, q6⟩ := hsp
            exact ⟨_, _, _, S6.unsuite ok, r6, q6⟩
        | false =>
          show wpAny _ X.A (handleBy (.ref a) X.env hds2) _ _ _
          exact ih (hno rfl)
    exact go hh w
  · cases f with
    | next =>
      obtain ⟨σ', H', J', q⟩ := hsp
      exact wpAny_execs_nil ⟨σ', H', J'.ofTry ok, q⟩
    | brk =>
      obtain ⟨σ', H', J', q⟩ := hsp
      exact ⟨σ', H', J'.ofTry ok, q⟩
    | cont =>
      obtain ⟨σ', H', J', q⟩ := hsp
      exact ⟨σ', H', J'.ofTry ok, q⟩
    | ret u =>
      obtain ⟨v, σ', H', J', r, q⟩ := hsp
      exact ⟨v, σ', H', J'.ofTry ok, r, q⟩
end
section
variable {K : PySem.W.Frag} {W : WX} {D : Ends} {c cls : Value} {i : Nat} {ts : Addr → Value → Option Addr → TS} {r : List Cl} {d : Option Addr} {σ : L2.St} {H : Hp}
theorem w_clsA (te : PySem.W.exmOne K cls c = some true) (q : ∀ a, H a = none → ts a cls d { nx := fun σ' H' => D.nx (σ'.set i none) H', rt := D.rt, bk := fun σ' H' => D.bk (σ'.set i none) H', ct := fun σ' H' => D.ct (σ'.set i none) H' } (σ.set i (some (.ref a))) H) :
    wCls K W D (⟨c, some i, ts⟩ :: r) cls d σ H := ⟨true, te, fun _ => q, fun z => by cases z⟩
theorem w_cls0 {k : Cl} (te : PySem.W.exmOne K cls k.c = some false) (q : wCls K W D r cls d σ H) : wCls K W D (k :: r) cls d σ H := ⟨false, te, (fun z => by cases z), fun _ => q⟩
end
end Bc
namespace Bc
open PySem PySem.Spec PyProof.Rows L2
noncomputable def plainV : V → Bool
  | .byt _ => false
  | .flt _ => false
  | _ => true
noncomputable def Alk (K : PySem.W.Frag) (H : Hp) : Nat → V → V → Prop
  | 0, x, y => x = y ∧ plainV x = true
  | n + 1, x, y => (x = y ∧ plainV x = true) ∨ ∃ p q xs ys, x = .ref p ∧ y = .ref q ∧ SqL K H p xs ∧ SqL K H q ys ∧ Paired (Alk K H n) xs ys
theorem eq_self {x : V} {v u : Value} {A : Around} {s : Shared} (h : plainV x = true) (r : RelV x v) (r' : RelV x u) : PySem.SeqAt.EqAt A s v u true := by
  cases x with
  | non => cases r; cases r'; exact PySem.SeqAt.EqAt.same _
  | bl b => cases r; cases r'; exact PySem.SeqAt.EqAt.same _
  | int i =>
    obtain ⟨t, rfl⟩ := r
    obtain ⟨t', rfl⟩ := r'
    have := PySem.SeqAt.EqAt.int_int (A := A) (s := s) i t i t'
    rwa [beq_self_eq_true] at this
  | str z =>
    obtain ⟨t, rfl⟩ := r
    obtain ⟨t', rfl⟩ := r'
    have := PySem.SeqAt.EqAt.str_str (A := A) (s := s) z t z t'
    rwa [beq_self_eq_true] at this
  | byt b => cases h
  | flt b => cases h
  | ref a => cases r; cases r'; exact PySem.SeqAt.EqAt.same _
  | ty n => cases r; cases r'; exact PySem.SeqAt.EqAt.same _
section
variable {X : Cx} {pins : List (Addr × Obj)} {σ : L2.St} {H : Hp} {s : Shared}
theorem paired_at {α β : Type} {F : α → β → Prop} : ∀ {l : List α} {m : List β}, Paired F l m → ∀ j (h1 : j < l.length) (h2 : j < m.length), F l[j] m[j]
  | _, _, .cons h _, 0, _, _ => h
  | _, _, .cons _ r, j + 1, h1, h2 => paired_at r j (Nat.lt_of_succ_lt_succ h1) (Nat.lt_of_succ_lt_succ h2)
theorem rc_lists {F : V → V → Prop} {A : Around} {p q : Addr} {xs ys : List V} (I : Inv X pins σ H s) (hx : SqL X.K H p xs) (hy : SqL X.K H q ys) (hp : Paired F xs ys) (hu : A.units < cLine)
    (hF : ∀ x y v u, F x y → RelV x v → RelV y u → PySem.SeqAt.EqAt A.in1 s v u true) : PySem.SeqAt.RcAt A s (.ref p) (.ref q) true := by
  obtain ⟨is, r1, ⟨o1, n1, e1, c1, _, d1⟩, _⟩ := I.list hx
  obtain ⟨js, r2, ⟨o2, n2, e2, c2, _, d2⟩, _⟩ := I.list hy
  have l0 := hp.length
  have l1 := r1.length
  have l2 := r2.length
  have h := PySem.SeqAt.RcAt.lists (A := A) (e := fun _ => true) ⟨o1, e1, c1, n1, d1⟩ ⟨o2, e2, c2, n2, d2⟩ (by simp only [List.size_toArray]; omega) hu (fun j h1 h2 => by
    simp only [List.size_toArray] at h1 h2
    simp only [List.getElem_toArray]
    exact hF _ _ _ _ (paired_at hp j (by omega) (by omega)) (paired_at r1 j (by omega) h1) (paired_at r2 j (by omega) h2))
  rwa [show ((List.range is.toArray.size).all fun _ => true) = true from List.all_eq_true.mpr fun _ _ => rfl] at h
theorem Alk.eq (I : Inv X pins σ H s) : ∀ (n : Nat) (A : Around) (x y : V) (v u : Value), Alk X.K H n x y → RelV x v → RelV y u → A.units + n < cLine → PySem.SeqAt.EqAt A s v u true
  | 0, _, _, _, _, _, ⟨e, h⟩, r, r', _ => by subst e; exact eq_self h r r'
  | n + 1, A, _, _, _, _, .inl ⟨e, h⟩, r, r', _ => by subst e; exact eq_self h r r'
  | n + 1, A, _, _, _, _, .inr ⟨p, q, xs, ys, ex, ey, hx, hy, hp⟩, r, r', hu => by
    subst ex
    subst ey
    cases r
    cases r'
    by_cases hpq : p = q
    · subst hpq
      exact PySem.SeqAt.EqAt.same _
    · exact PySem.SeqAt.EqAt.of_refs hpq (rc_lists I hx hy hp (by omega) fun x y v u h r r' => Alk.eq I n A.in1 x y v u h r r' (by show A.units + 1 + n < cLine; omega))
end
end Bc
namespace Bc
open PySem PySem.Spec PyProof.Rows L2
theorem w_dnew {σ : L2.St} {H : Hp} {Q : VK} (q : ∀ p, H p = none → atV Q (.ref p) (upd H p (.dK []))) : tDNewK σ H Q := q
theorem w_isB {a b : Bool} {H : Hp} {Q : VK} (q : Q (.bl (decide (a = b))) H) : rIsB (.bl a) (.bl b) H Q := ⟨a, b, rfl, rfl, q⟩
theorem kit_no {K : PySem.W.Frag} {t : Value} {C : Addr} (ne : (t == .ref C) = false) (i : PySem.W.isClsIn K C = true) (ty : PySem.W.typeIn K (.ref C) = some (.type "type")) (s : PySem.W.subIn K t (.ref C) = some false) : PySem.W.kitOne K t (.ref C) = some false := by
  have i' : (PySem.W.clsIn K C).isSome = true := i
  unfold PySem.W.kitOne PySem.W.kitCls
  simp only [ne, i', ty, s, BEq.rfl, Bool.and_self, if_true, Bool.false_eq_true, if_false]
theorem exm_no {K : PySem.W.Frag} {B C : Addr} (b : PySem.W.subIn K (.ref C) (.type "BaseException") = some true) (i : PySem.W.isClsIn K C = true) (t : PySem.W.typeIn K (.ref C) = some (.type "type")) (s : PySem.W.subIn K (.ref B) (.ref C) = some false) : PySem.W.exmOne K (.ref B) (.ref C) = some false := by
  have i' : (PySem.W.clsIn K C).isSome = true := i
  unfold PySem.W.exmOne PySem.W.kitCls
  simp only [b, i', t, s, BEq.rfl, Bool.and_self, if_true]
end Bc
namespace Bc
open PySem PySem.Spec PyProof.Rows L2
structure FnG (P : Program) (w : World) (K : PySem.W.Frag) (mg : Str → Option Value) (base : Heap) (k : Nat) (f : Addr) (fd : FuncData) (ps : List Str) (sp : Sp) : Prop where
  ln : ∀ vs H Q E, sp vs H Q E → vs.length = ps.length
  go : ∀ A : Around, A.guards = some [] → Room k A → ∀ (o : List Env) (s : Shared) (H : Hp) (as : Args) (us : List Value) (vs : List V) (Q : VK) (E : XK), Env0 P w K mg base A o s H → BindsTo s fd as (ps.zip us) → Vals vs us → sp vs H Q E →
    codeAny (model P w) A (.call (.ref f) as) (CR L2.CX0 o P w H s Q E) s
section
variable {P : Program} {w : World} {K : PySem.W.Frag} {mg mb : Str → Option Value} {base : Heap} {k : Nat} {f : Addr} {fd : FuncData} {x qual : Str} {st : Stmt} {N ps : List Str} {sp : Sp}
theorem okG (F : L2.Fun K x qual st f fd) (S : FnScope N ps (defScope st)) (ln : ∀ vs H Q E, sp vs H Q E → vs.length = ps.length)
    (hb : ∀ (cv : Value) (A : Around) (o : List Env) (s : Shared) (H : Hp) (vs : List V) (Q : VK) (E : XK), Room k (A.deeper (envOfC qual (defScope st) s.heap.objs.size f cv)) → (A.deeper (envOfC qual (defScope st) s.heap.objs.size f cv)).guards = some [] → sp vs H Q E →
      ∃ t, PSs (cxOf CX0 P w K mg base N qual (defScope st) f cv A o s H E).nox (defBody st) t ∧ t { nx := fun _ G => Q .non G, rt := Q } (start N vs) H) : FnG P w K mg base (k + 1) f fd ps sp := by
  obtain ⟨_, _, _, _, _, _, cv, _, _, rfl, look, code⟩ := F.ex
  refine ⟨ln, fun A hA room o s H as us vs Q E e0 bd rv q => ?_⟩
  have there : ∀ b ob, base.get? b = some ob → s.heap.get? b = some ob := fun b ob e => (e0.bs b ob e).1
  have kin : K.In s.heap := e0.mod.kin.keeps there
  obtain ⟨t, ht, hq⟩ := hb cv A o s H vs Q E (room.deeper _) hA q
  refine codeAny_call_function room.depth (kin _ _ look) rfl S.co S.gen rfl (PySem.W.codeRec_of kin code) (bd _ _ _ _ (wpAny_newFunctionEnv_cells S.kind ?_ fun en he s1 ic => ?_))
  · rintro ⟨n, v⟩ hy
    exact (S.par n (List.of_mem_zip hy).1).imp id fun z => ⟨z, PySem.W.cellsFrom_some _ _ _ (.inl z)⟩
  · subst he
    refine ⟨(e0.mod.nolimit.keeps there).keeps ic.toInCall.keep, codeAny_func (wpAny_mono (ht.nox.run [] s1 (start N vs) H _ (inv_start S room.hd e0 (ln _ _ _ _ q) rv ic) hq) ?_ fun _ _ z => z)⟩
    rintro (_ | _ | _ | u) s' hs
    · obtain ⟨σ', H', J, q'⟩ := hs
      exact ⟨V.non, H', J.os, J.bare, J.base, J.hok, rfl, q'⟩
    · exact hs.elim fun _ ⟨_, _, z⟩ => z.elim
    · exact hs.elim fun _ ⟨_, _, z⟩ => z.elim
    · obtain ⟨v, σ', H', J, rv', q'⟩ := hs
      exact ⟨v, H', J.os, J.bare, J.base, J.hok, rv', q'⟩
/-- a def that is called by its name -/
structure CalG (P : Program) (w : World) (K : PySem.W.Frag) (mg : Str → Option Value) (base : Heap) (k : Nat) (x : Str) (sp : Sp) : Prop where
  ex : ∃ (f : Addr) (fd : FuncData) (ps : List Str), FnG P w K mg base k f fd ps sp ∧ mg x = some (.ref f) ∧ PySem.W.keepIn K (.ref f) = true ∧ Binds K fd ps []
theorem Dn.calG (F : Dn K mg x st ps) (S : FnScope N ps (defScope st)) (ln : ∀ vs H Q E, sp vs H Q E → vs.length = ps.length)
    (hb : ∀ (f : Addr) (cv : Value) (A : Around) (o : List Env) (s : Shared) (H : Hp) (vs : List V) (Q : VK) (E : XK), Room k (A.deeper (envOfC x (defScope st) s.heap.objs.size f cv)) → (A.deeper (envOfC x (defScope st) s.heap.objs.size f cv)).guards = some [] → sp vs H Q E →
      ∃ t, PSs (cxOf CX0 P w K mg base N x (defScope st) f cv A o s H E).nox (defBody st) t ∧ t { nx := fun _ G => Q .non G, rt := Q } (start N vs) H) : CalG P w K mg base (k + 1) x sp := by
  obtain ⟨f, fd, F1, m, b⟩ := F.ex
  exact ⟨f, fd, ps, okG F1 S ln (fun cv A o s H vs Q E hr hA h => hb f cv A o s H vs Q E hr hA h), m, F1.kp, b⟩
end
section
variable {X : Cx} {k j : Nat} {x : Str} {sp : Sp} {e : Expr} {es : List Expr} {t : TA} {p pos : Pos}
theorem pe_cG (c : CalG X.prog X.w X.K X.mg X.base k x sp) (hr : Room j X.A) (hk : k ≤ j) (hA : X.A.guards = some []) (hg : Gl X x) (ha : PA X (e :: es) t) (hdb : (x == ("__debug__" : Str)) = false := by decide)
    (he : starEach (e :: es) X.env = (false, eval e X.env) :: starEach es X.env := by rfl) (hpl : (backTo pos (starEach es X.env)).any (·.1) = false := by rfl) : PE X (.Call (.Name x p) (e :: es) [] pos) (tCall sp [] L2.E0 t) := by
  obtain ⟨f, fd, ps, F, hm, kp, hb⟩ := c.ex
  refine ⟨fun pins s σ H Q I h => wpAny_Call_Name_kw (ld_glob I hg hm (PySem.W.callWith_K (h₀ := X.base) I.ok.mod.kin kp (thn (ha.run pos pins s σ H _ I h) ?_) he hpl) hdb)⟩
  rintro us s1 ⟨vs, H1, I1, r, q⟩
  have r2 : Vals (vs ++ []) (us ++ []) := r.append .nil
  refine ⟨I1.kIn, wpAny_call (codeAny_mono (F.go X.A hA (hr.mono hk) X.stack s1 H1 ⟨us, []⟩ (us ++ []) (vs ++ []) Q L2.E0 I1.env0 (hb s1 us I1.kIn (r2.length.symm.trans (F.ln _ _ _ _ q))) r2 q) ?_)⟩
  rintro (er | fl) s' hq
  · exact hq.elim
  · cases fl with
    | ret u => exact I1.after hq
    | next => exact hq.elim
    | brk => exact hq.elim
    | cont => exact hq.elim
/-- str of a bool -/
noncomputable def rStrB : List V → Hp → VK → Prop := fun xs H Q => ∃ b, xs = [.bl b] ∧ Q (.str (if b = true then "True" else "False")) H
end
section
variable {P : Program} {w : World} {K : PySem.W.Frag} {mg mb : Str → Option Value} {k : Nat} {fa a : Addr} {fd : FuncData} {x : Str} {sp : Sp} {s₁ : Shared} {vs : List Value} {ns : List Int}
theorem lawG (KX : K.In s₁.heap) (hns : s₁.heap.Ns mainGlobals mg) (hb : s₁.heap.Ns builtinsNs mb) (hbb : ∀ y : Str, y ≠ "__name__" → mb y = bootBuiltins y) (hlim : s₁.heap.NoLimit) (hg : s₁.gens = #[])
    (ha : s₁.heap.get? a = some { cls := .type "list", data := .seq vs.toArray }) (hi : IntsAre vs ns) (hl : ns.length ≤ sizeLine) (hr : Room k callerA) (F : ∀ bs : Heap, K.In bs → bs.Ns mainGlobals mg → FnG P w K mg bs k fa fd [x] sp)
    (hbind : ∀ (s : Shared) (u : Value), BindsTo s fd ⟨[u], []⟩ [(x, u)]) (hsp : ∀ H : Hp, Only H → SqL K H a (ns.map V.int) → sp [.ref a] H (fun v _ => v = .bl true) fun _ _ _ => False) :
    codeAny (model P w) callerA (.call (.ref fa) ⟨[.ref a], []⟩) (fun r s' => r = .ok (.ret (.bool true)) ∧ OldK s₁.heap s'.heap ∧ s'.os = s₁.os ∧ AllBare s'.gens) s₁ := by
  -- H tracks the script alone, or nothing
  suffices hH : ∃ H : Hp, Only H ∧ SqL K H a (ns.map V.int) ∧ HOk P w H s₁.heap ∧ (∀ b, H b ≠ none → b = a) ∧ (H a ≠ none → K.lookup a = none) by
    obtain ⟨H, h1, h2, h3, h4, h5⟩ := hH
    have free : ∀ {b : Addr}, b ≠ a → H b = none := fun {b} n => Classical.byContradiction fun z => n (h4 b z)
    have keep : ∀ {b : Addr} {m : Str → Option Value}, s₁.heap.Ns b m → (hidT s₁.heap H).Ns b m := by
      rintro b m ⟨o, es, ep, e, d, r⟩
      refine ⟨o, es, ep, hidT_get e (free fun z => ?_), d, r⟩
      subst z
      rw [ha] at e
      cases e
      cases d
    have kin : K.In (hidT s₁.heap H) := fun b o e => hidT_get (KX b o e) (Classical.byContradiction fun z => by
      have z2 := h4 b z
      subst z2
      rw [h5 z] at e
      cases e)
    obtain ⟨mc, l1, l2⟩ := hlim
    refine codeAny_mono ((F _ kin (keep hns)).go callerA rfl hr [] s₁ H ⟨[.ref a], []⟩ [.ref a] [.ref a] _ _ ⟨rfl, ⟨kin, keep hns, ⟨mb, keep hb, hbb⟩, ⟨mc, keep l1, l2⟩⟩, fun _ _ e => of_hidT e, Nat.le_of_eq (hidT_size _ _), trivial, (fun _ z => by cases z), h3, .of_eq hg⟩
      (hbind s₁ (.ref a)) (.cons rfl .nil) (hsp H h1 h2)) ?_
    rintro (er | fl) s' h
    · exact h.elim
    · cases fl with
      | ret u =>
        obtain ⟨v, H', os, bare, un, ok', rv, q⟩ := h
        have q : v = .bl true := q
        subst q
        cases rv
        refine ⟨rfl, OldK.of_keep fun b o e => ?_, os, bare⟩
        rcases h1 b with z | ⟨ob, ys, z⟩
        · exact un.keep b o e z (by simp [frs]) (by simp)
        · have t1 := (h3 b _ z).1
          have t2 := (ok' b _ (un.frzs b ob _ z)).1
          rw [e] at t1
          cases t1
          exact t2
      | next => exact h.elim
      | brk => exact h.elim
      | cont => exact h.elim
  have rv := vals_ints hi
  have same : vs.toArray.size ≤ sizeLine := by
    rw [List.size_toArray, hi.length]
    exact hl
  by_cases hk : K.lookup a = none
  · refine ⟨fun b => if b = a then some (.frz { cls := .type "list", data := .seq vs.toArray } (.lst (ns.map V.int))) else none, fun b => ?_, .inl (.inr ⟨_, if_pos rfl⟩), fun b u z => ?_, fun b z => Classical.byContradiction fun n => z (if_neg n), fun _ => hk⟩
    · by_cases n : b = a
      · exact .inr ⟨_, _, if_pos n⟩
      · exact .inl (if_neg n)
    · by_cases n : b = a
      · subst n
        replace z := (if_pos rfl).symm.trans z
        cases z
        exact ⟨ha, by rw [List.length_map]; exact hl, vs, _, rv, ha⟩
      · replace z := (if_neg n).symm.trans z
        cases z
  · obtain ⟨o, ho⟩ := Option.ne_none_iff_exists'.mp hk
    have e := KX a o ho
    rw [ha] at e
    cases e
    exact ⟨fun _ => none, fun _ => .inl rfl, .inr ⟨_, vs.toArray, _, ho, rfl, rfl, rfl, same, by simpa using rv⟩, (fun b u z => by cases z), fun b z => absurd rfl z, fun z => absurd rfl z⟩
end
theorem walkG {l : PySem.W.OpenLaw} {n k : Nat} {q : Program} {loose : List Str} {XP : (Str → Option Value) → Heap → Prop} {YP : World → Heap → Prop} {d : DefRec} {K : Params → PySem.W.Frag} {sp : World → Sp} {x : Str} (hn : l.most = some n) (hz : n ≤ sizeLine) (hdf : d.params.defaults = []) (hr : Room k callerA)
    (hY : ∀ (w : World) (h : Heap), YP w h → (K w.params).In h) (F : ∀ (w : World) (mg : Str → Option Value) (fa : Addr) (h : Heap), (K w.params).In h → h.Ns mainGlobals mg → mg d.name = some (.ref fa) →
      ∃ fd : FuncData, (∀ (s : Shared) (u : Value), BindsTo s fd ⟨[u], []⟩ [(x, u)]) ∧ ∀ bs : Heap, (K w.params).In bs → bs.Ns mainGlobals mg → FnG l.prog w (K w.params) mg bs k fa fd [x] (sp w))
    (hsp : ∀ (w : World) (H : Hp) (a : Addr) (ns : List Int), ns.length ≤ n → Only H → SqL (K w.params) H a (ns.map V.int) → sp w [.ref a] H (fun v _ => v = .bl true) fun _ _ _ => False) : PySem.W.WalkO q loose XP YP l.row.toRowW d [] (fun f vs => PySem.call f vs) := by
  refine Att.attach_call hn hdf fun w s₀ s₁ mg mb fa o pm cd doc a vs ns G Y _ _ _ hmg hobj hints hlen hg => ?_
  obtain ⟨fd, hb, hF⟩ := F w mg fa _ (hY w _ Y) G.T.g hmg
  exact lawG (hY w _ Y) G.T.g G.T.b G.T.builtins G.T.nolimit hg hobj hints (Nat.le_trans hlen hz) hr hF hb fun H h1 h2 => hsp w H a ns hlen h1 h2
end Bc
namespace Bc
open PySem PySem.Spec PyProof.Rows L2
end Bc
namespace Bc
open PySem PySem.Spec PyProof.Rows L2
theorem w_strB {b : Bool} {H : Hp} {Q : VK} (q : Q (.str (if b = true then "True" else "False")) H) : rStrB [.bl b] H Q := ⟨b, rfl, q⟩
theorem w_rep {l : Addr} {k : Int} {xs : List V} {H : Hp} {Q : VK} (h : H l = some (.lst xs)) (h1 : -(2 ^ 63) ≤ k ∧ k < 2 ^ 63 ∧ xs.length * k.toNat ≤ sizeLine) (q : ∀ p, H p = none → atV Q (.ref p) (upd H p (.lst (List.replicate k.toNat xs).flatten))) : rRep (.ref l) (.int k) H Q := ⟨l, k, xs, rfl, rfl, h, h1.1, h1.2.1, h1.2.2, q⟩
end Bc
namespace Bc
open PySem PySem.Spec PyProof.Rows L2
noncomputable def ErrTo (E : XK) (C : Addr) (f : Str) (v : V) (H : Hp) : Prop := ∀ d H', H d = none → Same H H' → H' d = some (.xd [(f, v)]) → E (.ref C) (some d) H'
/-- a list of pairs of lists of letters -/
noncomputable def Two (H : Hp) (q : List Int × List Int) (t : Addr) : Prop := ∃ p1 p2 : Addr, H t = some (.tup [.ref p1, .ref p2]) ∧ H p1 = some (.lst (q.1.map V.int)) ∧ H p2 = some (.lst (q.2.map V.int)) ∧ q.1.length ≤ 1000 ∧ q.2.length ≤ 1000
noncomputable def TwL (H : Hp) (l : Addr) (qs : List (List Int × List Int)) : Prop := ∃ ts : List Addr, H l = some (.lst (ts.map V.ref)) ∧ Paired (Two H) qs ts
theorem Two.same {H H' : Hp} {q : List Int × List Int} {t : Addr} (h : Two H q t) (s : Same H H') : Two H' q t := by
  obtain ⟨p1, p2, h1, h2, h3, r⟩ := h
  exact ⟨p1, p2, s _ _ h1, s _ _ h2, s _ _ h3, r⟩
theorem TwL.same {H H' : Hp} {l : Addr} {qs : List (List Int × List Int)} (h : TwL H l qs) (s : Same H H') : TwL H' l qs := by
  obtain ⟨ts, h1, h2⟩ := h
  exact ⟨ts, s _ _ h1, paired_imp (fun _ _ z => z.same s) h2⟩
noncomputable def two (n s : Int) : List (List Int × List Int) := [([], [0 - s]), ([], [n - s])]
theorem hv1 (x b : Int) : hv [x] b = x := by simp [hv]
end Bc
namespace Bc
open PySem PySem.Spec PyProof.Rows L2
noncomputable def tLstB (t : TA) : TE := fun σ H Q => t σ H fun xs H1 => xs.length ≤ sizeLine ∧ ∀ p, H1 p = none → p ≠ sysModules → atV Q (.ref p) (upd H1 p (.lst xs))
section
variable {X : Cx} {es : List Expr} {t : TA} {pos : Pos}
theorem pe_lstB (h : PA X es t) : PE X (.List es pos) (tLstB t) := by
  refine ⟨fun pins s σ H Q I hq => wpAny_List_spliced (thn (h.run pos pins s σ H _ I hq) ?_)⟩
  rintro us s1 ⟨xs, H1, I1, r, z, q⟩
  refine ⟨by rw [← r.length]; exact z, .ref s1.heap.objs.size, upd H1 s1.heap.objs.size (.lst xs), ?_, rfl, q _ (I1.hok.fresh (Nat.le_refl _)) (Nat.ne_of_gt I1.big)⟩
  exact I1.laid (t' := s1.toks) (fun _ _ e => Heap.get?_push_of_some _ e) (Nat.le_refl _) ⟨z, us, 0, r, Heap.get?_push_size _ rfl⟩
end
theorem w_lstB {t : TA} {σ : L2.St} {H : Hp} {Q : VK} (q : t σ H fun xs H1 => xs.length ≤ sizeLine ∧ ∀ p, H1 p = none → p ≠ sysModules → atV Q (.ref p) (upd H1 p (.lst xs))) : tLstB t σ H Q := q
theorem alB {H : Hp} {Q : VK} {o : HO} (q : ∀ p H', H p = none → p ≠ sysModules → Same H H' → H' p = some o → atV Q (.ref p) H') : ∀ p, H p = none → p ≠ sysModules → atV Q (.ref p) (upd H p o) := fun p n ne => q p _ n ne (Same.new n) upd_same
theorem alRB {H : Hp} {Q : VK} {o : HO} {a : Addr} {c : Int} (pu : Purse H a c) (q : ∀ p H', p ≠ sysModules → Same (rm a H) (rm a H') → Purse H' a c → rm a H' p = some o → rm a H p = none → atV Q (.ref p) H') : ∀ p, H p = none → p ≠ sysModules → atV Q (.ref p) (upd H p o) := fun p n ne =>
  q p _ ne (Same.new n).rm (pu.same (Same.new n)) (rm_of (pu.fresh n) upd_same) (rm_none n)
mutual
inductive Dq (H : Hp) : V → PyData → Prop
  | non : Dq H .non .none
  | bl (b : Bool) : Dq H (.bl b) (.bool b)
  | int (i : Int) : Dq H (.int i) (.int i)
  | str (z : Str) : Dq H (.str z) (.str z)
  | lst {a : Addr} {xs : List V} {ds : List PyData} : a ≠ sysModules → H a = some (.lst xs) → DqAll H xs ds → Dq H (.ref a) (.list ds)
  | tup {a : Addr} {xs : List V} {ds : List PyData} : H a = some (.tup xs) → DqAll H xs ds → Dq H (.ref a) (.tuple ds)
  | dk {a : Addr} : H a = some (.dK []) → Dq H (.ref a) (.dict [])
inductive DqAll (H : Hp) : List V → List PyData → Prop
  | nil : DqAll H [] []
  | cons {v : V} {vs : List V} {d : PyData} {ds : List PyData} : Dq H v d → DqAll H vs ds → DqAll H (v :: vs) (d :: ds)
end
mutual
theorem Dq.same {H H' : Hp} (s : Same H H') : ∀ {v : V} {d : PyData}, Dq H v d → Dq H' v d
  | _, _, .non => .non
  | _, _, .bl b => .bl b
  | _, _, .int i => .int i
  | _, _, .str z => .str z
  | _, _, .lst n h t => .lst n (s _ _ h) (DqAll.same s t)
  | _, _, .tup h t => .tup (s _ _ h) (DqAll.same s t)
  | _, _, .dk h => .dk (s _ _ h)
theorem DqAll.same {H H' : Hp} (s : Same H H') : ∀ {vs : List V} {ds : List PyData}, DqAll H vs ds → DqAll H' vs ds
  | _, _, .nil => .nil
  | _, _, .cons h t => .cons (Dq.same s h) (DqAll.same s t)
end
section
variable {X : Cx} {pins : List (Addr × Obj)} {σ : L2.St} {H : Hp} {s : Shared}
mutual
theorem Dq.reads (I : Inv X pins σ H s) : ∀ {v : V} {d : PyData} {u : Value}, Dq H v d → RelV v u → ∃ as, Reads s.heap u d as ∧ sysModules ∉ as
  | _, _, _, .non, r => by cases r; exact ⟨_, .none, by simp⟩
  | _, _, _, .bl b, r => by cases r; exact ⟨_, .bool b, by simp⟩
  | _, _, _, .int i, r => by obtain ⟨t, rfl⟩ := r; exact ⟨_, .int i t, by simp⟩
  | _, _, _, .str z, r => by obtain ⟨t, rfl⟩ := r; exact ⟨_, .str z t, by simp⟩
  | _, _, _, .lst (a := a) n h t, r => by
    cases r
    obtain ⟨its, rv, ⟨o, k, ho, hc, _, hd⟩, _⟩ := I.list (sq h)
    obtain ⟨as, hr, no⟩ := DqAll.reads I t rv
    exact ⟨a :: as, .list ho hc hd hr, fun z => (List.mem_cons.mp z).elim (fun e => n e.symm) no⟩
  | _, _, _, .tup h t, r => by
    cases r
    obtain ⟨its, rv, ⟨o, ho, hc, k, hd⟩, _⟩ := I.tuple (sqt h)
    obtain ⟨as, hr, no⟩ := DqAll.reads I t rv
    exact ⟨as, .tuple ho hc hd hr, no⟩
  | _, _, _, .dk (a := a) h, r => by
    cases r
    obtain ⟨_, ne, vs, kv, o, es, ep, ho, hx, hd, _, he, _⟩ := dk_of I.hok h
    cases kv
    have e0 : es.toList = [] := by
      generalize es.toList = l at he
      cases he
      rfl
    refine ⟨[a], Reads.dict (kvs := []) (as := []) (bs := []) ho hx.1 hd (by rw [e0]; exact .nil) (by rw [e0]; exact .nil), fun z => ?_⟩
    have e : sysModules = a := by simpa using z
    rw [e] at ne
    simp at ne
theorem DqAll.reads (I : Inv X pins σ H s) : ∀ {vs : List V} {ds : List PyData} {us : List Value}, DqAll H vs ds → Vals vs us → ∃ as, ReadsAll s.heap us ds as ∧ sysModules ∉ as
  | _, _, _, .nil, .nil => ⟨_, .nil, by simp⟩
  | _, _, _, .cons h t, .cons r rs => by
    obtain ⟨as, q1, n1⟩ := Dq.reads I h r
    obtain ⟨bs, q2, n2⟩ := DqAll.reads I t rs
    exact ⟨as ++ bs, .cons q1 q2, fun z => (List.mem_append.mp z).elim n1 n2⟩
end
end
noncomputable def rStrQ : List V → Hp → VK → Prop := fun xs H Q => ∃ (a : Addr) (d : PyData), xs = [.ref a] ∧ Dq H (.ref a) d ∧ d.showable = true ∧ d.depth ≤ 50 ∧ d.shown.length ≤ sizeLine ∧ Q (.str d.shown) H
theorem cStrQ {X : Cx} (hA : X.A.guards = some []) (hu : X.A.units + 64 < cLine) : CallR X (.type "str") rStrQ := by
  intro pins s σ H xs us Q I r h
  obtain ⟨a, d, rfl, hd, hs, hp, hz, q⟩ := h
  obtain ⟨u, rfl, r1⟩ := vals1 r
  cases r1
  obtain ⟨as, rd, no⟩ := Dq.reads I hd rfl
  exact PySem.str_of_reads rd hs (fun _ => no) hA (by omega) (fun _ _ z => z) (fun h' u tk kp => ⟨.str _, H, I.kept kp, ⟨_, rfl⟩, q⟩) hz
theorem tyx_same {K : PySem.W.Frag} {H H' : Hp} {v : V} {t : Value} (h : TyX K H v t) (s : Same H H') : TyX K H' v t := by
  cases h with
  | base b =>
    refine .base ?_
    cases b with
    | non => exact .non
    | bl x => exact .bl x
    | int i => exact .int i
    | str x => exact .str x
    | flt x => exact .flt x
    | lst e => exact .lst (s _ _ e)
    | frz e => exact .frz (s _ _ e)
    | tup e => exact .tup (s _ _ e)
    | dK e => exact .dK (s _ _ e)
    | dT e => exact .dT (s _ _ e)
    | ins e cl ha hn htk hm => exact .ins (s _ _ e) cl ha hn htk hm
  | byt b => exact .byt b
  | set e => exact .set (s _ _ e)
  | kList e c => exact .kList e c
  | kTuple e c => exact .kTuple e c
  | kDict e c => exact .kDict e c
  | fTuple e => exact .fTuple (s _ _ e)
  | fDict e => exact .fDict (s _ _ e)
/-- is_integer's answer -/
noncomputable def IntB (K : PySem.W.Frag) (H : Hp) (v : V) (b : Bool) : Prop := ∃ (t : Value) (b1 b2 : Bool), TyX K H v t ∧ PySem.W.kitOne K t (.type "int") = some b1 ∧ PySem.W.kitOne K t (.type "bool") = some b2 ∧ b = (b1 && !b2)
theorem IntB.same {K : PySem.W.Frag} {H H' : Hp} {v : V} {b : Bool} (h : IntB K H v b) (s : Same H H') : IntB K H' v b := by
  obtain ⟨t, b1, b2, h1, h2⟩ := h
  exact ⟨t, b1, b2, tyx_same h1 s, h2⟩
noncomputable def sgn (c : Nat) : Bool := decide (32 ≤ c) && decide (c ≤ 126)
/-- is_text's answer -/
inductive TextB (K : PySem.W.Frag) (H : Hp) : V → Bool → Prop where
  | oth {v : V} {t : Value} (ty : TyX K H v t) (h1 : PySem.W.kitOne K t (.type "str") = some false) (h2 : PySem.W.kitAny K t [.type "list", .type "tuple"] = some false) : TextB K H v false
  | str (z : Str) (l : z.length ≤ 100000) : TextB K H (.str z) (z.cps.toList.all sgn)
  | lst (a : Addr) (xs : List V) (bs : List Bool) (h : H a = some (.lst xs)) (l : xs.length ≤ 100000) (p : Paired (IntB K H) xs bs) : TextB K H (.ref a) (bs.all id)
  | tup (a : Addr) (xs : List V) (bs : List Bool) (h : H a = some (.tup xs)) (l : xs.length ≤ 100000) (p : Paired (IntB K H) xs bs) : TextB K H (.ref a) (bs.all id)
theorem TextB.same {K : PySem.W.Frag} {H H' : Hp} {v : V} {b : Bool} (h : TextB K H v b) (s : Same H H') : TextB K H' v b := by
  cases h with
  | oth ty h1 h2 => exact .oth (tyx_same ty s) h1 h2
  | str z l => exact .str z l
  | lst a xs bs h l p => exact .lst a xs bs (s _ _ h) l (paired_imp (fun _ _ z => z.same s) p)
  | tup a xs bs h l p => exact .tup a xs bs (s _ _ h) l (paired_imp (fun _ _ z => z.same s) p)
theorem ints_b {K : PySem.W.Frag} {H : Hp} : ∀ ls : List Int, Paired (IntB K H) (ls.map V.int) (ls.map fun _ => true)
  | [] => .nil
  | l :: r => .cons ⟨_, true, false, ty_int l, kit_ty (by decide +kernel), kit_ty (by decide +kernel), rfl⟩ (ints_b r)
theorem TextAt.b {K : PySem.W.Frag} {H : Hp} {v : V} {ls : List Int} (t : TextAt H v ls) : TextB K H v true := by
  cases t with
  | str z h l =>
    have e : z.cps.toList.all sgn = true := List.all_eq_true.mpr fun c hc => by
      have := h c hc
      unfold sgn
      rw [decide_eq_true this.1, decide_eq_true this.2]
      rfl
    rw [← e]
    exact .str z l
  | lst a _ h l =>
    rw [← all_true ls]
    exact .lst a _ _ h (by rw [List.length_map]; exact l) (ints_b ls)
  | tup a _ h l =>
    rw [← all_true ls]
    exact .tup a _ _ h (by rw [List.length_map]; exact l) (ints_b ls)
end Bc
namespace Bc
open PySem PySem.Spec PyProof.Rows L2
/-- the value of coefficients, that of 1 first -/
noncomputable def ev (xs : List Int) (b : Int) : Int := hv xs.reverse b
theorem ev_cons (x : Int) (xs : List Int) (b : Int) : ev (x :: xs) b = ev xs b * b + x := by
  unfold ev
  rw [List.reverse_cons, hv_app, hv1]
  show hv xs.reverse b * b ^ 1 + x = _
  rw [Int.pow_succ, Int.pow_zero, Int.one_mul]
theorem ev_nil (b : Int) : ev [] b = 0 := rfl
section
variable {K : PySem.W.Frag} {te : TE} {vs : List Nat} {σ : L2.St} {H : Hp} {D a b : Addr} {Qd : Hp → Prop} {j1 j2 : Nat} {ta : TA} {R : It → Hp → Prop}
theorem w_iZip (q : ta σ H fun vs H1 => ∃ a b xs ys, vs = [.ref a, .ref b] ∧ SqL K H1 a xs ∧ SqL K H1 b ys ∧ R (Itz K a b) H1) : iZip K ta σ H R := q
theorem w_zipi {xs ys : List V} {P : Addr → Addr → Prop} (h1 : SqL K H a xs) (h2 : SqL K H b ys) (q : P a b) : ∃ c d xs ys, [V.ref a, V.ref b] = [.ref c, .ref d] ∧ SqL K H c xs ∧ SqL K H d ys ∧ P c d := ⟨a, b, xs, ys, rfl, h1, h2, q⟩
end
end Bc
namespace Bc
open PySem PySem.Spec PyProof.Rows L2
section
variable {X : Cx}
theorem w_augS {to ti te : TE} {tget : V → V → Hp → VK → Prop} {tip : TIp} {tset : TSet} {D : Ends} {σ : L2.St} {H : Hp}
    (q : to σ H fun o H1 => ti σ H1 fun i H2 => tget o i H2 fun x H3 => te σ H3 fun y H4 => tip x y H4 fun z H5 => tset o i z H5 fun H6 => D.nx σ H6) : tAugS to ti te tget tip tset D σ H := q
end
end Bc
namespace Bc
open PySem PySem.Spec PyProof.Rows L2
section
open PySem
variable {P : Program} {w : World} {A : Around} {E : Value → Shared → Prop} {s : Shared}
noncomputable abbrev so0 (w : World) : Obj := { cls := .type "set", dict := none, data := .set #[] 0 (.fresh 0 0 (!w.params.followText "set-order")) }
end
end Bc
namespace Bc
open PySem PySem.Spec PyProof.Rows L2
/-- the values of the list's tails at r: Horner's partial sums, the last one first -/
noncomputable def suf (r : Int) : List Int → List Int
  | [] => []
  | c :: cs => ev (c :: cs) r :: suf r cs
theorem suf_len (r : Int) : ∀ cs : List Int, (suf r cs).length = cs.length
  | [] => rfl
  | c :: cs => by
    show (suf r cs).length + 1 = cs.length + 1
    rw [suf_len r cs]
/-- division by x - r -/
theorem ev_suf (r x : Int) : ∀ (c : Int) (cs : List Int), ev (c :: cs) x = ev (c :: cs) r + (x - r) * ev (suf r cs) x
  | c, [] => by
    show _ = _ + (x - r) * ev [] x
    rw [ev_cons, ev_cons, ev_nil, ev_nil, Int.mul_zero, Int.zero_mul, Int.zero_mul, Int.add_zero]
  | c, d :: ds => by
    have ih := ev_suf r x d ds
    rw [show suf r (d :: ds) = ev (d :: ds) r :: suf r ds from rfl, ev_cons c, ev_cons c, ev_cons (ev (d :: ds) r), ih]
    generalize ev (suf r ds) x = S
    generalize ev (d :: ds) r = g
    simp only [Int.add_mul, Int.mul_add, Int.sub_mul, Int.mul_sub, Int.mul_assoc, Int.mul_comm, Int.mul_left_comm]
    omega
theorem pr_mul {p a b : Int} (hp : Pr p) (h : p ∣ a * b) : p ∣ a ∨ p ∣ b := by
  rcases cop_or hp a.natAbs with c | c
  · exact .inl (Int.natAbs_dvd_natAbs.mp c)
  · right
    rw [← Int.natAbs_dvd_natAbs, Int.natAbs_mul] at h
    exact Int.natAbs_dvd_natAbs.mp (Nat.Coprime.dvd_of_dvd_mul_left (Nat.coprime_comm.mp c) h)
theorem suf_zero {p r : Int} : ∀ {cs : List Int}, (∀ z ∈ suf r cs, p ∣ z) → ∀ z ∈ cs, p ∣ z
  | [], _, z, h => by cases h
  | c :: cs, hs, z, h => by
    have ih := suf_zero (cs := cs) fun z hz => hs z (List.mem_cons_of_mem _ hz)
    rcases List.mem_cons.mp h with e | e
    · rw [e]
      have h1 := hs _ (List.mem_cons_self ..)
      rw [ev_cons] at h1
      have h2 : p ∣ ev cs r := by
        cases cs with
        | nil => exact ⟨0, by rw [ev_nil]; omega⟩
        | cons d ds => exact hs _ (List.mem_cons_of_mem _ (List.mem_cons_self ..))
      have := Int.dvd_sub h1 (Int.dvd_trans h2 (Int.dvd_mul_right _ r))
      rwa [show ev cs r * r + c - ev cs r * r = c by omega] at this
    · exact ih z e
end Bc
namespace Bc
open PySem PySem.Spec PyProof.Rows L2
end Bc
namespace Bc
open PySem PySem.Spec PyProof.Rows L2
noncomputable def Pv : List Int → Int → Int
  | [], _ => 1
  | r :: rs, x => (x - r) * Pv rs x
theorem Pv_app (x : Int) : ∀ rs ts : List Int, Pv (rs ++ ts) x = Pv rs x * Pv ts x
  | [], ts => by rw [List.nil_append, Pv, Int.one_mul]
  | r :: rs, ts => by rw [List.cons_append, Pv, Pv, Pv_app x rs ts, Int.mul_assoc]
theorem Pv_snoc (x r : Int) (rs : List Int) : Pv (rs ++ [r]) x = Pv rs x * (x - r) := by
  rw [Pv_app, Pv, Pv, Int.mul_one]
theorem Pv_mem {x : Int} : ∀ {rs : List Int}, x ∈ rs → Pv rs x = 0
  | r :: rs, h => by
    rw [Pv]
    rcases List.mem_cons.mp h with e | e
    · rw [e, Int.sub_self, Int.zero_mul]
    · rw [Pv_mem e, Int.mul_zero]
theorem Pv_shift (c x : Int) : ∀ rs : List Int, Pv (rs.map (· + c)) (x + c) = Pv rs x
  | [] => rfl
  | r :: rs => by
    rw [List.map_cons, Pv, Pv, Pv_shift c x rs, show x + c - (r + c) = x - r by omega]
/-- p divides z just w times -/
noncomputable def EV (p z : Int) (w : Nat) : Prop := p ^ w ∣ z ∧ ¬ p ^ (w + 1) ∣ z
theorem pr_one {p : Int} (hp : Pr p) : ¬ p ∣ 1 := fun h => by
  have := Int.le_of_dvd (by decide) h
  have := hp.1
  omega
theorem pow_ne {p : Int} (hp : Pr p) (k : Nat) : p ^ k ≠ 0 := by
  have h : 0 < p ^ k := Int.pow_pos (by have := hp.1; omega)
  omega
theorem pow_dv {p : Int} {i j : Nat} (h : i ≤ j) : p ^ i ∣ p ^ j := ⟨p ^ (j - i), by rw [← Int.pow_add]; congr 1; omega⟩
theorem EV.fac {p z : Int} {w : Nat} (h : EV p z w) : ∃ u, z = p ^ w * u ∧ ¬ p ∣ u := by
  obtain ⟨u, rfl⟩ := h.1
  refine ⟨u, rfl, fun ⟨t, ht⟩ => h.2 ⟨t, ?_⟩⟩
  rw [ht, Int.pow_succ, Int.mul_assoc]
theorem EV.of {p u : Int} (hp : Pr p) {w : Nat} (h : ¬ p ∣ u) : EV p (p ^ w * u) w := by
  refine ⟨Int.dvd_mul_right .., fun ⟨t, ht⟩ => h ⟨t, ?_⟩⟩
  rw [Int.pow_succ, Int.mul_assoc] at ht
  exact Int.eq_of_mul_eq_mul_left (pow_ne hp w) ht
theorem EV.low {p z : Int} {w k : Nat} (h : EV p z w) (hk : p ^ k ∣ z) : k ≤ w := by
  refine Classical.byContradiction fun c => h.2 (Int.dvd_trans (pow_dv (by omega)) hk)
/-- p to the k divides p ^ w u d: then p ^ (k - w) divides d -/
theorem pow_cut {p : Int} (hp : Pr p) : ∀ (n : Nat) {u d : Int}, ¬ p ∣ u → p ^ n ∣ u * d → p ^ n ∣ d
  | 0, _, d, _, _ => by rw [Int.pow_zero]; exact Int.one_dvd d
  | n + 1, u, d, hu, h => by
    have h1 : p ∣ u * d := Int.dvd_trans ⟨p ^ n, by rw [Int.pow_succ, Int.mul_comm]⟩ h
    obtain ⟨e, rfl⟩ := (pr_mul hp h1).resolve_left hu
    have h2 : p ^ n ∣ u * e := by
      obtain ⟨t, ht⟩ := h
      refine ⟨t, ?_⟩
      have : p * (u * e) = p * (p ^ n * t) := by
        rw [Int.mul_left_comm, ht, Int.pow_succ, Int.mul_comm (p ^ n) p, Int.mul_assoc]
      exact Int.eq_of_mul_eq_mul_left (by have := hp.1; omega) this
    obtain ⟨t, rfl⟩ := pow_cut hp n hu h2
    exact ⟨t, by rw [Int.pow_succ, Int.mul_comm (p ^ n) p, Int.mul_assoc]⟩
theorem EV.cut {p z d : Int} (hp : Pr p) {w k : Nat} (h : EV p z w) (hw : w ≤ k) (hd : p ^ k ∣ z * d) : p ^ (k - w) ∣ d := by
  obtain ⟨u, rfl, hu⟩ := h.fac
  refine pow_cut hp (k - w) hu ?_
  obtain ⟨t, ht⟩ := hd
  refine ⟨t, ?_⟩
  have : p ^ w * (u * d) = p ^ w * (p ^ (k - w) * t) := by
    rw [← Int.mul_assoc, ht, ← Int.mul_assoc, ← Int.pow_add]
    congr 2
    omega
  exact Int.eq_of_mul_eq_mul_left (pow_ne hp w) this
/-- a row of integers of S, each with the least weight, below k -/
structure GR (p : Int) (k : Nat) (S rs : List Int) : Prop where
  all : ∀ a ∈ S, p ^ k ∣ Pv rs a
  sub : ∀ r ∈ rs, r ∈ S
  low : ∀ i, i < rs.length → ∃ w, w < k ∧ EV p (Pv (rs.take i) (rs.getD i 0)) w ∧ ∀ a ∈ S, p ^ w ∣ Pv (rs.take i) a
/-- a polynomial of a lesser degree that vanishes on the row has no coefficient that p does not divide -/
theorem nv {p : Int} {k : Nat} (hp : Pr p) : ∀ (rest don cs : List Int), (∀ i, i < rest.length → ∃ w, w < k ∧ EV p (Pv (don ++ rest.take i) (rest.getD i 0)) w ∧ ∀ a ∈ rest, p ^ w ∣ Pv (don ++ rest.take i) a) →
    cs.length ≤ rest.length → (∀ r ∈ rest, p ^ k ∣ Pv don r * ev cs r) → ∀ c ∈ cs, p ∣ c
  | [], _, cs, _, hl, _, c, hc => by
    have : cs = [] := List.length_eq_zero_iff.mp (by simpa using hl)
    subst this
    cases hc
  | _ :: _, _, [], _, _, _, c, hc => by cases hc
  | r :: rest, don, c0 :: cs, hg, hl, hv, c, hc => by
    obtain ⟨w, hw, he, hall⟩ := hg 0 (by simp)
    rw [List.take_zero, List.append_nil] at he hall
    have he : EV p (Pv don r) w := he
    have hd : p ^ (k - w) ∣ ev (c0 :: cs) r := he.cut hp (Nat.le_of_lt hw) (hv r List.mem_cons_self)
    have ih := nv hp rest (don ++ [r]) (suf r cs) (fun i hi => by
      obtain ⟨v, h1, h2, h3⟩ := hg (i + 1) (by rw [List.length_cons]; omega)
      rw [List.take_succ_cons] at h2 h3
      rw [show don ++ [r] ++ rest.take i = don ++ r :: rest.take i by rw [List.append_assoc]; rfl]
      exact ⟨v, h1, h2, fun a ha => h3 a (List.mem_cons_of_mem _ ha)⟩) (by rw [suf_len]; simpa using hl) fun x hx => by
      rw [Pv_snoc]
      have e := ev_suf r x c0 cs
      have e2 : Pv don x * (x - r) * ev (suf r cs) x = Pv don x * ev (c0 :: cs) x - Pv don x * ev (c0 :: cs) r := by
        rw [e, Int.mul_add, Int.mul_assoc]
        omega
      rw [e2]
      refine Int.dvd_sub (hv x (List.mem_cons_of_mem _ hx)) ?_
      obtain ⟨s, hs⟩ := hall x (List.mem_cons_of_mem _ hx)
      obtain ⟨t, ht⟩ := hd
      refine ⟨s * t, ?_⟩
      rw [hs, ht, show p ^ k = p ^ w * p ^ (k - w) by rw [← Int.pow_add]; congr 1; omega]
      simp only [Int.mul_assoc, Int.mul_left_comm]
    refine suf_zero (r := r) (cs := c0 :: cs) (fun z hz => ?_) c hc
    rcases List.mem_cons.mp hz with e | e
    · rw [e]
      exact Int.dvd_trans (by obtain ⟨j, hj⟩ : ∃ j, k - w = j + 1 := ⟨k - w - 1, by omega⟩
                              rw [hj, Int.pow_succ]
                              exact Int.dvd_mul_left ..) hd
    · exact ih z e
theorem GR.nv {p : Int} {k : Nat} {S rs : List Int} (hp : Pr p) (g : GR p k S rs) {cs : List Int} (hl : cs.length ≤ rs.length) (hv : ∀ a ∈ S, p ^ k ∣ ev cs a) : ∀ c ∈ cs, p ∣ c :=
  Bc.nv hp rs [] cs (fun i hi => by
    obtain ⟨w, h1, h2, h3⟩ := g.low i hi
    exact ⟨w, h1, h2, fun a ha => h3 a (g.sub a ha)⟩) hl fun r hr => by
    rw [Pv, Int.one_mul]
    exact hv r (g.sub r hr)
/-- the product has 1 among its coefficients -/
theorem Pv_ev : ∀ ts : List Int, ∃ cs : List Int, cs.length = ts.length + 1 ∧ cs.getLast? = some 1 ∧ ∀ x, ev cs x = Pv ts x
  | [] => ⟨[1], rfl, rfl, fun x => by rw [ev_cons, ev_nil, Int.zero_mul, Pv]; rfl⟩
  | t :: ts => by
    obtain ⟨cs, h1, h2, h3⟩ := Pv_ev ts
    have key : ∀ (cs : List Int) (d : Int), ∃ es : List Int, es.length = cs.length + 1 ∧ (∀ l, cs.getLast? = some l → es.getLast? = some l) ∧ ∀ x, ev es x = ev cs x * (x - t) + d := by
      intro cs
      induction cs with
      | nil => exact fun d => ⟨[d], rfl, (fun l h => by cases h), fun x => by rw [ev_cons, ev_nil, Int.zero_mul, Int.zero_mul]⟩
      | cons c cs ih =>
        intro d
        obtain ⟨es, e1, e2, e3⟩ := ih c
        refine ⟨(d - c * t) :: es, by rw [List.length_cons, List.length_cons, e1], fun l hl => ?_, fun x => ?_⟩
        · cases cs with
          | nil =>
            have hes : es = [c] := by
              match es, e1 with
              | [z], _ =>
                have := e3 0
                rw [ev_cons, ev_nil, Int.zero_mul] at this
                rw [show z = c by omega]
            rw [hes]
            exact hl
          | cons c' cs' =>
            have e4 := e2 l (by rw [List.getLast?_cons_cons] at hl; exact hl)
            cases es with
            | nil => cases e4
            | cons z zs => rw [List.getLast?_cons_cons]; exact e4
        · rw [ev_cons, e3, ev_cons]
          generalize ev cs x = g
          grind
    obtain ⟨es, e1, e2, e3⟩ := key cs 0
    refine ⟨es, by rw [e1, h1]; rfl, e2 _ h2, fun x => ?_⟩
    rw [e3, h3, Pv, Int.add_zero, Int.mul_comm]
theorem GR.key {p : Int} {k : Nat} {S rs ts : List Int} (hp : Pr p) (g : GR p k S rs) (hv : ∀ a ∈ S, p ^ k ∣ Pv ts a) : rs.length ≤ ts.length := by
  refine Classical.byContradiction fun c => ?_
  obtain ⟨cs, h1, h2, h3⟩ := Pv_ev ts
  have := g.nv hp (cs := cs) (by omega) (fun a ha => by rw [h3]; exact hv a ha) 1 (List.mem_of_getLast? h2)
  exact pr_one hp this
theorem GR.mono {p : Int} {k : Nat} {S S' rs rs' : List Int} (hp : Pr p) (g : GR p k S rs) (g' : GR p k S' rs') (h : ∀ a ∈ S, a ∈ S') : rs.length ≤ rs'.length := g.key hp fun a ha => g'.all a (h a ha)
theorem GR.shift {p : Int} {k : Nat} {S S' rs rs' : List Int} (hp : Pr p) (c : Int) (g : GR p k S rs) (g' : GR p k S' rs') (h : ∀ a ∈ S', ∃ b ∈ S, a = b + c) : rs'.length ≤ rs.length := by
  have := g'.key hp (ts := rs.map (· + c)) fun a ha => by
    obtain ⟨b, hb, rfl⟩ := h a ha
    rw [Pv_shift]
    exact g.all b hb
  rwa [List.length_map] at this
/-- 1 * 2 * .. * m -/
noncomputable def fct : Nat → Int
  | 0 => 1
  | m + 1 => fct m * (m + 1 : Nat)
noncomputable def ups (n : Nat) : List Int := (List.range n).map fun i : Nat => (i : Int)
theorem ups_succ (n : Nat) : ups (n + 1) = ups n ++ [(n : Int)] := by
  unfold ups
  rw [List.range_succ, List.map_append]
  rfl
theorem ups_fct (m : Nat) : Pv (ups m) m = fct m := by
  have key : ∀ m (x : Int), Pv (ups m) (x + 1) * (x + 1 - m) = (x + 1) * Pv (ups m) x := by
    intro m
    induction m with
    | zero => intro x; rw [show ups 0 = [] from rfl, Pv, Pv]; simp
    | succ m ih =>
      intro x
      rw [ups_succ, Pv_snoc, Pv_snoc]
      have := ih x
      rw [this, show (x + 1 - ((m + 1 : Nat) : Int)) = x - m by omega, Int.mul_assoc]
  induction m with
  | zero => rfl
  | succ m ih =>
    have h := key m m
    rw [ih, show ((m : Int) + 1 - m) = 1 by omega, Int.mul_one] at h
    rw [ups_succ, Pv_snoc, show (((m + 1 : Nat) : Int) - m) = 1 by omega, Int.mul_one, show ((m + 1 : Nat) : Int) = (m : Int) + 1 by omega, h, fct, Int.mul_comm]
    rfl
/-- m! divides a product of m integers one behind the other -/
theorem fct_dvd : ∀ (m a : Nat), fct m ∣ Pv (ups m) a := by
  have pascal : ∀ m (x : Int), Pv (ups (m + 1)) (x + 1) = Pv (ups (m + 1)) x + ((m + 1 : Nat) : Int) * Pv (ups m) x := by
    intro m
    have key : ∀ m (x : Int), Pv (ups m) (x + 1) * (x + 1 - m) = (x + 1) * Pv (ups m) x := by
      intro m
      induction m with
      | zero => intro x; rw [show ups 0 = [] from rfl, Pv, Pv]; simp
      | succ m ih =>
        intro x
        rw [ups_succ, Pv_snoc, Pv_snoc]
        have := ih x
        rw [this, show (x + 1 - ((m + 1 : Nat) : Int)) = x - m by omega, Int.mul_assoc]
    intro x
    rw [ups_succ, Pv_snoc, Pv_snoc, key m x, Int.mul_comm (Pv (ups m) x), ← Int.add_mul]
    congr 1
    omega
  intro m
  induction m with
  | zero => exact fun a => ⟨Pv (ups 0) a, by rw [fct, Int.one_mul]⟩
  | succ m ih =>
    intro a
    induction a with
    | zero =>
      rw [Pv_mem (by unfold ups; exact List.mem_map.mpr ⟨0, List.mem_range.mpr (by omega), rfl⟩)]
      exact Int.dvd_zero _
    | succ a iha =>
      rw [show ((a + 1 : Nat) : Int) = (a : Int) + 1 by omega, pascal]
      refine Int.dvd_add iha ?_
      obtain ⟨t, ht⟩ := ih a
      exact ⟨t, by rw [ht, fct]; simp only [Int.mul_assoc, Int.mul_comm, Int.mul_left_comm]⟩
/-- a polynomial with the leading coefficient 1 that vanishes on 0 .. l -/
theorem fd {M : Int} {l : Nat} : ∀ (n i : Nat) (cs : List Int), i + n = l → cs.length = n + 1 → cs.getLast? = some 1 → (∀ j : Nat, i ≤ j → j ≤ l → M ∣ Pv (ups i) j * ev cs j) → M ∣ fct l
  | 0, i, cs, hi, hl, hlast, hv => by
    match cs, hl with
    | [c], _ =>
      have e : c = 1 := by simpa using hlast
      subst e
      have := hv i (Nat.le_refl _) (by omega)
      rw [ev_cons, ev_nil, Int.zero_mul, Int.zero_add, Int.mul_one, ups_fct] at this
      rw [show l = i by omega]
      exact this
  | n + 1, i, c0 :: cs, hi, hl, hlast, hv => by
    have hl : cs.length = n + 1 := by simpa using hl
    have h0 := hv i (Nat.le_refl _) (by omega)
    rw [ups_fct] at h0
    have hlast2 : (suf (i : Int) cs).getLast? = some 1 := by
      have key : ∀ cs : List Int, cs ≠ [] → (suf (i : Int) cs).getLast? = cs.getLast? := by
        intro cs
        induction cs with
        | nil => exact fun h => absurd rfl h
        | cons c cs ih =>
          intro _
          cases cs with
          | nil =>
            show [ev [c] i].getLast? = _
            rw [ev_cons, ev_nil, Int.zero_mul, Int.zero_add]
          | cons d ds =>
            rw [show suf (i : Int) (c :: d :: ds) = ev (c :: d :: ds) i :: suf i (d :: ds) from rfl, List.getLast?_cons_cons (a := c), ← ih (by simp)]
            show (ev (c :: d :: ds) i :: ev (d :: ds) i :: suf i ds).getLast? = (ev (d :: ds) i :: suf i ds).getLast?
            rw [List.getLast?_cons_cons]
      rw [key cs (by intro z; rw [z] at hl; cases hl)]
      cases cs with
      | nil => cases hl
      | cons d ds => rw [List.getLast?_cons_cons] at hlast; exact hlast
    refine fd n (i + 1) (suf i cs) (by omega) (by rw [suf_len, hl]) hlast2 fun j h1 h2 => ?_
    have e := ev_suf (i : Int) j c0 cs
    have e2 : Pv (ups (i + 1)) j * ev (suf (i : Int) cs) j = Pv (ups i) j * ev (c0 :: cs) j - Pv (ups i) j * ev (c0 :: cs) i := by
      rw [ups_succ, Pv_snoc, e, Int.mul_add, Int.mul_assoc]
      omega
    rw [e2]
    refine Int.dvd_sub (hv j (by omega) h2) ?_
    obtain ⟨t, ht⟩ := fct_dvd i j
    rw [ht, Int.mul_assoc, Int.mul_left_comm]
    exact Int.dvd_trans h0 (Int.dvd_mul_left ..)
end Bc
namespace Bc
open PySem PySem.Spec PyProof.Rows L2
noncomputable def Lg (p : Int) (k : Nat) (xs : List Int) (n : Nat) : Prop := ∃ rs, GR p k xs rs ∧ rs.length = n
noncomputable def mxn (ns : List Nat) : Nat := ns.foldl max 0
structure Rch (xs : List Int) (ps : List (Int × Int)) (r : Nat) : Prop where
  ex : ∃ ns : List Nat, Paired (fun q n => Lg q.1 q.2.toNat xs n) ps ns ∧ r = mxn ns
theorem GR.congr {p : Int} {k : Nat} {S S' rs : List Int} (g : GR p k S rs) (h : ∀ a, a ∈ S ↔ a ∈ S') : GR p k S' rs :=
  ⟨fun a ha => g.all a ((h a).mpr ha), fun r hr => (h r).mp (g.sub r hr), fun i hi => by
    obtain ⟨w, h1, h2, h3⟩ := g.low i hi
    exact ⟨w, h1, h2, fun a ha => h3 a ((h a).mpr ha)⟩⟩
theorem foldl_max (ns : List Nat) (m : Nat) : ns.foldl max m = max m (mxn ns) := by
  unfold mxn
  induction ns generalizing m with
  | nil => simp
  | cons n ns ih => rw [List.foldl_cons, List.foldl_cons, ih, ih (max 0 n)]; omega
theorem mxn_cons (n : Nat) (ns : List Nat) : mxn (n :: ns) = max n (mxn ns) := by
  unfold mxn
  rw [List.foldl_cons, foldl_max]
  unfold mxn
  omega
theorem mxn_le {α β : Type} {P : α → Nat → Prop} {Q : β → Nat → Prop} {f : α → β → Prop} : ∀ {as : List α} {bs : List β} {ns ms : List Nat}, Paired P as ns → Paired Q bs ms → Paired f as bs → (∀ a b n m, a ∈ as → f a b → P a n → Q b m → n ≤ m) → mxn ns ≤ mxn ms
  | _, _, _, _, .nil, .nil, .nil, _ => Nat.le_refl _
  | _, _, _, _, .cons r1 t1, .cons r2 t2, .cons r3 t3, h => by
    rw [mxn_cons, mxn_cons]
    have h1 := h _ _ _ _ List.mem_cons_self r3 r1 r2
    have h2 := mxn_le t1 t2 t3 fun a b n m ha => h a b n m (List.mem_cons_of_mem _ ha)
    omega
theorem paired_refl {α : Type} : ∀ as : List α, Paired (fun a b => a = b) as as
  | [] => .nil
  | a :: as => .cons rfl (paired_refl as)
theorem Asc.prs {l : Int} {ps : List (Int × Int)} (h : Asc l ps) : ∀ q ∈ ps, Pr q.1 ∧ 0 < q.2 := by
  induction ps generalizing l with
  | nil => exact fun q h => by cases h
  | cons q ps ih =>
    intro q' hq
    obtain ⟨_, h2, h3, h4⟩ := h
    rcases List.mem_cons.mp hq with e | e
    · rw [e]; exact ⟨h3, h2⟩
    · exact ih h4 q' e
/-- by each prime -/
theorem Rch.le {xs ys : List Int} {ps : List (Int × Int)} {r s : Nat} (ha : Asc 0 ps) (h : Rch xs ps r) (h' : Rch ys ps s) (k : ∀ p k rs rs', Pr p → GR p k xs rs → GR p k ys rs' → rs.length ≤ rs'.length) : r ≤ s := by
  obtain ⟨ns, h1, rfl⟩ := h.ex
  obtain ⟨ms, h2, rfl⟩ := h'.ex
  refine mxn_le h1 h2 (paired_refl ps) fun q q' n m hq e hn hm => ?_
  subst e
  obtain ⟨rs, g, rfl⟩ := hn
  obtain ⟨rs', g', rfl⟩ := hm
  exact k _ _ _ _ (ha.prs q hq).1 g g'
/-- where the loop of short_row stands -/
structure SR (p : Int) (k : Nat) (S rs ns ws : List Int) : Prop where
  nd : ns.Nodup
  lt : ∀ i ∈ ns, 0 ≤ i ∧ i < S.length
  wl : ws.length = S.length
  cnt : rs.length + ns.length = S.length
  cov : ∀ i : Nat, i < S.length → (i : Int) ∈ ns ∨ S.getD i 0 ∈ rs
  wt : ∀ i ∈ ns, 0 ≤ ws.getD i.toNat 0 ∧ EV p (Pv rs (S.getD i.toNat 0)) (ws.getD i.toNat 0).toNat
  sub : ∀ r ∈ rs, r ∈ S
  low : ∀ i, i < rs.length → ∃ w, w < k ∧ EV p (Pv (rs.take i) (rs.getD i 0)) w ∧ ∀ a ∈ S, p ^ w ∣ Pv (rs.take i) a
theorem ev_one {p : Int} (hp : Pr p) : EV p 1 0 := ⟨by rw [Int.pow_zero]; exact Int.one_dvd 1, by rw [Int.pow_one]; exact pr_one hp⟩
theorem SR.start {p : Int} (hp : Pr p) (k : Nat) (S : List Int) : SR p k S [] (ups S.length) (List.replicate S.length 0) := by
  refine ⟨?_, fun i hi => ?_, List.length_replicate, ?_, fun i hi => .inl ?_, fun i hi => ?_, (fun r h => by cases h), (fun i h => by cases h)⟩
  · unfold ups
    rw [List.nodup_iff_pairwise_ne, List.pairwise_map]
    exact List.nodup_range.imp fun h e => h (by omega)
  · obtain ⟨j, hj, rfl⟩ := List.mem_map.mp hi
    have := List.mem_range.mp hj
    omega
  · unfold ups
    rw [List.length_map, List.length_range, List.length_nil, Nat.zero_add]
  · exact List.mem_map.mpr ⟨i, List.mem_range.mpr hi, rfl⟩
  · obtain ⟨j, hj, rfl⟩ := List.mem_map.mp hi
    have hj := List.mem_range.mp hj
    rw [Int.toNat_natCast, List.getD_eq_getElem?_getD, List.getElem?_replicate, if_pos hj]
    exact ⟨Int.le_refl _, ev_one hp⟩
noncomputable def flt (xs : List Int) (p : Nat → Int → Bool) : List Int := ((List.range xs.length).filter fun i => p i (xs.getD i 0)).map fun i => xs.getD i 0
theorem smallL {ps : List (Int × Int)} (h : ∀ q ∈ ps, 0 < q.1 ∧ q.1 < 1024 ∧ 0 < q.2 ∧ q.2 ≤ 100) (l : ps.length ≤ 64) : Small ps := ⟨h, l⟩
theorem paired_getL {α β : Type} {R : α → β → Prop} : ∀ {as : List α} {bs : List β}, Paired R as bs → ∀ {i : Nat} {a : α}, as[i]? = some a → ∃ b, bs[i]? = some b ∧ R a b
  | _, _, .nil, i, a, h => by cases h
  | _, _, .cons r t, i, a, h => by
    cases i with
    | zero =>
      cases h
      exact ⟨_, rfl, r⟩
    | succ i => exact paired_getL t (by simpa using h)
theorem Purse.fresh' {H : Hp} {a b : Addr} {c : Int} {rs : List Addr} (p : Purse H a c) (h : H b = some (.lst (rs.map V.ref))) (hn : rs ≠ []) : b ≠ a := fun e => by
  obtain ⟨x, y, z, h1, _⟩ := p
  rw [e, h1] at h
  cases rs with
  | nil => exact hn rfl
  | cons r t =>
    have := Option.some.inj h
    injection this with this
    injection this with e1
    cases e1
end Bc
namespace Bc
open PySem PySem.Spec PyProof.Rows L2
section
variable {J : It} {G : Hp → Prop} {te : TE} {vs : List Nat} {σ : L2.St} {H : Hp} {D : Addr} {Qd : Hp → Prop} {j : Nat}
/-- what is made of each item, by a relation that new things leave alone -/
theorem lc_rel (xs : List V) (R : V → V → Hp → Prop) (mono : ∀ x y G G', Same G G' → R x y G → R x y G') (w : Walk J xs.length G (YAt xs)) (hD : H D = none) (hG : ∀ H', Same H H' → G H') (sz : xs.length ≤ 100000)
    (wp : ∀ v, wipe ((wipe σ vs).set j v) vs = wipe σ vs)
    (step : ∀ (i : Nat) (x : V) (H' : Hp), xs[i]? = some x → Same H H' → (∃ acc, H' D = some (.lst acc)) → ∀ Q' : VK, (∀ (y : V) (H'' : Hp), Same H' H'' → R x y (rm D H'') → Q' y H'') → te ((wipe σ vs).set j (some x)) H' Q')
    (q : ∀ (H' : Hp) (ys : List V), Same H H' → H' D = some (.lst ys) → Paired (fun x y => R x y H') xs ys → Qd H') :
    ∃ W : Nat → Nat → Hp → Prop, (∃ m, W 0 m (upd H D (.lst []))) ∧ ∀ i m H, W i m H →
      (J.stop i H ∧ Qd H) ∨ (J.go i H ∧ ∃ Nx : Hp → Prop, (∀ H', Nx H' → ∃ m', m' < m ∧ W (i + 1) m' H') ∧ ∀ x H', J.yld i H x H' → gName j x (wipe σ vs) H' fun σ2 H2 => wipe σ2 vs = wipe σ vs ∧ tYes σ2 H2 fun b H3 =>
        if b = true then te σ2 H3 fun y H4 => ∃ acc, H4 D = some (.lst acc) ∧ acc.length < sizeLine ∧ Nx (upd H4 D (.lst (acc ++ [y]))) else Nx H3) := by
  refine lc_it w (fun i H' => ∃ ys : List V, Same H (rm D H') ∧ H' D = some (.lst ys) ∧ Paired (fun x y => R x y (rm D H')) (xs.take i) ys) ⟨[], ?_, upd_same, .nil⟩ (fun i H' _ h => by obtain ⟨_, k, _⟩ := h; exact hG H' (k.trans rm_le)) ?_ ?_
  · rw [rm_updS]
    exact rm_in hD (Same.refl _)
  · rintro i x H1 H' hi ⟨ys, h1, h3, h4⟩ ⟨rfl, hx⟩
    refine ⟨wp _, w_yes ?_⟩
    rw [if_pos rfl]
    have el := h4.length
    rw [List.length_take] at el
    refine step i x H' hx (h1.trans rm_le) ⟨_, h3⟩ _ fun y H2 s2 r => ?_
    have e : xs[i] = x := by rw [List.getElem?_eq_getElem hi] at hx; exact Option.some.inj hx
    refine ⟨ys, s2 _ _ h3, ?_, ys ++ [y], ?_, upd_same, ?_⟩
    · have : (100000 : Nat) < sizeLine := by decide
      omega
    · rw [rm_updS]
      exact h1.trans s2.rm
    · rw [rm_updS, List.take_succ_eq_append_getElem hi, e]
      exact Paired.snoc (paired_imp (fun _ _ z => mono _ _ _ _ s2.rm z) h4) r
  · rintro H' ⟨ys, h1, h3, h4⟩
    rw [List.take_length] at h4
    exact q H' ys (h1.trans rm_le) h3 (paired_imp (fun _ _ z => mono _ _ _ _ rm_le z) h4)
end
end Bc
namespace Bc
open PySem PySem.Spec PyProof.Rows L2
/-- one turn more, a total -/
noncomputable def pt42 (w S : Nat → Nat) (t j : Nat) : Nat := (List.range j).foldl (fun a i => max a (S (t - (i + 1)) + w (i + 1))) (S t)
noncomputable def dp42 (w : Nat → Nat) : Nat → Nat → Nat
  | 0, _ => 0
  | n + 1, t => pt42 w (dp42 w n) t t
theorem pt42_zero {w S : Nat → Nat} {t : Nat} : pt42 w S t 0 = S t := rfl
theorem pt42_succ {w S : Nat → Nat} {t j : Nat} : pt42 w S t (j + 1) = max (pt42 w S t j) (S (t - (j + 1)) + w (j + 1)) := by
  unfold pt42
  rw [List.range_succ, List.foldl_append]
  rfl
theorem pt42_congr {w w' S S' : Nat → Nat} {t : Nat} : ∀ j, j ≤ t → (∀ i, 1 ≤ i → i ≤ t → w i = w' i) → (∀ i, i ≤ t → S i = S' i) → pt42 w S t j = pt42 w' S' t j
  | 0, _, _, hS => hS t (Nat.le_refl _)
  | j + 1, hj, hw, hS => by
    rw [pt42_succ, pt42_succ, pt42_congr j (by omega) hw hS, hw (j + 1) (by omega) hj, hS _ (by omega)]
theorem dp42_congr {w w' : Nat → Nat} : ∀ {n t : Nat}, (∀ i, 1 ≤ i → i ≤ t → w i = w' i) → dp42 w n t = dp42 w' n t
  | 0, _, _ => rfl
  | n + 1, t, h => pt42_congr t (Nat.le_refl _) h fun i hi => dp42_congr fun k k1 k2 => h k k1 (by omega)
/-- nothing new: nothing new ever -/
theorem dp42_stop {w : Nat → Nat} {n d : Nat} (h : ∀ t, t ≤ d → dp42 w (n + 1) t = dp42 w n t) : ∀ m t, t ≤ d → dp42 w (n + m) t = dp42 w n t
  | 0, _, _ => rfl
  | m + 1, t, ht => by
    rw [← h t ht]
    show pt42 w (dp42 w (n + m)) t t = pt42 w (dp42 w n) t t
    exact pt42_congr t (Nat.le_refl _) (fun _ _ _ => rfl) fun i hi => dp42_stop h m i (by omega)
theorem pt42_le {w S : Nat → Nat} {W M t : Nat} (hw : ∀ i, 1 ≤ i → i ≤ t → w i ≤ W) (hS : ∀ i, i ≤ t → S i ≤ M) : ∀ j, j ≤ t → pt42 w S t j ≤ M + W
  | 0, _ => Nat.le_trans (hS t (Nat.le_refl _)) (Nat.le_add_right _ _)
  | j + 1, hj => by
    rw [pt42_succ]
    exact Nat.max_le.mpr ⟨pt42_le hw hS j (by omega), Nat.add_le_add (hS _ (by omega)) (hw _ (by omega) hj)⟩
theorem dp42_le {w : Nat → Nat} {W : Nat} : ∀ {n t : Nat}, (∀ i, 1 ≤ i → i ≤ t → w i ≤ W) → dp42 w n t ≤ n * W
  | 0, _, _ => Nat.zero_le _
  | n + 1, t, h => by
    rw [Nat.succ_mul]
    exact pt42_le h (fun i hi => dp42_le fun k k1 k2 => h k k1 (by omega)) t (Nat.le_refl _)
noncomputable def Bf (p : Nat) : Nat → Nat → Nat → Nat
  | 0, _, _ => 1
  | f + 1, d, k => dp42 (fun m => if k ≤ m then p ^ (k - 1) else p ^ (m - 1) * Bf p f m (k - m)) (min p d) d
/-- the most roots -/
noncomputable def B42 (p d k : Nat) : Nat := if k = 0 then 1 else Bf p k d k
noncomputable def W42 (p k m : Nat) : Nat := if k ≤ m then p ^ (k - 1) else p ^ (m - 1) * B42 p m (k - m)
theorem Bf_fuel {p : Nat} : ∀ {f g d k : Nat}, 1 ≤ k → k ≤ f → k ≤ g → Bf p f d k = Bf p g d k
  | 0, _, _, _, h1, h2, _ => absurd h1 (by omega)
  | _, 0, _, _, h1, _, h3 => absurd h1 (by omega)
  | f + 1, g + 1, d, k, h1, h2, h3 => by
    show dp42 _ _ _ = dp42 _ _ _
    refine dp42_congr fun m m1 m2 => ?_
    by_cases c : k ≤ m
    · rw [if_pos c, if_pos c]
    · rw [if_neg c, if_neg c, Bf_fuel (f := f) (g := g) (d := m) (k := k - m) (by omega) (by omega) (by omega)]
theorem B42_zero {p d : Nat} : B42 p d 0 = 1 := rfl
theorem B42_eq {p d k : Nat} (h : 1 ≤ k) : B42 p d k = dp42 (W42 p k) (min p d) d := by
  unfold B42
  rw [if_neg (by omega)]
  cases k with
  | zero => omega
  | succ k =>
    show dp42 _ _ _ = dp42 _ _ _
    refine dp42_congr fun m m1 m2 => ?_
    unfold W42
    by_cases c : k + 1 ≤ m
    · rw [if_pos c, if_pos c]
    · rw [if_neg c, if_neg c]
      unfold B42
      rw [if_neg (by omega), Bf_fuel (f := k) (g := k + 1 - m) (by omega) (by omega) (Nat.le_refl _)]
theorem B42_le {p : Nat} (hp : 1 ≤ p) : ∀ (k d : Nat), B42 p d k ≤ p ^ k := fun k => by
  induction k using Nat.strongRecOn with
  | ind k ih =>
    intro d
    by_cases h : k = 0
    · subst h
      exact Nat.le_refl _
    · rw [B42_eq (by omega)]
      refine Nat.le_trans (dp42_le (W := p ^ (k - 1)) fun i i1 i2 => ?_) ?_
      · unfold W42
        by_cases c : k ≤ i
        · rw [if_pos c]
          exact Nat.le_refl _
        · rw [if_neg c]
          refine Nat.le_trans (Nat.mul_le_mul_left _ (ih (k - i) (by omega) i)) ?_
          rw [← Nat.pow_add]
          exact Nat.pow_le_pow_right hp (by omega)
      · refine Nat.le_trans (Nat.mul_le_mul_right _ (Nat.min_le_left p d)) ?_
        rw [Nat.mul_comm, ← Nat.pow_succ]
        exact Nat.pow_le_pow_right hp (by omega)
noncomputable def digs (s : Nat) : Nat → Nat → List Nat
  | 0, _ => []
  | d + 1, c => (c % s) :: digs s d (c / s)
noncomputable def hval (x : Nat) (row : List Nat) : Nat := row.foldl (fun v t => v * x + t) 1
noncomputable def cnt42 (s : Nat) (row : List Nat) : Nat := (List.range s).foldl (fun m x => m + if hval x row % s = 0 then 1 else 0) 0
noncomputable def all42 (s d : Nat) : Nat := (List.range (s ^ d)).foldl (fun g c => max g (cnt42 s (digs s d c))) 0
noncomputable def small42 : List (Nat × Nat × Nat) := [(2, 1, 5), (2, 2, 4), (2, 3, 3), (2, 4, 2), (3, 1, 4), (3, 2, 3), (3, 3, 2), (5, 1, 3), (5, 2, 2), (7, 1, 3)]
theorem all_best : ∀ e ∈ small42, ∀ d ∈ List.range (e.2.2 + 1), B42 e.1 d e.2.1 = all42 (e.1 ^ e.2.1) d := by decide +kernel
end Bc
namespace Bc
open PySem PySem.Spec PyProof.Rows L2
theorem w_dnewT {σ : L2.St} {H : Hp} {Q : VK} (q : ∀ p, H p = none → atV Q (.ref p) (L2.upd H p (.dT []))) : tDNewT σ H Q := q
theorem w_setDq {o i v : V} {H : Hp} {Q : Hp → Prop} (q : ∃ a H', o = .ref a ∧ DPut H a i v H' ∧ Q H') : rSetD o i v H Q := q
theorem w_dnotin {td ty : TE} {σ : L2.St} {H : Hp} {Q : VK} (q : ty σ H fun y H1 => td σ H1 fun x H2 => ∃ a o, x = .ref a ∧ DGet H2 a y o ∧ Q (.bl (!o.isSome)) H2) : tDNotIn ty td σ H Q := q
theorem w_dget {td ty : TE} {σ : L2.St} {H : Hp} {Q : VK} (q : td σ H fun x H1 => ty σ H1 fun y H2 => ∃ a v, x = .ref a ∧ DGet H2 a y (some v) ∧ Q v H2) : tDGet td ty σ H Q := q
theorem u66 {k : Nat} {A : Around} (r : Room k A) : A.units + 1 < cLine := by
  have := r.un
  omega
theorem u66q {k : Nat} {A : Around} (r : Room k A) : A.units + 1 < cLine := by
  have := r.un
  omega
theorem ne_of_none' {H : Hp} {a b : Addr} {o : HO} (h : H a = some o) (n : H b = none) : b ≠ a := fun e => by
  rw [e, h] at n
  cases n
theorem rm_some' {D b : Addr} {H : Hp} {o : HO} (h : rm D H b = some o) : b ≠ D ∧ H b = some o := by
  unfold rm at h
  split at h
  · cases h
  · exact ⟨by assumption, h⟩
theorem at_idx {xs : List V} {x : V} {i : Int} {n : Nat} (h : xs[n]? = some x) (hi : i = (n : Int)) : atI xs i = some x := by
  subst hi
  have hl := (List.getElem?_eq_some_iff.mp h).1
  unfold atI ixN
  rw [if_pos (by omega), if_pos (by omega), Int.toNat_natCast]
  exact h
theorem set_idx {n i : Nat} (h : i < n) {j : Int} (hj : j = (i : Int)) : ixN n j = some i := by
  subst hj
  unfold ixN
  rw [if_pos (by omega), if_pos (by omega), Int.toNat_natCast]
noncomputable def pk (p : Int × Int) : List Key := [.inl p.1, .inl p.2]
theorem pk_inj {p q : Int × Int} (h : pk p = pk q) : p = q := by
  unfold pk at h
  injection h with h1 h2
  injection h2 with h2 _
  exact Prod.ext (Sum.inl.inj h1) (Sum.inl.inj h2)
theorem pk_val (p : Int × Int) : (pk p).map kV = [V.int p.1, V.int p.2] := rfl
noncomputable def kvG {α : Type} (f : α → V) (ks : List ((Int × Int) × α)) : List (List Key × V) := ks.map fun e => (pk e.1, f e.2)
noncomputable def gOf {α : Type} (ks : List ((Int × Int) × α)) (p : Int × Int) : Option α := (ks.find? fun e => decide (e.1 = p)).map (·.2)
theorem kvG_val {α : Type} {f : α → V} (p : Int × Int) : ∀ ks : List ((Int × Int) × α), valV (kvG f ks) (pk p) = (gOf ks p).map f
  | [] => rfl
  | e :: ks => by
    have ih := kvG_val (f := f) p ks
    by_cases h : e.1 = p
    · subst h
      have : gOf (e :: ks) e.1 = some e.2 := by simp [gOf]
      rw [this]
      exact valV_pos rfl
    · have : gOf (e :: ks) p = gOf ks p := by simp [gOf, List.find?_cons, h]
      rw [this, ← ih]
      exact valV_neg (show ¬ pk e.1 = pk p from fun z => h (pk_inj z))
theorem gOf_mem {α : Type} {ks : List ((Int × Int) × α)} {p : Int × Int} {v : α} (h : gOf ks p = some v) : (p, v) ∈ ks := by
  unfold gOf at h
  obtain ⟨e, he, rfl⟩ := Option.map_eq_some_iff.mp h
  have := List.find?_some he
  have e1 : e.1 = p := of_decide_eq_true this
  rw [← e1]
  exact List.mem_of_find?_eq_some he
theorem gOf_none {α : Type} {ks : List ((Int × Int) × α)} {p : Int × Int} (h : gOf ks p = none) (v : α) : (p, v) ∉ ks := by
  unfold gOf at h
  rw [Option.map_eq_none_iff, List.find?_eq_none] at h
  exact fun hm => h _ hm (decide_eq_true rfl)
theorem kvG_put {α : Type} {f : α → V} {ks : List ((Int × Int) × α)} {p : Int × Int} {v : α} (h : gOf ks p = none) : putK (kvG f ks) (pk p) (f v) = kvG f (ks ++ [(p, v)]) := by
  rw [putK_new _ (by rw [kvG_val, h]; rfl)]
  unfold kvG
  rw [List.map_append]
  rfl
theorem gOf_snoc {α : Type} {ks : List ((Int × Int) × α)} {p : Int × Int} {v : α} (h : gOf ks p = none) : gOf (ks ++ [(p, v)]) p = some v := by
  have e : valV (kvG (fun x : α => V.bl true) (ks ++ [(p, v)])) (pk p) = valV (kvG (fun x : α => V.bl true) (ks ++ [(p, v)])) (pk p) := rfl
  unfold gOf at *
  rw [Option.map_eq_none_iff] at h
  rw [List.find?_append, h]
  simp
theorem nd_sub {α : Type} [DecidableEq α] : ∀ {l m : List α}, l.Nodup → (∀ x ∈ l, x ∈ m) → l.length ≤ m.length
  | [], _, _, _ => Nat.zero_le _
  | x :: r, m, hn, hs => by
    obtain ⟨h1, h2⟩ := List.nodup_cons.mp hn
    have hx : x ∈ m := hs x List.mem_cons_self
    have := nd_sub (m := m.erase x) h2 fun y hy => (List.mem_erase_of_ne (fun e : y = x => h1 (by rw [← e]; exact hy))).2 (hs y (List.mem_cons_of_mem _ hy))
    have e := List.length_erase_of_mem hx
    have hp : 0 < m.length := List.length_pos_of_mem hx
    rw [List.length_cons]
    omega
noncomputable def grid42 : List (Int × Int) := (List.range 21).flatMap fun i : Nat => (List.range 41).map fun j : Nat => ((i : Int), (j : Int))
theorem few42 {α : Type} {ks : List ((Int × Int) × α)} (hn : (ks.map (·.1)).Nodup) (hk : ∀ e ∈ ks, ∃ dg k : Nat, e.1 = ((dg : Int), (k : Int)) ∧ dg ≤ 20 ∧ k ≤ 40) : ks.length ≤ 1000 := by
  have := nd_sub (m := grid42) hn fun p hp => by
    obtain ⟨e, he, rfl⟩ := List.mem_map.mp hp
    obtain ⟨dg, k, e1, h1, h2⟩ := hk e he
    rw [e1]
    exact List.mem_flatMap.mpr ⟨dg, List.mem_range.mpr (by omega), List.mem_map.mpr ⟨k, List.mem_range.mpr (by omega), rfl⟩⟩
  rw [List.length_map, show grid42.length = 861 by decide +kernel] at this
  omega
theorem w_catA {K : PySem.W.Frag} {H : Hp} {a b : Addr} {xs ys : List V} {Q : VK} (ha : H a = some (.tup xs)) (hb : H b = some (.tup ys)) (l : xs.length + ys.length ≤ sizeLine) (q : ∀ p H', Same H H' → H' p = some (.tup (xs ++ ys)) → atV Q (.ref p) H') : rCatA K (.ref a) (.ref b) H Q := by
  refine ⟨a, b, xs, ys, rfl, rfl, sqt ha, sqt hb, l, fun e => q b H (Same.refl _) (by rw [e]; exact hb), fun _ e => q a H (Same.refl _) (by rw [e, List.append_nil]; exact ha), fun _ _ p n => q p _ (Same.new n) L2.upd_same⟩
theorem ne_tup {H : Hp} {p L : Addr} {xs ys : List V} (h : H p = some (.tup xs)) (g : H L = some (.lst ys)) : p ≠ L := fun e => by
  rw [e, g] at h
  cases h
structure KWs (K : PySem.W.Frag) (mg : Str → Option Value) (Cv : Addr) : Prop where
  cl : ClsF K Cv
  mgS : mg "Worst" = some (.ref Cv)
  prime : NoAttr K Cv "prime"
  known : NoAttr K Cv "known"
noncomputable def vsF (p : Int) (d : Addr) : List (Str × V) := [("prime", .int p), ("known", .ref d)]
section
variable {p : Int} {d : Addr}
theorem vs_prime : (vsF p d).lookup ("prime" : Str) = some (.int p) := lk0
theorem vs_known : (vsF p d).lookup ("known" : Str) = some (.ref d) := (lkS (by decide +kernel)).trans lk0
theorem vs_no {m : Str} (h1 : m ≠ ("prime" : Str)) (h2 : m ≠ ("known" : Str)) : (vsF p d).lookup m = none := (lkS h1).trans ((lkS h2).trans rfl)
end
/-- what is known is right -/
noncomputable def Kn (H : Hp) (d : Addr) (p : Nat) : Prop := ∃ ks : List ((Int × Int) × Addr), H d = some (.dT (kvG V.ref ks)) ∧ (ks.map (·.1)).Nodup ∧ ∀ e ∈ ks, ∃ dg k : Nat, e.1 = ((dg : Int), (k : Int)) ∧ dg ≤ 20 ∧ k ≤ 40 ∧ ∃ r, rm d H e.2 = some (.tup [.int (B42 p dg k : Nat), .ref r])
theorem Kn.same {H H' : Hp} {d : Addr} {p : Nat} (h : Kn H d p) (e : H' d = H d) (s : Same (rm d H) (rm d H')) : Kn H' d p := by
  obtain ⟨ks, h1, h2, h3⟩ := h
  refine ⟨ks, e.trans h1, h2, fun x hx => ?_⟩
  obtain ⟨dg, k, g1, g2, g3, r, g4⟩ := h3 x hx
  exact ⟨dg, k, g1, g2, g3, r, s _ _ g4⟩
theorem Kn.mono {H H' : Hp} {d : Addr} {p : Nat} (h : Kn H d p) (s : Same H H') : Kn H' d p := by
  obtain ⟨ks, h1, h2⟩ := id h
  exact h.same ((s _ _ h1).trans h1.symm) s.rm
noncomputable def WsAt (Cv : Addr) (H : Hp) (o d : Addr) (p : Nat) : Prop := ∃ dx, rm d H o = some (.ins Cv dx (vsF (p : Int) d))
theorem WsAt.same {Cv : Addr} {H H' : Hp} {o d : Addr} {p : Nat} (h : WsAt Cv H o d p) (s : Same (rm d H) (rm d H')) : WsAt Cv H' o d p := by
  obtain ⟨dx, h⟩ := h
  exact ⟨dx, s _ _ h⟩
noncomputable def spWsInit (Cv : Addr) : Sp := fun vs H Q _ => ∃ (o dx : Addr) (p : Nat), vs = [.ref o, .int (p : Int)] ∧ H o = some (.ins Cv dx []) ∧ ∀ H' d, (∀ b o', b ≠ o → H b = some o' → H' b = some o') → H d = none → WsAt Cv H' o d p → Kn H' d p → Q .non H'
structure Pok (p : Nat) : Prop where
  p1 : 1 < p
  p2 : p < 1024
noncomputable def spBest (Cv : Addr) (n : Nat) : Sp := fun vs H Q _ => ∃ (o d : Addr) (p dg k : Nat), vs = [.ref o, .int (dg : Int), .int (k : Int)] ∧ Pok p ∧ WsAt Cv H o d p ∧ Kn H d p ∧ dg ≤ 20 ∧ k ≤ n ∧ n ≤ 40 ∧
  ∀ H' q r, Same (rm d H) (rm d H') → Kn H' d p → rm d H' q = some (.tup [.int (B42 p dg k : Nat), .ref r]) → Q (.ref q) H'
noncomputable def spMost (Cv : Addr) (n : Nat) : Sp := fun vs H Q _ => ∃ (o d : Addr) (p dg k : Nat), vs = [.ref o, .int (dg : Int), .int (k : Int)] ∧ Pok p ∧ WsAt Cv H o d p ∧ Kn H d p ∧ dg ≤ 20 ∧ k ≤ n ∧ n ≤ 40 ∧
  ∀ H', Same (rm d H) (rm d H') → Kn H' d p → Q (.int (B42 p dg k : Nat)) H'
noncomputable def spWorth (Cv : Addr) (n : Nat) : Sp := fun vs H Q _ => ∃ (o d : Addr) (p m k : Nat), vs = [.ref o, .int (m : Int), .int (k : Int)] ∧ Pok p ∧ WsAt Cv H o d p ∧ Kn H d p ∧ 1 ≤ m ∧ m ≤ 20 ∧ 1 ≤ k ∧ k ≤ n + 1 ∧ n + 1 ≤ 40 ∧
  ∀ H', Same (rm d H) (rm d H') → Kn H' d p → Q (.int (W42 p k m : Nat)) H'
/-- a list of worths -/
noncomputable def WL (H : Hp) (l : Addr) (w : Nat → Nat) (d : Nat) : Prop := ∃ xs : List Int, H l = some (.lst (xs.map V.int)) ∧ xs.length ≤ 100 ∧ ∀ i, 1 ≤ i → i ≤ d → xs[i]? = some ((w i : Nat) : Int)
noncomputable def spFilled : Sp := fun vs H Q _ => ∃ (l : Addr) (w : Nat → Nat) (dg n : Nat), vs = [.ref l, .int (dg : Int), .int (n : Int)] ∧ WL H l w dg ∧ dg ≤ 20 ∧ n ≤ 20 ∧ ∀ H' q r, Same H H' → H' q = some (.tup [.int (dp42 w n dg : Nat), .ref r]) → Q (.ref q) H'
noncomputable def spSums42 : Sp := fun vs H Q _ => ∃ (l : Addr) (w : Nat → Nat) (dg n : Nat), vs = [.ref l, .int (dg : Int), .int (n : Int)] ∧ WL H l w dg ∧ dg ≤ 20 ∧ n ≤ 20 ∧ ∀ H', Same H H' → Q (.int (dp42 w n dg : Nat)) H'
/-- sums with their numbers -/
noncomputable abbrev SE := Nat × List Int
noncomputable def TE42 (H : Hp) (e : SE) (t : Addr) : Prop := ∃ r, H t = some (.tup [.int (e.1 : Int), .ref r]) ∧ H r = some (.tup (e.2.map V.int)) ∧ e.2.length ≤ 1000
noncomputable def SumL (H : Hp) (s : Addr) (vs : List SE) : Prop := ∃ ts : List Addr, H s = some (.lst (ts.map V.ref)) ∧ Paired (TE42 H) vs ts
theorem TE42.same {H H' : Hp} {e : SE} {t : Addr} (h : TE42 H e t) (s : Same H H') : TE42 H' e t := by
  obtain ⟨r, h1, h2, h3⟩ := h
  exact ⟨r, s _ _ h1, s _ _ h2, h3⟩
theorem SumL.same {H H' : Hp} {s : Addr} {vs : List SE} (h : SumL H s vs) (sm : Same H H') : SumL H' s vs := by
  obtain ⟨ts, h1, h2⟩ := h
  exact ⟨ts, sm _ _ h1, paired_imp (fun _ _ z => z.same sm) h2⟩
noncomputable def dSE (e : SE) : PyData := .tuple [.int (e.1 : Int), .tuple (e.2.map PyData.int)]
theorem lay_is (l : List Int) : PyData.canLayAll0 (l.map PyData.int) = true := by
  induction l with
  | nil => rfl
  | cons a r ih => rw [List.map_cons]; simp [PyData.canLayAll0, PyData.canLay0, ih]
theorem lay_ses (vs : List SE) : PyData.canLayAll0 (vs.map dSE) = true := by
  induction vs with
  | nil => rfl
  | cons a r ih => rw [List.map_cons]; simp [PyData.canLayAll0, PyData.canLay0, dSE, ih, lay_is]
theorem dep_is (l : List Int) : PyData.depthAll (l.map PyData.int) = 0 := by
  induction l with
  | nil => rfl
  | cons a r ih => rw [List.map_cons]; simp [PyData.depthAll, PyData.depth, ih]
theorem dep_ses (vs : List SE) : PyData.depthAll (vs.map dSE) ≤ 2 := by
  induction vs with
  | nil => exact Nat.zero_le _
  | cons a r ih =>
    rw [List.map_cons]
    simp only [PyData.depthAll, PyData.depth, dSE, dep_is]
    omega
theorem sh_ses (vs : List SE) : SeqAt.shaped (.list (vs.map dSE)) = true := by
  unfold SeqAt.shaped
  rw [show PyData.canLay0 (.list (vs.map dSE)) = true from (by simp [PyData.canLay0, lay_ses]), Bool.true_and]
  refine decide_eq_true ?_
  have := dep_ses vs
  simp only [PyData.depth]
  omega
theorem eqv_ses : ∀ {vs ws : List SE}, PyData.eqvAll (vs.map dSE) (ws.map dSE) = true → vs.map (·.1) = ws.map (·.1)
  | [], [], _ => rfl
  | [], _ :: _, h => by simp [PyData.eqvAll] at h
  | _ :: _, [], h => by simp [PyData.eqvAll] at h
  | a :: r, b :: s, h => by
    rw [List.map_cons, List.map_cons] at h
    simp only [PyData.eqvAll, PyData.eqv, dSE, Bool.and_eq_true, beq_iff_eq] at h
    rw [List.map_cons, List.map_cons, eqv_ses h.2, show a.1 = b.1 by omega]
theorem dp_ses {K : PySem.W.Frag} {H : Hp} {vs : List SE} {ts : List Addr} (h : Paired (TE42 H) vs ts) : DpAll K H (ts.map V.ref) (vs.map dSE) := by
  induction h with
  | nil => exact .nil
  | cons r _ ih =>
    obtain ⟨r, h1, h2, h3⟩ := r
    exact .cons (.tup (sqt h1) (.cons (.int _) (.cons (.tup (sqt h2) (dp_ints _)) .nil))) ih
theorem w_eqSE {K : PySem.W.Frag} {H : Hp} {a b : Addr} {vs ws : List SE} {Q : VK} (ha : SumL H a vs) (hb : SumL H b ws) (q : ∀ e : Bool, (e = true → vs.map (·.1) = ws.map (·.1)) → Q (.bl e) H) : rEqD K (.ref a) (.ref b) H Q := by
  obtain ⟨ts, h1, h2⟩ := ha
  obtain ⟨us, g1, g2⟩ := hb
  refine ⟨_, _, .lst (sq h1) (dp_ses h2), .lst (sq g1) (dp_ses g2), sh_ses vs, sh_ses ws, ?_⟩
  exact q _ fun e => eqv_ses (by simpa [PyData.eqv] using e)
theorem paired_set {α β : Type} {R : α → β → Prop} {x : α} {y : β} (r : R x y) : ∀ {as : List α} {bs : List β} (i : Nat), Paired R as bs → Paired R (as.set i x) (bs.set i y)
  | _, _, _, .nil => .nil
  | _, _, 0, .cons _ h => .cons r h
  | _, _, i + 1, .cons r0 h => .cons r0 (paired_set r i h)
theorem map_set_ref {ts : List Addr} {i : Nat} {t : Addr} : (ts.map V.ref).set i (V.ref t) = (ts.set i t).map V.ref := by rw [List.map_set]
/-- the list that is being made -/
noncomputable def Lat (H : Hp) (L : Addr) (vs : List SE) : Prop := ∃ ts : List Addr, H L = some (.lst (ts.map V.ref)) ∧ Paired (TE42 (rm L H)) vs ts
theorem Lat.sum {H : Hp} {L : Addr} {vs : List SE} (h : Lat H L vs) : SumL H L vs := by
  obtain ⟨ts, h1, h2⟩ := h
  exact ⟨ts, h1, paired_imp (fun _ _ z => z.same rm_le) h2⟩
theorem SumL.lat {H H' : Hp} {s L : Addr} {vs : List SE} {ts : List Addr} (h1 : H s = some (.lst (ts.map V.ref))) (h2 : Paired (TE42 H) vs ts) (n : H L = none) (sm : Same H H') (e : H' L = some (.lst (ts.map V.ref))) : Lat H' L vs :=
  ⟨ts, e, paired_imp (fun _ _ z => z.same fun b o hb => rm_of (fun e => by rw [e, n] at hb; cases hb) (sm _ _ hb)) h2⟩
/-- what the row of sums tells -/
noncomputable def SV42 (vs : List SE) (dg : Nat) (f : Nat → Nat) (m : Nat) : Prop := vs.length = dg + 1 ∧ (∀ i, i ≤ dg → (vs[i]?).map (·.1) = some (f i)) ∧ ∀ e ∈ vs, e.2.length ≤ m
theorem SV42.at {vs : List SE} {dg m i : Nat} {f : Nat → Nat} (h : SV42 vs dg f m) (hi : i ≤ dg) : ∃ e, vs[i]? = some e ∧ e.1 = f i ∧ e.2.length ≤ m := by
  obtain ⟨e, he, h2⟩ := Option.map_eq_some_iff.mp (h.2.1 i hi)
  exact ⟨e, he, h2, h.2.2 e (List.mem_of_getElem? he)⟩
theorem SV42.set {vs : List SE} {dg m i : Nat} {f g : Nat → Nat} {e : SE} (h : SV42 vs dg f m) (hi : i ≤ dg) (he : e.1 = g i) (hl : e.2.length ≤ m) (hg : ∀ j, j ≠ i → j ≤ dg → g j = f j) : SV42 (vs.set i e) dg g m := by
  refine ⟨by rw [List.length_set]; exact h.1, fun j hj => ?_, fun x hx => ?_⟩
  · by_cases c : j = i
    · subst c
      rw [List.getElem?_set_self (by rw [h.1]; omega)]
      exact congrArg some he
    · rw [List.getElem?_set_ne (Ne.symm c), hg j c hj]
      exact h.2.1 j hj
  · rcases List.mem_or_eq_of_mem_set hx with z | z
    · exact h.2.2 x z
    · rw [z]; exact hl
theorem SV42.congr {vs : List SE} {dg m : Nat} {f g : Nat → Nat} (h : SV42 vs dg f m) (e : ∀ i, i ≤ dg → f i = g i) : SV42 vs dg g m := ⟨h.1, fun i hi => by rw [← e i hi]; exact h.2.1 i hi, h.2.2⟩
theorem SV42.mono {vs : List SE} {dg m n : Nat} {f : Nat → Nat} (h : SV42 vs dg f m) (e : m ≤ n) : SV42 vs dg f n := ⟨h.1, h.2.1, fun x hx => Nat.le_trans (h.2.2 x hx) e⟩
theorem SV42.eq {vs ws : List SE} {dg m n : Nat} {f g : Nat → Nat} (h : SV42 vs dg f m) (k : SV42 ws dg g n) (e : vs.map (·.1) = ws.map (·.1)) : ∀ i, i ≤ dg → f i = g i := fun i hi => by
  have h1 := h.2.1 i hi
  have k1 := k.2.1 i hi
  rw [← List.getElem?_map] at h1 k1
  rw [e, k1] at h1
  exact (Option.some.inj h1).symm
theorem pow400 {p k : Nat} (h : Pok p) (hk : k ≤ 40) : ((p ^ k : Nat) : Int).natAbs < 2 ^ 400 := by
  have h1 : p ^ k ≤ 1023 ^ k := Nat.pow_le_pow_left (by have := h.p2; omega) k
  have h2 : 1023 ^ k ≤ 1023 ^ 40 := Nat.pow_le_pow_right (by decide) hk
  have h3 : 1023 ^ 40 < 2 ^ 400 := by decide +kernel
  rw [Int.natAbs_natCast]
  omega
theorem sums0 {H : Hp} {e : SE} {xs ys : List V} (h : Paired (fun _ y => ∃ t, y = V.ref t ∧ TE42 H e t) xs ys) : ∃ ts : List Addr, ys = ts.map V.ref ∧ Paired (TE42 H) (List.replicate xs.length e) ts := by
  induction h with
  | nil => exact ⟨[], rfl, .nil⟩
  | cons r _ ih =>
    obtain ⟨t, rfl, h1⟩ := r
    obtain ⟨ts, rfl, h2⟩ := ih
    exact ⟨t :: ts, rfl, .cons h1 h2⟩
theorem SV42.zero {dg m : Nat} : SV42 (List.replicate (dg + 1) (0, [])) dg (fun _ => 0) m := by
  refine ⟨List.length_replicate, fun i hi => ?_, fun e he => ?_⟩
  · rw [List.getElem?_replicate, if_pos (by omega)]
    rfl
  · rw [List.eq_of_mem_replicate he]
    exact Nat.zero_le _
noncomputable def BadL (K : PySem.W.Frag) (H : Hp) (v : V) : Prop := IntB K H v false ∨ ∃ n : Int, v = .int n ∧ n ≤ 0
noncomputable def spReqLen42 (K : PySem.W.Frag) (Cl : Addr) : Sp := fun vs H Q E => ∃ v : V, vs = [v] ∧ ((IntB K H v false ∧ ErrTo E Cl "length" v H) ∨ (∃ n : Int, v = .int n ∧ n < 0 ∧ ErrTo E Cl "length" v H) ∨ ∃ n : Int, v = .int n ∧ 0 ≤ n ∧ Q .non H)
noncomputable def spReqMod42 (K : PySem.W.Frag) (c : CA) (Cq : Addr) : Sp := fun vs H Q E => ∃ v : V, vs = [v] ∧ ((∃ (m : Addr) (ps : List (Int × Int)), v = .ref m ∧ ModAt c H m ps ∧ Q .non H) ∨ (∃ t, TyX K H v t ∧ PySem.W.kitOne K t (.ref c.md) = some false ∧ ErrTo E Cq "place" .non H))
noncomputable def spReqWorst (K : PySem.W.Frag) (c : CA) (Cl Cq : Addr) : Sp := fun vs H Q E => ∃ v u : V, vs = [v, u] ∧
  ((BadL K H v ∧ ErrTo E Cl "length" v H) ∨ (∃ n : Int, v = .int n ∧ 1 ≤ n ∧ ∃ t, TyX K H u t ∧ PySem.W.kitOne K t (.ref c.md) = some false ∧ ErrTo E Cq "place" .non H) ∨
   ∃ (n : Int) (m : Addr) (ps : List (Int × Int)), v = .int n ∧ 1 ≤ n ∧ u = .ref m ∧ ModAt c H m ps ∧ Q .non H)
/-- the product over the primes -/
noncomputable def wc42 (ps : List (Int × Int)) (d : Nat) : Nat := ps.foldl (fun f q => f * B42 q.1.toNat d q.2.toNat) 1
noncomputable def Lim42 (ps : List (Int × Int)) : Prop := ps.length ≤ 3 ∧ ∀ q ∈ ps, 1 < q.1 ∧ q.1 < 1024 ∧ 1 ≤ q.2 ∧ q.2 ≤ 40
noncomputable def spWorstX (K : PySem.W.Frag) (c : CA) (Cl Cq : Addr) : Sp := fun vs H Q E => ∃ v u : V, vs = [v, u] ∧
  ((BadL K H v ∧ ErrTo E Cl "length" v H) ∨ (∃ n : Int, v = .int n ∧ 1 ≤ n ∧ ∃ t, TyX K H u t ∧ PySem.W.kitOne K t (.ref c.md) = some false ∧ ErrTo E Cq "place" .non H) ∨
   ∃ (n : Nat) (m : Addr) (ps : List (Int × Int)), v = .int ((n : Int) + 1) ∧ n ≤ 20 ∧ u = .ref m ∧ ModAt c H m ps ∧ Lim42 ps ∧ ∀ H', Same H H' → Q (.int (wc42 ps n : Nat)) H')
theorem use_worst {K : PySem.W.Frag} {c : CA} {Cl Cq : Addr} {H : Hp} {Q : VK} {E : XK} {n : Nat} {m : Addr} {ps : List (Int × Int)} (hn : n ≤ 20) (hm : ModAt c H m ps) (hl : Lim42 ps) (q : ∀ H', Same H H' → Q (.int (wc42 ps n : Nat)) H') : spWorstX K c Cl Cq [.int ((n : Int) + 1), .ref m] H Q E :=
  ⟨_, _, rfl, .inr (.inr ⟨n, m, ps, rfl, hn, rfl, hm, hl, q⟩)⟩
noncomputable def spCaught42 (K : PySem.W.Frag) (c : CA) : Sp := fun vs H Q _ => ∃ v u : V, vs = [v, u] ∧
  ((BadL K H v ∧ ∀ p H', H p = none → p ≠ sysModules → Same H H' → H' p = some (.lst [.str "length", v]) → Q (.ref p) H') ∨
   (∃ n : Int, v = .int n ∧ 1 ≤ n ∧ ∃ t, TyX K H u t ∧ PySem.W.kitOne K t (.ref c.md) = some false ∧ ∀ p H', H p = none → p ≠ sysModules → Same H H' → H' p = some (.lst [.str "modulus", .non]) → Q (.ref p) H'))
noncomputable def spAll42 : Sp := fun vs H Q _ => ∃ p k d : Nat, vs = [.int (p : Int), .int (k : Int), .int (d : Int)] ∧ 1 ≤ p ∧ p ≤ 7 ∧ k ≤ 4 ∧ d ≤ 5 ∧ (p ^ k) ^ d ≤ 1000 ∧ p ^ k ≤ 30 ∧ ∀ H', Same H H' → Q (.int (all42 (p ^ k) d : Nat)) H'
noncomputable def spDue42 : Sp := fun vs H Q _ => ∃ p k d : Nat, vs = [.int (p : Int), .int (k : Int), .int (d : Int)] ∧ Pok p ∧ 1 ≤ k ∧ k ≤ 40 ∧ d ≤ 20 ∧ ∀ H', Same H H' → Q (.int (B42 p d k : Nat)) H'
theorem wc42_snoc {ps : List (Int × Int)} {q : Int × Int} {d : Nat} : wc42 (ps ++ [q]) d = wc42 ps d * B42 q.1.toNat d q.2.toNat := by
  unfold wc42
  rw [List.foldl_append]
  rfl
theorem Kn.ne {H : Hp} {d D : Addr} {p : Nat} {xs : List V} (h : Kn H d p) (g : H D = some (.lst xs)) : D ≠ d := fun e => by
  obtain ⟨ks, h1, _⟩ := h
  rw [e, h1] at g
  cases g
theorem Kn.rmL {H : Hp} {d D : Addr} {p : Nat} {xs : List V} (h : Kn H d p) (g : H D = some (.lst xs)) : Kn (rm D H) d p := by
  have nd := h.ne g
  obtain ⟨ks, h1, h2, h3⟩ := h
  refine ⟨ks, rm_of nd.symm h1, h2, fun e he => ?_⟩
  obtain ⟨dg, k, g1, g2, g3, r, g4⟩ := h3 e he
  obtain ⟨n1, g5⟩ := rm_some' g4
  refine ⟨dg, k, g1, g2, g3, r, rm_of n1 (rm_of (fun z => ?_) g5)⟩
  rw [z, g] at g5
  cases g5
theorem Kn.unrm {H : Hp} {d D : Addr} {p : Nat} (h : Kn (rm D H) d p) : Kn H d p := by
  obtain ⟨ks, h1, h2, h3⟩ := h
  refine ⟨ks, rm_le _ _ h1, h2, fun e he => ?_⟩
  obtain ⟨dg, k, g1, g2, g3, r, g4⟩ := h3 e he
  exact ⟨dg, k, g1, g2, g3, r, Same.rm rm_le _ _ g4⟩
theorem kvG_old {ks : List ((Int × Int) × Addr)} {p : Int × Int} {v o : Addr} (h : gOf ks p = some o) : putK (kvG V.ref ks) (pk p) (V.ref v) = kvG V.ref (ks.map fun e => if e.1 = p then (e.1, v) else e) := by
  have hv : valV (kvG V.ref ks) (pk p) = some (V.ref o) := by rw [kvG_val, h]; rfl
  unfold putK
  rw [valV_any, hv, if_pos (show (some (V.ref o)).isSome = true from rfl)]
  unfold kvG
  rw [List.map_map, List.map_map]
  refine List.map_congr_left fun e _ => ?_
  show (if pk e.1 = pk p then (pk e.1, V.ref v) else (pk e.1, V.ref e.2)) = (pk (if e.1 = p then (e.1, v) else e).1, V.ref (if e.1 = p then (e.1, v) else e).2)
  by_cases c : e.1 = p
  · rw [if_pos c, if_pos (by rw [c])]
  · rw [if_neg c, if_neg fun z => c (pk_inj z)]
/-- one more known -/
theorem Kn.put {H : Hp} {d q : Addr} {p dg k : Nat} {r : Addr} (h : Kn H d p) (hd : dg ≤ 20) (hk : k ≤ 40) (hq : H q = some (.tup [.int (B42 p dg k : Nat), .ref r])) :
    ∃ ks, H d = some (.dT (kvG V.ref ks)) ∧ ks.length ≤ 1000 ∧ ∃ H', H' = upd H d (.dT (putK (kvG V.ref ks) (pk ((dg : Int), (k : Int))) (V.ref q))) ∧ Kn H' d p ∧ ∃ ls, H' d = some (.dT (kvG V.ref ls)) ∧ gOf ls ((dg : Int), (k : Int)) = some q := by
  obtain ⟨ks, h1, h2, h3⟩ := h
  have few : ks.length ≤ 1000 := few42 h2 fun e he => by
    obtain ⟨dg, k, g1, g2, g3, _⟩ := h3 e he
    exact ⟨dg, k, g1, g2, g3⟩
  have nq : q ≠ d := fun e => by rw [e, h1] at hq; cases hq
  refine ⟨ks, h1, few, _, rfl, ?_⟩
  cases hg : gOf ks ((dg : Int), (k : Int)) with
  | none =>
    rw [kvG_put hg]
    refine ⟨⟨_, upd_same, ?_, fun e he => ?_⟩, _, upd_same, gOf_snoc hg⟩
    · rw [List.map_append]
      refine List.nodup_append.mpr ⟨h2, by simp, fun a ha b hb e => ?_⟩
      obtain ⟨x, hx, rfl⟩ := List.mem_map.mp ha
      rw [List.map_cons, List.map_nil, List.mem_singleton] at hb
      exact gOf_none hg x.2 (by rw [show (((dg : Int), (k : Int)) : Int × Int) = x.1 from by rw [e, hb]]; exact hx)
    · rw [rm_updS]
      rcases List.mem_append.mp he with z | z
      · exact h3 e z
      · rw [List.mem_singleton.mp z]
        exact ⟨dg, k, rfl, hd, hk, r, rm_of nq hq⟩
  | some o =>
    rw [kvG_old hg]
    have hf : ∀ ls : List ((Int × Int) × Addr), gOf ls ((dg : Int), (k : Int)) = some o → gOf (ls.map fun e => if e.1 = ((dg : Int), (k : Int)) then (e.1, q) else e) ((dg : Int), (k : Int)) = some q := by
      intro ls
      induction ls with
      | nil => intro z; cases z
      | cons e t ih =>
        intro z
        by_cases c : e.1 = ((dg : Int), (k : Int))
        · rw [List.map_cons, if_pos c]
          simp [gOf, c]
        · rw [List.map_cons, if_neg c]
          have : gOf t ((dg : Int), (k : Int)) = some o := by simpa [gOf, List.find?_cons, c] using z
          have := ih this
          simpa [gOf, List.find?_cons, c] using this
    refine ⟨⟨_, upd_same, ?_, fun e he => ?_⟩, _, upd_same, hf ks hg⟩
    · rw [List.map_map, show (Prod.fst ∘ fun e : (Int × Int) × Addr => if e.1 = ((dg : Int), (k : Int)) then (e.1, q) else e) = Prod.fst from by
        funext e
        show (if e.1 = ((dg : Int), (k : Int)) then (e.1, q) else e).1 = e.1
        split <;> rfl]
      exact h2
    · rw [rm_updS]
      obtain ⟨x, hx, rfl⟩ := List.mem_map.mp he
      by_cases c : x.1 = ((dg : Int), (k : Int))
      · rw [if_pos c]
        exact ⟨dg, k, c, hd, hk, r, rm_of nq hq⟩
      · rw [if_neg c]
        exact h3 x hx
theorem Kn.get {H : Hp} {d q : Addr} {p dg k : Nat} {ks : List ((Int × Int) × Addr)} (h : Kn H d p) (hd : H d = some (.dT (kvG V.ref ks))) (hg : gOf ks ((dg : Int), (k : Int)) = some q) : ∃ r, rm d H q = some (.tup [.int (B42 p dg k : Nat), .ref r]) := by
  obtain ⟨ls, h1, _, h3⟩ := h
  rw [hd] at h1
  have e : ∀ {a b : List ((Int × Int) × Addr)}, kvG V.ref a = kvG V.ref b → a = b := by
    intro a
    induction a with
    | nil => intro b z; cases b with
      | nil => rfl
      | cons _ _ => cases z
    | cons x t ih => intro b z; cases b with
      | nil => cases z
      | cons y s =>
        unfold kvG at z
        rw [List.map_cons, List.map_cons] at z
        injection z with z1 z2
        injection z1 with z3 z4
        rw [ih z2, Prod.ext (pk_inj z3) (V.ref.inj z4)]
  injection h1 with h1
  injection h1 with h1
  rw [← e h1] at h3
  obtain ⟨dg', k', g1, _, _, r, g4⟩ := h3 _ (gOf_mem hg)
  have g1 : (((dg : Int), (k : Int)) : Int × Int) = ((dg' : Int), (k' : Int)) := g1
  injection g1 with a1 a2
  rw [show dg = dg' by omega, show k = k' by omega]
  exact ⟨r, g4⟩
theorem use_ws {Cv : Addr} {H : Hp} {PP : Addr → Hp → Prop} {E : XK} {p : Nat} (q : ∀ o H' d, Same H (rm d H') → WsAt Cv H' o d p → Kn H' d p → PP o H') :
    ∀ o dx, H o = none → H dx = none → dx ≠ o → spWsInit Cv [.ref o, .int (p : Int)] (upd (upd H dx (.own o)) o (.ins Cv dx [])) (fun v H2 => v = .non ∧ PP o H2) E := fun o dx no nd ne => by
  refine ⟨o, dx, p, rfl, upd_same, fun H' d k hd ws kn => ⟨rfl, q o H' d ?_ ws kn⟩⟩
  have sm := mk_same no nd k
  intro b ob hb
  refine rm_of (fun e => ?_) (sm _ _ hb)
  rw [← e, upd_ne (ne_of_none hb no), upd_ne (ne_of_none hb nd), hb] at hd
  cases hd
theorem vs3 {o : Addr} {a b a' b' : Int} (h1 : a = a') (h2 : b = b') : [V.ref o, .int a, .int b] = [.ref o, .int a', .int b'] := by rw [h1, h2]
theorem i3 {a b c a' b' c' : Int} (h1 : a = a') (h2 : b = b') (h3 : c = c') : [V.int a, .int b, .int c] = [.int a', .int b', .int c'] := by rw [h1, h2, h3]
theorem i2 {a b a' b' : Int} (h1 : a = a') (h2 : b = b') : [V.int a, .int b] = [.int a', .int b'] := by rw [h1, h2]
theorem B42_lt {p d k : Nat} (h : Pok p) (hk : k ≤ 40) : B42 p d k < 2 ^ 400 := by
  have h1 := pow400 h hk
  have h2 := B42_le (p := p) (by have := h.p1; omega) k d
  rw [Int.natAbs_natCast] at h1
  omega
theorem Lim42.pok {ps : List (Int × Int)} (h : Lim42 ps) {q : Int × Int} (hq : q ∈ ps) : Pok q.1.toNat ∧ q.1 = ((q.1.toNat : Nat) : Int) ∧ q.2 = ((q.2.toNat : Nat) : Int) ∧ 1 ≤ q.2.toNat ∧ q.2.toNat ≤ 40 := by
  have := h.2 q hq
  exact ⟨⟨by omega, by omega⟩, by omega, by omega, by omega, by omega⟩
theorem wc42_le {d : Nat} : ∀ {ps : List (Int × Int)}, (∀ q ∈ ps, B42 q.1.toNat d q.2.toNat ≤ 2 ^ 400) → ∀ a, ps.foldl (fun f q => f * B42 q.1.toNat d q.2.toNat) a ≤ a * 2 ^ (400 * ps.length)
  | [], _, a => by simp
  | q :: r, h, a => by
    rw [List.foldl_cons]
    refine Nat.le_trans (wc42_le (fun x hx => h x (List.mem_cons_of_mem _ hx)) _) ?_
    rw [List.length_cons, Nat.mul_succ, Nat.pow_add, Nat.mul_comm (2 ^ (400 * r.length)), ← Nat.mul_assoc]
    exact Nat.mul_le_mul_right _ (Nat.mul_le_mul_left _ (h q List.mem_cons_self))
theorem wc42_take {d i : Nat} {ps : List (Int × Int)} {q : Int × Int} (h : ps[i]? = some q) : wc42 (ps.take (i + 1)) d = wc42 (ps.take i) d * B42 q.1.toNat d q.2.toNat := by
  rw [List.take_add_one, h, ← wc42_snoc]
  rfl
theorem wc42_lt {d i : Nat} {ps : List (Int × Int)} (h : Lim42 ps) : wc42 (ps.take i) d < 2 ^ 1300 := by
  have h1 := wc42_le (d := d) (ps := ps.take i) (fun q hq => by
    have := h.pok (List.mem_of_mem_take hq)
    exact Nat.le_of_lt (B42_lt this.1 this.2.2.2.2)) 1
  have h2 : (ps.take i).length ≤ 3 := Nat.le_trans (List.length_take_le' ..) h.1
  have h3 : 2 ^ (400 * (ps.take i).length) ≤ 2 ^ 1200 := Nat.pow_le_pow_right (by decide) (by omega)
  have h4 : (2 : Nat) ^ 1200 < 2 ^ 1300 := Nat.pow_lt_pow_right (by decide) (by decide)
  unfold wc42
  omega
noncomputable def IV (vs : List Int) (dg : Nat) (f : Nat → Nat) : Prop := vs.length = dg + 1 ∧ ∀ i, i ≤ dg → vs[i]? = some ((f i : Nat) : Int)
theorem IV.set {vs : List Int} {dg i n : Nat} {f g : Nat → Nat} (h : IV vs dg f) (hi : i ≤ dg) (he : n = g i) (hg : ∀ j, j ≠ i → j ≤ dg → g j = f j) : IV (vs.set i ((n : Nat) : Int)) dg g := by
  refine ⟨by rw [List.length_set]; exact h.1, fun j hj => ?_⟩
  by_cases c : j = i
  · subst c
    rw [List.getElem?_set_self (by rw [h.1]; omega), he]
  · rw [List.getElem?_set_ne (Ne.symm c), hg j c hj]
    exact h.2 j hj
theorem IV.congr {vs : List Int} {dg : Nat} {f g : Nat → Nat} (h : IV vs dg f) (e : ∀ i, i ≤ dg → f i = g i) : IV vs dg g := ⟨h.1, fun i hi => by rw [← e i hi]; exact h.2 i hi⟩
theorem IV.eq {vs ws : List Int} {dg : Nat} {f g : Nat → Nat} (h : IV vs dg f) (k : IV ws dg g) (e : vs = ws) : ∀ i, i ≤ dg → f i = g i := fun i hi => by
  have h1 := h.2 i hi
  rw [e, k.2 i hi] at h1
  have := Option.some.inj h1
  omega
theorem set_ints {vs : List Int} {i : Nat} {z : Int} : (vs.map V.int).set i (V.int z) = (vs.set i z).map V.int := by rw [List.map_set]
theorem digs_snoc (s : Nat) : ∀ (d c : Nat), digs s (d + 1) c = digs s d c ++ [c / s ^ d % s]
  | 0, c => by simp [digs]
  | d + 1, c => by
    rw [digs, digs_snoc s d (c / s), digs, List.cons_append, Nat.div_div_eq_div_mul, Nat.pow_succ, Nat.mul_comm s]
theorem digs_len (s : Nat) : ∀ (d c : Nat), (digs s d c).length = d
  | 0, _ => rfl
  | d + 1, c => by rw [digs, List.length_cons, digs_len s d]
theorem digs_lt {s : Nat} (hs : 1 ≤ s) : ∀ (d c : Nat), ∀ t ∈ digs s d c, t < s
  | 0, _, t, h => by cases h
  | d + 1, c, t, h => by
    rcases List.mem_cons.mp h with z | z
    · rw [z]; exact Nat.mod_lt _ hs
    · exact digs_lt hs d _ t z
theorem hval_take {x i t : Nat} {row : List Nat} (h : row[i]? = some t) : hval x (row.take (i + 1)) = hval x (row.take i) * x + t := by
  unfold hval
  rw [List.take_add_one, h, List.foldl_append]
  rfl
noncomputable def cntT (s : Nat) (row : List Nat) (i : Nat) : Nat := (List.range i).foldl (fun m x => m + if hval x row % s = 0 then 1 else 0) 0
theorem cntT_succ {s i : Nat} {row : List Nat} : cntT s row (i + 1) = cntT s row i + if hval i row % s = 0 then 1 else 0 := by
  unfold cntT
  rw [List.range_succ, List.foldl_append]
  rfl
noncomputable def allT (s d i : Nat) : Nat := (List.range i).foldl (fun g c => max g (cnt42 s (digs s d c))) 0
theorem allT_succ {s d i : Nat} : allT s d (i + 1) = max (allT s d i) (cnt42 s (digs s d i)) := by
  unfold allT
  rw [List.range_succ, List.foldl_append]
  rfl
theorem kvI_put {ks : List ((Int × Int) × Int)} {p : Int × Int} {v : Int} : ∃ ls, putK (kvG V.int ks) (pk p) (V.int v) = kvG V.int ls ∧ ls.length ≤ ks.length + 1 ∧ gOf ls p = some v ∧ ∀ r, r ≠ p → gOf ls r = gOf ks r := by
  cases hg : gOf ks p with
  | none =>
    refine ⟨ks ++ [(p, v)], ?_, by simp, gOf_snoc hg, fun r hr => ?_⟩
    · rw [putK_new _ (by rw [kvG_val, hg]; rfl)]
      unfold kvG
      rw [List.map_append]
      rfl
    · unfold gOf
      rw [List.find?_append]
      cases List.find? (fun e => decide (e.1 = r)) ks with
      | some x => rfl
      | none => simp [List.find?_cons, Ne.symm hr]
  | some o =>
    have hv : valV (kvG V.int ks) (pk p) = some (V.int o) := by rw [kvG_val, hg]; rfl
    refine ⟨ks.map fun e => if e.1 = p then (e.1, v) else e, ?_, by simp, ?_, fun r hr => ?_⟩
    · unfold putK
      rw [valV_any, hv, if_pos (show (some (V.int o)).isSome = true from rfl)]
      unfold kvG
      rw [List.map_map, List.map_map]
      refine List.map_congr_left fun e _ => ?_
      show (if pk e.1 = pk p then (pk e.1, V.int v) else (pk e.1, V.int e.2)) = (pk (if e.1 = p then (e.1, v) else e).1, V.int (if e.1 = p then (e.1, v) else e).2)
      by_cases c : e.1 = p
      · rw [if_pos c, if_pos (by rw [c])]
      · rw [if_neg c, if_neg fun z => c (pk_inj z)]
    · clear hv
      induction ks with
      | nil => cases hg
      | cons e t ih =>
        by_cases c : e.1 = p
        · rw [List.map_cons, if_pos c]
          simp [gOf, c]
        · rw [List.map_cons, if_neg c]
          have z : gOf t p = some o := by simpa [gOf, List.find?_cons, c] using hg
          have := ih z
          simpa [gOf, List.find?_cons, c] using this
    · clear hv hg
      induction ks with
      | nil => rfl
      | cons e t ih =>
        rw [List.map_cons]
        by_cases c : e.1 = p
        · rw [if_pos c]
          have : ¬ e.1 = r := fun z => hr (by rw [← z, c])
          simpa [gOf, List.find?_cons, this] using ih
        · rw [if_neg c]
          by_cases g : e.1 = r
          · simp [gOf, List.find?_cons, g]
          · simpa [gOf, List.find?_cons, g] using ih
noncomputable def rCatB : R2 := fun x y H Q => ∃ l b xs zs, x = .ref l ∧ y = .ref b ∧ H l = some (.lst xs) ∧ H b = some (.lst zs) ∧ xs.length + zs.length ≤ sizeLine ∧ ∀ p, H p = none → p ≠ sysModules → atV Q (.ref p) (upd H p (.lst (xs ++ zs)))
theorem op_catB {X : Cx} : OpR X (binaryOp .Add) rCatB := by
  rintro pins s σ H x y v u Q I rx ry ⟨l, b, xs, zs, rfl, rfl, h1, h2, hz, q⟩
  cases rx
  cases ry
  obtain ⟨_, is, _, r, l1, e1⟩ := I.lstM h1
  obtain ⟨_, js, _, r2, l2, e2⟩ := I.lstM h2
  refine PySem.P.add_list e1 e2 ?_ (by simp only [List.size_toArray]; omega)
  rw [show is.toArray ++ js.toArray = (is ++ js).toArray by simp]
  exact ⟨.ref _, _, I.lnew (t' := s.toks) (r.append r2) (by rw [List.length_append]; omega), rfl, q _ I.fresh (Nat.ne_of_gt I.big)⟩
theorem w_catB {p r : Addr} {xs ys : List V} {H : Hp} {Q : VK} (h : H p = some (.lst xs)) (h2 : H r = some (.lst ys)) (l : xs.length + ys.length ≤ sizeLine) (q : ∀ p, H p = none → p ≠ sysModules → atV Q (.ref p) (upd H p (.lst (xs ++ ys)))) : rCatB (.ref p) (.ref r) H Q := ⟨p, r, xs, ys, rfl, rfl, h, h2, l, q⟩
structure NoQ42 (K : PySem.W.Frag) (c : CA) : Prop where
  non : PySem.W.kitOne K (.type "NoneType") (.ref c.md) = some false
  int : PySem.W.kitOne K (.type "int") (.ref c.md) = some false
  lst : PySem.W.kitOne K (.type "list") (.ref c.md) = some false
theorem small_ok : ∀ e ∈ small42, Pok e.1 ∧ Pr (e.1 : Int) ∧ e.1 ≤ 7 ∧ 1 ≤ e.2.1 ∧ e.2.1 ≤ 4 ∧ e.2.2 ≤ 5 ∧ (e.1 ^ e.2.1) ^ e.2.2 ≤ 1000 ∧ e.1 ^ e.2.1 ≤ 30 := by
  intro e h
  simp only [small42, List.mem_cons, List.not_mem_nil, or_false] at h
  rcases h with h | h | h | h | h | h | h | h | h | h
  all_goals
    subst h
    exact ⟨⟨by decide, by decide⟩, by decide +kernel, by decide, by decide, by decide, by decide, by decide +kernel, by decide +kernel⟩
noncomputable def TB42 : List (List (Int × Int)) := [[(2, 40)], [(3, 30)], [(997, 12)], [(2, 13), (3, 9)], [(2, 4), (3, 3), (5, 2)], [(5, 6), (7, 9)], [], [(31, 5)]]
theorem tb42_ok : ∀ ps ∈ TB42, Asc 0 ps ∧ Small ps ∧ Lim42 ps := by
  intro ps h
  simp only [TB42, List.mem_cons, List.not_mem_nil, or_false] at h
  rcases h with h | h | h | h | h | h | h | h
  · subst h; exact ⟨⟨by decide, by decide, by decide +kernel, trivial⟩, smallL (by decide) (by decide), by decide, by decide⟩
  · subst h; exact ⟨⟨by decide, by decide, by decide +kernel, trivial⟩, smallL (by decide) (by decide), by decide, by decide⟩
  · subst h; exact ⟨⟨by decide, by decide, by decide +kernel, trivial⟩, smallL (by decide) (by decide), by decide, by decide⟩
  · subst h; exact ⟨⟨by decide, by decide, by decide +kernel, by decide, by decide, by decide +kernel, trivial⟩, smallL (by decide) (by decide), by decide, by decide⟩
  · subst h; exact ⟨⟨by decide, by decide, by decide +kernel, by decide, by decide, by decide +kernel, by decide, by decide, by decide +kernel, trivial⟩, smallL (by decide) (by decide), by decide, by decide⟩
  · subst h; exact ⟨⟨by decide, by decide, by decide +kernel, by decide, by decide, by decide +kernel, trivial⟩, smallL (by decide) (by decide), by decide, by decide⟩
  · subst h; exact ⟨trivial, smallL (by decide) (by decide), by decide, by decide⟩
  · subst h; exact ⟨⟨by decide, by decide, by decide +kernel, trivial⟩, smallL (by decide) (by decide), by decide, by decide⟩
theorem wc42_one {p k d : Nat} : wc42 [((p : Int), (k : Int))] d = B42 p d k := by
  show 1 * B42 (p : Int).toNat d (k : Int).toNat = _
  rw [Nat.one_mul, Int.toNat_natCast, Int.toNat_natCast]
theorem lim_one {p k : Nat} (h : Pok p) (h1 : 1 ≤ k) (h2 : k ≤ 40) : Lim42 [((p : Int), (k : Int))] := by
  refine ⟨by simp, fun q hq => ?_⟩
  rw [List.mem_singleton.mp hq]
  have := h.p1
  have := h.p2
  show 1 < (p : Int) ∧ (p : Int) < 1024 ∧ 1 ≤ (k : Int) ∧ (k : Int) ≤ 40
  omega
/-- a list of the told things -/
noncomputable def dT42 (d : PyData) : PyData := .list [.list [.str "length", d], .list [.str "length", d], .list [.str "modulus", .none]]
theorem BadL.same {K : PySem.W.Frag} {H H' : Hp} {v : V} (h : BadL K H v) (s : Same H H') : BadL K H' v := h.imp (fun h => h.same s) id
end Bc
namespace Bc
open PySem
theorem lenL1 {us : List Value} (h : us.length = 1) : ∃ a0, us = [a0] := by
  rcases us with _ | ⟨_, _ | ⟨_, _⟩⟩
  · cases h
  · exact ⟨_, rfl⟩
  · exact absurd h (by simp)
theorem lenL2 {us : List Value} (h : us.length = 2) : ∃ a0 a1, us = [a0, a1] := by
  rcases us with _ | ⟨_, _ | ⟨_, _ | ⟨_, _⟩⟩⟩
  · cases h
  · cases h
  · exact ⟨_, _, rfl⟩
  · exact absurd h (by simp)
theorem lenL3 {us : List Value} (h : us.length = 3) : ∃ a0 a1 a2, us = [a0, a1, a2] := by
  rcases us with _ | ⟨_, _ | ⟨_, _ | ⟨_, _ | ⟨_, _⟩⟩⟩⟩
  · cases h
  · cases h
  · cases h
  · exact ⟨_, _, _, rfl⟩
  · exact absurd h (by simp)
end Bc
set_option maxHeartbeats 4000000
open Bc
local macro_rules | `(tactic| walk_at "same0") => `(tactic| first
  | with_reducible exact L2.Same.refl _
  | with_reducible assumption
  | with_reducible exact rm_le
  | with_reducible exact L2.Same.trans rm_le rm_le
  | ((with_reducible refine L2.Same.trans ?_ (by with_reducible assumption)); walk_at "same0")
  | ((with_reducible refine L2.Same.trans ?_ (L2.Same.rm (by with_reducible assumption))); walk_at "same0")
  | ((with_reducible refine L2.Same.trans ?_ (Same.new (by with_reducible assumption))); walk_at "same0")
  | ((with_reducible apply same_rm); (first | with_reducible assumption | ((with_reducible refine L2.Same.trans ?_ (by with_reducible assumption)); walk_at "same0") | ((with_reducible refine L2.Same.trans ?_ (L2.Same.rm (by with_reducible assumption))); walk_at "same0")))
  | ((with_reducible refine L2.Same.rm ?_); walk_at "same0"))
local macro_rules | `(tactic| walk_at "same") => `(tactic| first
  | walk_at "same0"
  | ((with_reducible apply same_rm); walk_at "same0")
  | ((with_reducible apply same_rm); (with_reducible apply same_rm); walk_at "same0"))
local macro_rules | `(tactic| walk_at "hp0") => `(tactic| first
  | with_reducible assumption
  | ((with_reducible apply hpL); (with_reducible assumption); walk_at "same")
  | exact L2.upd_same
  | assumption
  | ((with_reducible apply hpL); assumption; walk_at "same"))
local macro_rules | `(tactic| walk_at "hp") => `(tactic| first
  | with_reducible assumption
  | (exact sq (by walk_at "hp0"))
  | (exact sqt (by walk_at "hp0"))
  | ((with_reducible apply hpL); (with_reducible assumption); walk_at "same")
  | ((with_reducible apply WayAt.same); (with_reducible assumption); walk_at "same")
  | ((with_reducible apply MkAt.same); (with_reducible assumption); walk_at "same")
  | ((with_reducible apply ModAt.same); (with_reducible assumption); walk_at "same")
  | ((with_reducible apply PrL.same); (with_reducible assumption); walk_at "same")
  | ((with_reducible apply TextAt.same); (with_reducible assumption); walk_at "same")
  | ((with_reducible apply Purse.same); (with_reducible assumption); walk_at "same")
  | assumption)
local macro_rules | `(tactic| walk_at "side") => `(tactic| first
  | with_reducible assumption
  | assumption
  | (exact rfl)
  | (refine mx_l ⟨?_, ?_⟩ <;> decide)
  | (refine mx_r ⟨?_, ?_⟩ <;> decide)
  | (refine mx_l ⟨?_, ?_⟩ <;> omega)
  | (refine mx_r ⟨?_, ?_⟩ <;> omega)
  | (refine wdiv60 ?_ ?_ <;> omega)
  | decide
  | omega)
local macro_rules | `(tactic| walk_at "go1") => `(tactic| first
  | ((with_reducible apply w_st); ((simp only [L2.start, List.map_cons, List.map_nil, List.length_cons, List.length_nil, List.cons_append, List.nil_append, List.append_nil, Nat.reduceAdd, Nat.reduceSub, List.reduceReplicate]); exact rfl))
  | with_reducible refine w_seq ?_
  | with_reducible refine w_atV ?_
  | ((with_reducible refine w_nxD ?_); (with_reducible refine w_nx ?_))
  | ((with_reducible refine w_rtD ?_); (with_reducible refine w_rt ?_))
  | ((with_reducible refine w_ctD ?_); (with_reducible refine w_ct ?_))
  | ((with_reducible refine w_bkD ?_); (with_reducible refine w_bk ?_))
  | ((with_reducible apply w_var); (exact rfl))
  | with_reducible refine w_c ?_
  | with_reducible refine w_op ?_
  | with_reducible refine w_cons ?_
  | with_reducible refine w_nil ?_
  | with_reducible refine w_cb ?_
  | ((with_reducible apply w_setN); ((intro _; simp only [List.set_cons_zero, List.set_cons_succ]); exact rfl))
  | with_reducible refine w_set ?_
  | with_reducible refine w_ret ?_
  | with_reducible refine w_if ?_
  | with_reducible refine w_test ?_
  | with_reducible refine w_tB ?_
  | with_reducible refine w_bl ?_
  | with_reducible refine w_I0 ?_
  | ((with_reducible refine w_I ?_ ?_); (first | walk_at "side" | rotate_left))
  | ((with_reducible apply w_ixL); (walk_at "hp"); (exact rfl))
  | ((with_reducible apply w_ixT); (walk_at "hp"); (exact rfl))
  | with_reducible refine w_call ?_
  | with_reducible refine w_next ?_
  | with_reducible refine w_drop ?_
  | with_reducible refine w_retN ?_
  | with_reducible refine w_un ?_
  | with_reducible refine w_U ?_
  | ((with_reducible refine w_eq ?_ ?_); (exact rfl))
  | ((with_reducible refine w_ne ?_ ?_); (exact rfl))
  | with_reducible refine w_and ?_
  | with_reducible refine w_or ?_
  | with_reducible refine w_not ?_
  | with_reducible refine w_andV ?_
  | with_reducible refine w_orV ?_
  | with_reducible refine w_notV ?_
  | with_reducible refine w_ifE ?_
  | with_reducible refine w_tup ?_
  | with_reducible refine w_lst ?_
  | ((with_reducible refine w_andsz ?_ ?_); (exact rfl))
  | with_reducible refine w_par ?_
  | with_reducible refine w_par2 ?_
  | ((with_reducible apply w_aug); (exact rfl))
  | with_reducible refine w_ipI ?_
  | with_reducible refine w_yes ?_
  | with_reducible refine w_chain ?_
  | with_reducible refine w_int1 ?_
  | with_reducible refine w_int1b ?_
  | with_reducible refine w_abs ?_
  | with_reducible refine w_max2 ?_
  | with_reducible refine w_min2 ?_
  | with_reducible refine w_for ?_
  | with_reducible refine w_rng1 ?_
  | with_reducible refine w_rng2 ?_
  | ((with_reducible refine w_rng1i ?_ ?_ ?_); omega; omega)
  | ((with_reducible refine w_rng2i ?_ ?_); omega)
  | with_reducible refine w_iList ?_
  | with_reducible refine w_iTup ?_
  | with_reducible refine w_iAt ?_
  | with_reducible refine w_asg ?_
  | with_reducible refine w_name ?_
  | with_reducible refine w_gsub ?_
  | with_reducible refine w_sl ?_
  | with_reducible refine w_noPart ?_
  | with_reducible refine w_part ?_
  | with_reducible refine w_isI ?_
  | with_reducible refine w_revL ?_
  | with_reducible refine w_isN ?_
  | with_reducible refine w_notN ?_
  | with_reducible refine w_bits ?_
  | with_reducible refine w_gcons ?_
  | with_reducible refine w_gnil ?_
  | with_reducible refine w_fld ?_
  | ((with_reducible apply w_wbase); assumption; (walk_at "hp"))
  | ((with_reducible apply w_wnum); assumption; (walk_at "hp"))
  | ((with_reducible apply w_wmark); assumption; (walk_at "hp"); intro _ _)
  | (((with_reducible apply w_wmod); assumption; (walk_at "hp")); intro _ _)
  | ((with_reducible apply w_mnum); assumption; (walk_at "hp"))
  | (((with_reducible apply w_mfac); assumption; (walk_at "hp")); intro _ _ _ _)
  | ((with_reducible apply w_klow); assumption; (walk_at "hp"))
  | ((with_reducible apply w_kshift); assumption; (walk_at "hp"))
  | ((with_reducible apply w_klead); assumption; (walk_at "hp"))
  | ((with_reducible apply w_setL); (walk_at "hp"); (exact rfl))
  | ((with_reducible apply w_len); (walk_at "hp"))
  | ((with_reducible apply w_lenT); (walk_at "hp"))
  | with_reducible refine while_n ?_
  | with_reducible refine while_nm ?_
  | with_reducible refine w_cO ?_
  | with_reducible refine w_m1 ?_
  | with_reducible refine w_isStr ?_
  | ((with_reducible apply w_tyL); (walk_at "hp"))
  | with_reducible refine w_makeK ?_
  | with_reducible refine w_callN ?_
  | ((with_reducible apply w_gtup); (walk_at "hp"); (exact rfl))
  | ((with_reducible apply w_unl); (walk_at "hp"); (exact rfl))
  | with_reducible refine w_sfld ?_
  | with_reducible refine w_make ?_
  | with_reducible refine w_meth ?_
  | with_reducible refine w_iEnum ?_
  | with_reducible refine w_lc ?_
  | with_reducible refine w_iStr ?_
  | with_reducible refine w_isS ?_
  | with_reducible refine w_leS ?_
  | with_reducible refine w_ord ?_
  | ((with_reducible apply w_iL); (walk_at "hp"))
  | ((with_reducible apply w_iT); (walk_at "hp"))
  | with_reducible refine w_bm ?_
  | with_reducible refine w_callX ?_
  | with_reducible refine w_mkO ?_
  | with_reducible refine w_xf ?_
  | with_reducible refine w_lstRg ?_
  | with_reducible refine w_rg1 ?_
  | with_reducible refine w_rg2 ?_
  | with_reducible refine w_rg2i ?_
  | ((with_reducible refine w_rgok ?_ ?_); omega)
  | with_reducible refine w_dnew ?_
  | with_reducible refine w_isB ?_
  | with_reducible refine w_strB ?_
  | with_reducible refine w_iRng3 ?_
  | with_reducible refine w_lstB ?_
  | with_reducible refine w_iZip ?_
  | ((with_reducible apply w_zipi); (walk_at "hp"); (walk_at "hp"))
  | with_reducible refine w_methK ?_
  | with_reducible refine w_cOK ?_
  | with_reducible refine w_makeX ?_
  | with_reducible refine w_makeKS ?_
  | with_reducible refine w_methX ?_
  | with_reducible refine w_mkV ?_
  | with_reducible refine w_rev0 ?_
  | with_reducible refine w_xk ?_
  | with_reducible refine w_lenSet ?_
  | with_reducible refine w_cOX ?_
  | with_reducible refine w_augS ?_
  | with_reducible refine w_lenSet1 ?_
  | with_reducible refine w_bm0 ?_)
local macro_rules | `(tactic| walk_at "go") => `(tactic| repeat (walk_at "go1"))
local macro_rules | `(tactic| walk_at "goI") => `(tactic| repeat ((fail_if_success (with_reducible refine w_if ?_)); walk_at "go1"))
namespace Lw
open PySem PySem.Spec PyProof.Rows L2 Bc C8
noncomputable def top (i : Nat) : Stmt := PySem.Challenge.pw_baseclash_k42_the_worst_count.main.body.getD i (.Pass ⟨0, 0, 0, 0⟩)
section
variable {P : Program} {w : World} {K : PySem.W.Frag} {mg : Str → Option Value} {base : Heap}
noncomputable abbrev s_isint : Stmt := (top 6)
theorem sc_isint : FnScope ["thing"] ["thing"] (defScope s_isint) :=
  ⟨rfl, rfl, rfl, by decide +kernel, rfl, by decide +kernel, by decide +kernel⟩
theorem ok_isint (F : Dn K mg "is_integer" s_isint ["thing"]) (T : Bt mg) : Cal P w K mg base 1 "is_integer" (spIsInt K) [] := by
  refine F.cal sc_isint (fun vs H Q E h => ?_) (fun f cdv A outer s H vs Q E hr h => ?_)
  · obtain ⟨v, t, b1, b2, rfl, _⟩ := h
    rfl
  · obtain ⟨v, t, b1, b2, rfl, ty, k1, k2, q⟩ := h
    refine ⟨_, (pss_one (ps_ret (pe_and (pe_callB call_isi (by rfl) T.isinstance (by decide +kernel) (pa_cons (pv 0) (pa_cons (pe_bltn (v := .ty "int") (by rfl) T.int (by decide +kernel) rfl) pa_nil))) (pe_one (pe_not (pe_callB call_isi (by rfl) T.isinstance (by decide +kernel) (pa_cons (pv 0) (pa_cons (pe_bltn (v := .ty "bool") (by rfl) T.bool (by decide +kernel) rfl) pa_nil)))))))), ?_⟩
    walk_at "go"
    refine w_isi ty k1 ?_
    walk_at "go"
    cases b1 with
    | false => exact iteF q
    | true =>
      refine iteT ?_
      walk_at "go"
      refine w_isi ty k2 ?_
      walk_at "go"
      exact q
noncomputable abbrev s_raised : Stmt := (top 7)
theorem sc_raised : FnScope ["factor", "power", "found", "turn"] ["factor", "power"] (defScope s_raised) :=
  ⟨rfl, rfl, rfl, by decide +kernel, rfl, by decide +kernel, by decide +kernel⟩
theorem ok_raised (F : Dn K mg "raised" s_raised ["factor", "power"]) (T : Bt mg) : Cal P w K mg base 1 "raised" spRaised [] := by
  refine F.cal sc_raised (fun vs H Q E h => ?_) (fun f cdv A outer s H vs Q E hr h => ?_)
  · obtain ⟨g, p, b, rfl, _⟩ := h
    rfl
  · obtain ⟨g, p, b, rfl, p0, p1, gb, hb, q⟩ := h
    refine ⟨_, (pss_cons (ps_set (i := 2) sc_raised.nd rfl (Or.inl rfl) pe_int)
      (pss_cons (ps_for PassesOwn.never rfl (pi_range1 (by rfl) T.range (pa_cons (pv 1) pa_nil)) (pg_name (i := 3) sc_raised.nd rfl (Or.inl rfl)) (pss_one (ps_set (i := 2) sc_raised.nd rfl (Or.inl rfl) (pe_op oMul (pv 2) (pv 0)))))
      (pss_one (ps_ret (pv 2))))), ?_⟩
    walk_at "go"
    refine for_range (lo := 0) (n := p.toNat) (fun i σ H' => ∃ (u : Option V), σ = [some (.int g), some (.int p), some (.int (g ^ i)), u] ∧ H' = H)
      ⟨none, by rw [Int.pow_zero], rfl⟩ ?_ ?_
    · rintro i σ H' hi ⟨u, rfl, rfl⟩
      walk_at "go"
      · exact ⟨_, by rw [Int.pow_succ], rfl⟩
      · refine mx_w (natAbs_pow_lt gb i) gb ?_
        have h1 : b * i ≤ b * p.toNat := Nat.mul_le_mul_left b (by omega)
        omega
    · rintro σ H' ⟨u, rfl, rfl⟩
      walk_at "go"
      exact q
noncomputable abbrev s_prime : Stmt := (top 8)
theorem sc_prime : FnScope ["number", "divisor"] ["number"] (defScope s_prime) :=
  ⟨rfl, rfl, rfl, by decide +kernel, rfl, by decide +kernel, by decide +kernel⟩
theorem ok_prime (F : Dn K mg "is_prime_number" s_prime ["number"]) (T : Bt mg) : Cal P w K mg base 1 "is_prime_number" spPrime [] := by
  refine F.cal sc_prime (fun vs H Q E h => ?_) (fun f cdv A outer s H vs Q E hr h => ?_)
  · obtain ⟨n, rfl, _⟩ := h
    rfl
  · obtain ⟨n, rfl, n1, q⟩ := h
    refine ⟨_, (pss_cons (ps_set (i := 1) sc_prime.nd rfl (Or.inl rfl) pe_int)
      (pss_cons (ps_while PassesOwn.never (pt_cmpR op_le (pe_op oMul (pv 1) (pv 1)) (pv 0) (nomark _)) (pss_cons (ps_if (pt_cmpR op_eq (pe_op op_mod (pv 0) (pv 1)) pe_int (nomark _)) (pss_one (ps_ret pe_bl)) pss_nil)
      (pss_one (ps_aug (i := 1) sc_prime.nd rfl (Or.inl rfl) pe_int ip_add))))
      (pss_one (ps_ret (pe_cmpR op_gt (pv 0) pe_int (nomark _)))))), ?_⟩
    walk_at "go"
    refine while_go (fun σ H' => ∃ d : Int, σ = [some (.int n), some (.int d)] ∧ 2 ≤ d ∧ d ≤ 2 ^ 31 ∧ (∀ e : Int, 2 ≤ e → e < d → n % e ≠ 0) ∧ H' = H) (fun σ _ => match σ with | [_, some (.int d)] => (2 ^ 31 - d).toNat | _ => 0)
      ⟨2, rfl, by decide, by decide, fun e h1 h2 => by omega, rfl⟩ ?_
    rintro σ H' ⟨d, rfl, d2, d3, hd, rfl⟩
    walk_at "go"
    refine ite_d (fun h => ?_) (fun h => ?_)
    · have hd30 : d < 2 ^ 31 - 1 := by
        refine Int.not_le.mp fun z => ?_
        have h4 : (2 ^ 31 - 1) * (2 ^ 31 - 1) ≤ d * d := Int.mul_le_mul z z (by decide) (by omega)
        omega
      walk_at "go"
      refine ite_d (fun h2 => ?_) (fun h2 => ?_)
      · walk_at "go"
        have e0 : n % d = 0 := by injection h2
        exact q false ⟨(fun z => by cases z), fun z => absurd e0 (z.2 d d2 h)⟩
      · walk_at "go"
        have e0 : n % d ≠ 0 := fun z => h2 (by rw [z])
        refine ⟨?_, d + 1, rfl, by omega, by omega, fun e h3 h4 => ?_, rfl⟩
        · show (2 ^ 31 - (d + 1)).toNat < (2 ^ 31 - d).toNat
          omega
        · by_cases h5 : e = d
          · rw [h5]; exact e0
          · exact hd e h3 (by omega)
    · walk_at "go"
      refine q _ ?_
      rw [decide_eq_true_iff]
      refine ⟨fun z => ⟨z, fun e h1 h2 => ?_⟩, fun z => z.1⟩
      by_cases h5 : e < d
      · exact hd e h1 h5
      · exfalso
        have h4 : d * d ≤ e * e := Int.mul_le_mul (by omega) (by omega) (by omega) (by omega)
        omega
noncomputable abbrev s_isfac : Stmt := (top 10)
theorem sc_isfac : FnScope ["thing", "least", "prime", "power"] ["thing", "least"] (defScope s_isfac) :=
  ⟨rfl, rfl, rfl, by decide +kernel, rfl, by decide +kernel, by decide +kernel⟩
theorem ok_isfac (F : Dn K mg "is_factor" s_isfac ["thing", "least"]) (T : Bt mg) (c_isint : Cal P w K mg base 1 "is_integer" (spIsInt K) []) (c_prime : Cal P w K mg base 1 "is_prime_number" spPrime []) : Cal P w K mg base 2 "is_factor" spIsFactor [] := by
  refine F.cal sc_isfac (fun vs H Q E h => ?_) (fun f cdv A outer s H vs Q E hr h => ?_)
  · obtain ⟨t, l, p, k, rfl, _⟩ := h
    rfl
  · obtain ⟨t, l, p, k, rfl, ht, hp, q⟩ := h
    refine ⟨_, (pss_cons (ps_if (PW.pt (pw_or (pt_not (pt_val (pe_callB call_isi (by rfl) T.isinstance (by decide +kernel) (pa_cons (pv 0) (pa_cons (pe_bltn (v := .ty "tuple") (by rfl) T.tuple (by decide +kernel) rfl) pa_nil))))) (pw_or1 (pt_cmpR op_ne (pe_callB cLen (by rfl) T.len (by decide +kernel) (pa_cons (pv 0) pa_nil)) pe_int (nomark _))))) (pss_one (ps_ret pe_bl)) pss_nil)
      (pss_cons (ps_asg (pv 0) (pg_tup rfl (pgs_cons (pg_name (i := 2) sc_isfac.nd rfl (Or.inl rfl)) (pgs_cons (pg_name (i := 3) sc_isfac.nd rfl (Or.inl rfl)) pgs_nil))))
      (pss_cons (ps_if (PW.pt (pw_or (pt_not (pt_val (pe_c c_isint hr (by decide) (by rfl) (pa_cons (pv 2) pa_nil)))) (pw_or1 (pt_not (pt_val (pe_c c_isint hr (by decide) (by rfl) (pa_cons (pv 3) pa_nil))))))) (pss_one (ps_ret pe_bl)) pss_nil)
      (pss_one (ps_ret (pe_and (pe_cmpR op_gt (pv 2) (pv 1) (nomark _)) (pe_and (pe_cmpR op_gt (pv 3) pe_int (nomark _)) (pe_one (pe_c c_prime hr (by decide) (by rfl) (pa_cons (pv 2) pa_nil)))))))))), ?_⟩
    walk_at "go"
    refine w_isi (b := true) (.base (.tup ht)) (kit_ty (by decide +kernel)) ?_
    walk_at "go"
    refine iteF ?_
    walk_at "go"
    refine iteNS rfl ?_
    walk_at "go"
    refine use_isInt ?_
    walk_at "go"
    refine iteF ?_
    walk_at "go"
    refine use_isInt ?_
    walk_at "go"
    refine iteF ?_
    walk_at "go"
    refine ite_d (fun h1 => ?_) (fun h1 => ?_)
    · walk_at "go"
      refine ite_d (fun h2 => ?_) (fun h2 => ?_)
      · walk_at "go"
        refine ⟨p, rfl, hp, fun b hb => ?_⟩
        walk_at "go"
        exact q b (hb.trans ⟨fun z => ⟨h1, h2, z⟩, fun z => z.2.2⟩)
      · walk_at "go"
        exact q false ⟨(fun z => by cases z), fun z => absurd z.2.1 h2⟩
    · walk_at "go"
      exact q false ⟨(fun z => by cases z), fun z => absurd z.1 h1⟩
noncomputable abbrev s_modinit : Stmt := (inClass (top 11) 0)
theorem sc_modinit : FnScope ["self", "factors", "number", "least", "place", "factor"] ["self", "factors"] (defScope s_modinit) :=
  ⟨rfl, rfl, rfl, by decide +kernel, rfl, by decide +kernel, by decide +kernel⟩
theorem ok_modinit {c : CA} {f : Addr} {fd : FuncData} (F : FunD K "__init__" "Modulus.__init__" (defArgs s_modinit) (defBody s_modinit) (defScope s_modinit) [] [] f fd) (T : Bt mg) (X : Kx K mg c) (c_isfac : Cal P w K mg base 2 "is_factor" spIsFactor []) (c_raised : Cal P w K mg base 1 "raised" spRaised []) :
    FnOk P w K mg base L2.CX0 3 f fd ["self", "factors"] (spModInit c) := by
  refine fnD_ok F sc_modinit (fun vs H Q E h => ?_) (fun cdv A outer s H vs Q E hr h => ?_)
  · obtain ⟨x, dx, l, ts, ps, rfl, _⟩ := h
    rfl
  · obtain ⟨x, dx, l, ts, ps, rfl, hx, hl, hp, ha, hs, k⟩ := h
    refine ⟨_, (pss_cons (ps_if (pt_not (pt_val (pe_callB call_isiT (by rfl) T.isinstance (by decide +kernel) (pa_cons (pv 1) (pa_cons (pe_tup (pa_cons (pe_bltn (v := .ty "list") (by rfl) T.list (by decide +kernel) rfl) (pa_cons (pe_bltn (v := .ty "tuple") (by rfl) T.tuple (by decide +kernel) rfl) pa_nil))) pa_nil))))) (pss_one ps_never) pss_nil)
      (pss_cons (ps_set (i := 2) sc_modinit.nd rfl (Or.inl rfl) pe_int)
      (pss_cons (ps_set (i := 3) sc_modinit.nd rfl (Or.inl rfl) pe_int)
      (pss_cons (ps_for PassesOwn.never rfl (pi_enum (by rfl) T.enumerate (pa_cons (pv 1) pa_nil)) (pg_tup rfl (pgs_cons (pg_name (i := 4) sc_modinit.nd rfl (Or.inl rfl)) (pgs_cons (pg_name (i := 5) sc_modinit.nd rfl (Or.inl rfl)) pgs_nil))) (pss_cons (ps_if (pt_not (pt_val (pe_c c_isfac hr (by decide) (by rfl) (pa_cons (pv 5) (pa_cons (pv 3) pa_nil))))) (pss_one ps_never) pss_nil)
      (pss_cons (ps_set (i := 3) sc_modinit.nd rfl (Or.inl rfl) (pe_ix ix_tup (pv 5) pe_int (fun _ _ => rfl)))
      (pss_one (ps_set (i := 2) sc_modinit.nd rfl (Or.inl rfl) (pe_op oMul (pv 2) (pe_c c_raised hr (by decide) (by rfl) (pa_cons (pe_ix ix_tup (pv 5) pe_int (fun _ _ => rfl)) (pa_cons (pe_ix ix_tup (pv 5) pe_int (fun _ _ => rfl)) pa_nil)))))))))
      (pss_cons (ps_fld (pv 0) (pv 2) rfl)
      (pss_one (ps_fld (pv 0) (pe_callTy cTupOf (by rfl) T.tuple (by decide +kernel) (pa_cons (pv 1) pa_nil)) rfl))))))), ?_⟩
    walk_at "go"
    intro p np
    walk_at "go"
    have hl1 := upd_new (o := .tup [.ty "list", .ty "tuple"]) np hl
    have hx1 := upd_new (o := .tup [.ty "list", .ty "tuple"]) np hx
    refine w_isi2 (b := true) upd_same (.base (.lst hl1)) (kitA (by decide +kernel)) ?_
    walk_at "go"
    refine iteF ?_
    walk_at "go"
    refine w_enumi (sq hl1) ?_
    refine for_it (walk_enum (xs := ts.map V.ref)) (fun i σ H' => ∃ (u1 u2 : Option V), σ = [some (.ref x), some (.ref l), some (.int (num (ps.take i))), some (.int (((ps.take i).getLast?.map (·.1)).getD 0)), u1, u2] ∧ Same (upd H p (.tup [.ty "list", .ty "tuple"])) H')
      ⟨none, none, rfl, Same.refl _⟩ (fun i σ H' _ z => by obtain ⟨_, _, _, z⟩ := z; exact sq (z _ _ hl1)) ?_ ?_
    · rintro i y σ H1 H2 hi ⟨u1, u2, rfl, sm⟩ ⟨t, z1, z2, rfl, nt, rfl, e1, e2⟩
      cases e1
      obtain ⟨tt, htt, rfl⟩ := get_map e2
      obtain ⟨pr, hpr, ht⟩ := paired_get hp htt
      have s2 : Same H (upd H1 t (.tup [.int (i : Nat), .ref tt])) := (Same.new np).trans (sm.trans (Same.new nt))
      have ht2 := s2 _ _ ht
      have hsm := hs.1 pr (List.mem_of_getElem? hpr)
      have hasc := ha.at_ hpr
      refine w_gtup (sqt upd_same) rfl ?_
      walk_at "go"
      refine ⟨tt, _, pr.1, pr.2, rfl, ht2, by omega, fun b hb => ?_⟩
      have hb1 : b = true := hb.mpr hasc
      subst hb1
      walk_at "go"
      refine iteF ?_
      walk_at "go"
      refine ⟨pr.1, pr.2, 10, rfl, by omega, by omega, by show pr.1.natAbs < 1024; omega, by omega, ?_⟩
      walk_at "go"
      · refine ⟨some (.int (i : Nat)), some (.ref tt), ?_, (sm.trans (Same.new nt))⟩
        have hi2 : i < ps.length := (List.getElem?_eq_some_iff.mp hpr).1
        have e3 : (ps.take (i + 1)).getLast? = some pr := by
          rw [List.take_succ_eq_append_getElem hi2, List.getLast?_concat, (List.getElem?_eq_some_iff.mp hpr).2]
        rw [num_take hpr, e3]
        rfl
      · have hi2 : i < ps.length := (List.getElem?_eq_some_iff.mp hpr).1
        have h7 := num_bound hs i (by omega)
        refine mx_w h7.2 (natAbs_pow_lt (b := 10) (by show pr.1.natAbs < 1024; omega) pr.2.toNat) ?_
        have := hs.2
        omega
    · rintro σ H1 ⟨u1, u2, rfl, sm⟩
      have hlen : (ts.map V.ref).length = ps.length := by
        rw [List.length_map]
        exact hp.length.symm
      rw [hlen, List.take_length]
      have hx2 := sm _ _ hx1
      have hl2 := sm _ _ hl1
      walk_at "go"
      refine w_sfldi hx2 X.md.cl X.number (by decide) ?_
      walk_at "go"
      have nxl : l ≠ x := fun z => by rw [z, hx] at hl; cases hl
      refine w_tupL (sq ((upd_ne nxl).trans hl2)) fun t ht => ?_
      walk_at "go"
      have nxt : x ≠ t := fun z => by rw [z, upd_same] at ht; cases ht
      refine w_sfldi ((upd_ne nxt).trans upd_same) X.md.cl X.factors (by show 1 < 1000; decide) ?_
      walk_at "go"
      refine k _ t (fun b o nb hb => ?_) ?_ ?_
      · have hb2 := sm _ _ (Same.new np _ _ hb)
        have hbt : b ≠ t := fun z => by rw [z] at nb hb2; rw [upd_ne nb, hb2] at ht; cases ht
        rw [upd_ne nb, upd_ne hbt, upd_ne nb]
        exact hb2
      · rw [upd_same]
        show some (HO.ins c.md dx (putF "factors" (.ref t) [("number", _)])) = _
        rw [putS (by decide +kernel)]
        rfl
      · rw [upd_ne nxt.symm, upd_same]
noncomputable abbrev s_reqmod : Stmt := (top 12)
noncomputable abbrev s_mixed : Stmt := (top 21)
theorem sc_mixed : FnScope ["_law_cell", "_law_k", "_law_stirred"] ["_law_cell", "_law_k"] (defScope s_mixed) :=
  ⟨rfl, rfl, rfl, by decide +kernel, rfl, by decide +kernel, by decide +kernel⟩
theorem ok_mixed (F : Dn K mg "_law_mixed" s_mixed ["_law_cell", "_law_k"]) (T : Bt mg) : Cal P w K mg base 1 "_law_mixed" spMixed [] := by
  refine F.cal sc_mixed (fun vs H Q E h => ?_) (fun f cdv A outer s H vs Q E hr h => ?_)
  · obtain ⟨a, b, rfl, _⟩ := h
    rfl
  · obtain ⟨a, b, rfl, a0, a1, b0, b1, k⟩ := h
    refine ⟨_, (pss_cons (ps_set (i := 2) sc_mixed.nd rfl (Or.inl rfl) (pe_op op_mod (pe_callTy cInt1 (by rfl) T.int (by decide +kernel) (pa_cons (pe_op op_add (pe_op op_add (pe_op op_add (pe_op oMul (pv 0) pe_int) (pe_op oMul (pe_op oMul pe_int (pv 1)) (pv 1))) (pe_op oMul pe_int (pv 1))) pe_int) pa_nil)) pe_int))
      (pss_one (ps_ret (pe_op op_fdivW (pe_op op_mod (pe_callTy cInt1 (by rfl) T.int (by decide +kernel) (pa_cons (pe_op op_add (pe_op op_add (pe_op oMul (pv 2) (pv 2)) (pe_op oMul pe_int (pv 2))) pe_int) pa_nil)) pe_int) pe_int)))), ?_⟩
    walk_at "go"
    · exact k _ (by omega) (by omega)
noncomputable abbrev s_purse : Stmt := (top 22)
theorem sc_purse : FnScope ["_law_cells", "_law_at", "_law_cell"] ["_law_cells", "_law_at"] (defScope s_purse) :=
  ⟨rfl, rfl, rfl, by decide +kernel, rfl, by decide +kernel, by decide +kernel⟩
theorem ok_purse (F : Dn K mg "_law_purse" s_purse ["_law_cells", "_law_at"]) (T : Bt mg) : Cal P w K mg base 1 "_law_purse" (spPurse K) [] := by
  refine F.cal sc_purse (fun vs H Q E h => ?_) (fun f cdv A outer s H vs Q E hr h => ?_)
  · obtain ⟨a, ns, i, rfl, _⟩ := h
    rfl
  · obtain ⟨a, ns, i, rfl, hS, i0, hl, k⟩ := h
    have e1 : CPowW 10 18 := ⟨by decide, by decide +kernel⟩
    have e2 : CPowW 10 60 := ⟨by decide, by decide +kernel⟩
    have e3 : CPowW (10 ^ Int.toNat 60) 8 := ⟨by decide, by decide +kernel⟩
    have e4 : (0 : Int) < (10 ^ Int.toNat 60) ^ Int.toNat 8 := by decide +kernel
    have e5 : ((10 : Int) ^ Int.toNat 60) ^ Int.toNat 8 < 2 ^ 1600 := by decide +kernel
    generalize e6 : ((10 : Int) ^ Int.toNat 60) ^ Int.toNat 8 = g at e4 e5
    have fin : ∀ c : Int, Q = Q → ∀ p, H p = none → Q (.ref p) (upd H p (.lst [.int ((if 0 > c - 10 ^ Int.toNat 18 then 0 else c - 10 ^ Int.toNat 18) % g), .int (c % 2147483647), .int (1000 * i)])) := fun c _ p np =>
      k p _ np (Same.new np) ⟨_, _, _, upd_same, Int.emod_nonneg _ (by omega), Int.lt_trans (Int.emod_lt_of_pos _ e4) e5, by omega, by omega, by omega, by omega⟩
    refine ⟨_, (pss_cons (ps_set (i := 2) sc_purse.nd rfl (Or.inl rfl) pe_int)
      (pss_cons (ps_if (pt_cmpR op_lt (pv 1) (pe_callB cLen (by rfl) T.len (by decide +kernel) (pa_cons (pv 0) pa_nil)) (nomark _)) (pss_one (ps_set (i := 2) sc_purse.nd rfl (Or.inl rfl) (pe_ix ix_list (pv 0) (pv 1) (fun _ _ => rfl)))) pss_nil)
      (pss_one (ps_ret (pe_lst (pa_cons (pe_op op_mod (pe_callTy cInt1 (by rfl) T.int (by decide +kernel) (pa_cons (pe_callB (cMax2 rfl) (by rfl) T.max (by decide +kernel) (pa_cons (pe_op op_sub (pv 2) (pe_op oPowW pe_int pe_int)) (pa_cons pe_int pa_nil))) pa_nil)) (pe_op oPowW (pe_op oPowW pe_int pe_int) pe_int)) (pa_cons (pe_op op_mod (pe_callTy cInt1 (by rfl) T.int (by decide +kernel) (pa_cons (pv 2) pa_nil)) pe_int) (pa_cons (pe_op oMul pe_int (pv 1)) pa_nil)))))))), ?_⟩
    walk_at "go"
    refine ite_d (fun h => ?_) (fun h => ?_)
    · walk_at "go"
      refine w_ixL hS (atI_ints i0 h) ?_
      walk_at "go"
      rw [e6]
      exact fin _ rfl
    · walk_at "go"
      rw [e6]
      exact fin _ rfl
noncomputable abbrev s_draw : Stmt := (top 23)
theorem sc_draw : FnScope ["_law_purse_here", "_law_out_of", "_law_drawn"] ["_law_purse_here", "_law_out_of"] (defScope s_draw) :=
  ⟨rfl, rfl, rfl, by decide +kernel, rfl, by decide +kernel, by decide +kernel⟩
theorem ok_draw (F : Dn K mg "_law_draw" s_draw ["_law_purse_here", "_law_out_of"]) (T : Bt mg) (c_mixed : Cal P w K mg base 1 "_law_mixed" spMixed []) : Cal P w K mg base 2 "_law_draw" spDraw [] := by
  refine F.cal sc_draw (fun vs H Q E h => ?_) (fun f cdv A outer s H vs Q E hr h => ?_)
  · obtain ⟨a, n, c, rfl, _⟩ := h
    rfl
  · obtain ⟨a, n, c, rfl, n0, n1, hc, ⟨x, y, z, hp, x0, x1, y0, y1, z0, z1⟩, k⟩ := h
    refine ⟨_, (pss_cons (ps_if (pt_cmpR op_gt (pe_ix ix_list (pv 0) pe_int (fun _ _ => rfl)) pe_int (nomark _)) (pss_cons (ps_set (i := 2) sc_draw.nd rfl (Or.inl rfl) (pe_op op_mod (pe_callTy cInt1 (by rfl) T.int (by decide +kernel) (pa_cons (pe_ix ix_list (pv 0) pe_int (fun _ _ => rfl)) pa_nil)) (pv 1)))
      (pss_cons (ps_asg (pe_op op_fdivW (pe_ix ix_list (pv 0) pe_int (fun _ _ => rfl)) (pv 1)) (pg_sub (pv 0) pe_int set_list))
      (pss_one (ps_ret (pv 2))))) pss_nil)
      (pss_cons (ps_asg (pe_op op_add (pe_ix ix_list (pv 0) pe_int (fun _ _ => rfl)) pe_int) (pg_sub (pv 0) pe_int set_list))
      (pss_one (ps_ret (pe_op op_mod (pe_callTy cInt1 (by rfl) T.int (by decide +kernel) (pa_cons (pe_c c_mixed hr (by decide) (by rfl) (pa_cons (pe_ix ix_list (pv 0) pe_int (fun _ _ => rfl)) (pa_cons (pe_ix ix_list (pv 0) pe_int (fun _ _ => rfl)) pa_nil))) pa_nil)) (pv 1)))))), ?_⟩
    walk_at "go"
    refine ite_d (fun h => ?_) (fun h => ?_)
    · walk_at "go"
      exact k _ _ (Int.emod_nonneg _ (by omega)) (Int.emod_lt_of_pos _ n0) Keep.refl.upd ⟨_, _, _, upd_same, Int.ediv_nonneg x0 (by omega), Int.lt_of_le_of_lt (Int.ediv_le_self _ x0) x1, y0, y1, z0, by omega⟩
    · walk_at "go"
      refine ⟨_, _, rfl, y0, y1, (by omega), (by omega), fun r r0 r1 => ?_⟩
      walk_at "go"
      exact k _ _ (Int.emod_nonneg _ (by omega)) (Int.emod_lt_of_pos _ n0) Keep.refl.upd ⟨_, _, _, upd_same, x0, x1, y0, y1, by omega, by omega⟩
noncomputable abbrev s_invlen : Stmt := (inClass (top 4) 0)
theorem sc_invlen : FnScope ["self", "length"] ["self", "length"] (defScope s_invlen) :=
  ⟨rfl, rfl, rfl, by decide +kernel, rfl, by decide +kernel, by decide +kernel⟩
theorem ok_invlen {C f : Addr} {fd : FuncData} (F : FunD K "__init__" "InvalidLength.__init__" (defArgs s_invlen) (defBody s_invlen) (defScope s_invlen) [] [] f fd) (T : Bt mg) (hC : OexC K C) (hf : PySem.W.findIn K (.ref C) "length" = some none) : FnOk P w K mg base L2.CX0 1 f fd ["self", "length"] (spErr C "length") := by
  refine fnD_ok F sc_invlen (fun vs H Q E h => ?_) (fun cdv A outer s H vs Q E hr h => ?_)
  · obtain ⟨a, v, rfl, _⟩ := h
    rfl
  · obtain ⟨a, v, rfl, ha, q⟩ := h
    refine ⟨_, (pss_one (ps_ost (pv 0) (pv 1))), ?_⟩
    walk_at "go"
    exact ⟨v, rfl, .ref a, rfl, a, C, rfl, hC, hf, .inl ⟨ha, q⟩⟩
noncomputable abbrev s_invmod : Stmt := (inClass (top 3) 0)
theorem sc_invmod : FnScope ["self", "place"] ["self", "place"] (defScope s_invmod) :=
  ⟨rfl, rfl, rfl, by decide +kernel, rfl, by decide +kernel, by decide +kernel⟩
theorem ok_invmod {C f : Addr} {fd : FuncData} (F : FunD K "__init__" "InvalidModulus.__init__" (defArgs s_invmod) (defBody s_invmod) (defScope s_invmod) [] [] f fd) (T : Bt mg) (hC : OexC K C) (hf : PySem.W.findIn K (.ref C) "place" = some none) : FnOk P w K mg base L2.CX0 1 f fd ["self", "place"] (spErr C "place") := by
  refine fnD_ok F sc_invmod (fun vs H Q E h => ?_) (fun cdv A outer s H vs Q E hr h => ?_)
  · obtain ⟨a, v, rfl, _⟩ := h
    rfl
  · obtain ⟨a, v, rfl, ha, q⟩ := h
    refine ⟨_, (pss_one (ps_ost (pv 0) (pv 1))), ?_⟩
    walk_at "go"
    exact ⟨v, rfl, .ref a, rfl, a, C, rfl, hC, hf, .inl ⟨ha, q⟩⟩
noncomputable abbrev s_reqlenx : Stmt := (top 14)
theorem sc_reqlenx : FnScope ["thing"] ["thing"] (defScope s_reqlenx) :=
  ⟨rfl, rfl, rfl, by decide +kernel, rfl, by decide +kernel, by decide +kernel⟩
theorem ok_reqlenx {Cl : Addr} (F : Dn K mg "require_length" s_reqlenx ["thing"]) (T : Bt mg) (c_isint : Cal P w K mg base 1 "is_integer" (spIsInt K) []) (c_invlen : Err P w K mg base 1 "InvalidLength" Cl "length") : CalX P w K mg base 3 "require_length" (spReqLen42 K Cl) [] := by
  refine F.calX sc_reqlenx (fun vs H Q E h => ?_) (fun f cdv A outer s H vs Q E hr h => ?_)
  · obtain ⟨v, rfl, _⟩ := h
    rfl
  · obtain ⟨v, rfl, h⟩ := h
    refine ⟨_, (pss_one (ps_if (PW.pt (pw_or (pt_not (pt_val (pe_c c_isint hr (by decide) (by rfl) (pa_cons (pv 0) pa_nil)))) (pw_or1 (pt_cmpR op_lt (pv 0) pe_int (nomark _))))) (pss_one (ps_rse c_invlen rfl hr (by decide) (takes_of rfl rfl rfl rfl) (by rfl) (pa_cons (pv 0) pa_nil))) pss_nil)), ?_⟩
    walk_at "go"
    rcases h with ⟨⟨t, b1, b2, ty, k1, k2, ee⟩, er⟩ | ⟨m, rfl, hm, er⟩ | ⟨m, rfl, hm, q⟩
    · refine ⟨v, t, b1, b2, rfl, ty, k1, k2, ?_⟩
      rw [← ee]
      walk_at "go"
      refine iteT ?_
      refine iteT ?_
      walk_at "go"
      exact w_fly er
    · refine use_isInt ?_
      walk_at "go"
      refine iteF ?_
      walk_at "go"
      refine ite_d (fun h0 => ?_) (fun h0 => absurd hm h0)
      walk_at "go"
      exact w_fly er
    · refine use_isInt ?_
      walk_at "go"
      refine iteF ?_
      walk_at "go"
      refine ite_d (fun h0 => absurd h0 (by omega)) (fun h0 => ?_)
      walk_at "go"
      exact q
noncomputable abbrev s_reqmodx : Stmt := (top 12)
theorem sc_reqmodx : FnScope ["modulus"] ["modulus"] (defScope s_reqmodx) :=
  ⟨rfl, rfl, rfl, by decide +kernel, rfl, by decide +kernel, by decide +kernel⟩
theorem ok_reqmodx {c : CA} {Cq : Addr} (F : Dn K mg "require_modulus" s_reqmodx ["modulus"]) (T : Bt mg) (X : Kx K mg c) (c_invmod : Err P w K mg base 1 "InvalidModulus" Cq "place") : CalX P w K mg base 3 "require_modulus" (spReqMod42 K c Cq) [] := by
  refine F.calX sc_reqmodx (fun vs H Q E h => ?_) (fun f cdv A outer s H vs Q E hr h => ?_)
  · obtain ⟨v, rfl, _⟩ := h
    rfl
  · obtain ⟨v, rfl, h⟩ := h
    refine ⟨_, (pss_one (ps_if (pt_not (pt_val (pe_callB call_isi (by rfl) T.isinstance (by decide +kernel) (pa_cons (pv 0) (pa_cons (pe_glob (v := .ref c.md) (by rfl) X.mgMd rfl) pa_nil))))) (pss_one (ps_rse c_invmod rfl hr (by decide) (takes_of rfl rfl rfl rfl) (by rfl) (pa_cons pe_non pa_nil))) pss_nil)), ?_⟩
    walk_at "go"
    rcases h with ⟨m, ps, rfl, hm, q⟩ | ⟨t, ty, hk, er⟩
    · obtain ⟨dx, t, ts, hx, _⟩ := id hm
      refine w_isiC (X.md.ty hx) kit_own ?_
      walk_at "go"
      refine iteF ?_
      walk_at "go"
      exact q
    · refine w_isiC ty hk ?_
      walk_at "go"
      refine iteT ?_
      walk_at "go"
      exact w_fly er
noncomputable abbrev s_reqworst : Stmt := (top 18)
theorem sc_reqworst : FnScope ["length", "modulus"] ["length", "modulus"] (defScope s_reqworst) :=
  ⟨rfl, rfl, rfl, by decide +kernel, rfl, by decide +kernel, by decide +kernel⟩
theorem ok_reqworst {c : CA} {Cl Cq : Addr} (F : Dn K mg "require_worst" s_reqworst ["length", "modulus"]) (T : Bt mg) (c_invlen : Err P w K mg base 1 "InvalidLength" Cl "length") (c_reqlenx : CalX P w K mg base 3 "require_length" (spReqLen42 K Cl) []) (c_reqmodx : CalX P w K mg base 3 "require_modulus" (spReqMod42 K c Cq) []) :
    CalX P w K mg base 4 "require_worst" (spReqWorst K c Cl Cq) [] := by
  refine F.calX sc_reqworst (fun vs H Q E h => ?_) (fun f cdv A outer s H vs Q E hr h => ?_)
  · obtain ⟨v, u, rfl, _⟩ := h
    rfl
  · obtain ⟨v, u, rfl, h⟩ := h
    refine ⟨_, (pss_cons (ps_expr (pe_cX c_reqlenx hr (by decide) (by rfl) (takes_of rfl rfl rfl rfl) (pa_cons (pv 0) pa_nil)))
      (pss_cons (ps_if (pt_cmpR op_eq (pv 0) pe_int (nomark _)) (pss_one (ps_rse c_invlen rfl hr (by decide) (takes_of rfl rfl rfl rfl) (by rfl) (pa_cons (pv 0) pa_nil))) pss_nil)
      (pss_one (ps_expr (pe_cX c_reqmodx hr (by decide) (by rfl) (takes_of rfl rfl rfl rfl) (pa_cons (pv 1) pa_nil)))))), ?_⟩
    walk_at "go"
    rcases h with ⟨bad | ⟨n, rfl, hn⟩, er⟩ | ⟨n, rfl, hn, t, ty, hk, er⟩ | ⟨n, m, ps, rfl, hn, rfl, hm, q⟩
    · exact ⟨v, rfl, .inl ⟨bad, er⟩⟩
    · by_cases h0 : n < 0
      · exact ⟨_, rfl, .inr (.inl ⟨n, rfl, h0, er⟩)⟩
      · refine ⟨_, rfl, .inr (.inr ⟨n, rfl, by omega, ?_⟩)⟩
        walk_at "go"
        rw [decI, decide_eq_true (show n = 0 by omega)]
        refine iteT ?_
        walk_at "go"
        exact w_fly er
    · refine ⟨_, rfl, .inr (.inr ⟨n, rfl, by omega, ?_⟩)⟩
      walk_at "go"
      rw [decI, decide_eq_false (show ¬ n = 0 by omega)]
      refine iteF ?_
      walk_at "go"
      exact ⟨u, rfl, .inr ⟨t, ty, hk, er⟩⟩
    · refine ⟨_, rfl, .inr (.inr ⟨n, rfl, by omega, ?_⟩)⟩
      walk_at "go"
      rw [decI, decide_eq_false (show ¬ n = 0 by omega)]
      refine iteF ?_
      walk_at "go"
      refine ⟨.ref m, rfl, .inl ⟨m, ps, rfl, hm, ?_⟩⟩
      walk_at "go"
      exact q
noncomputable abbrev s_filled : Stmt := (top 17)
theorem sc_filled : FnScope ["worth", "degree", "most", "sums", "total", "turn", "later", "many", "made"] ["worth", "degree", "most"] (defScope s_filled) :=
  ⟨rfl, rfl, rfl, by decide +kernel, rfl, by decide +kernel, by decide +kernel⟩
theorem ok_filled (F : Dn K mg "filled_up" s_filled ["worth", "degree", "most"]) (T : Bt mg) : Cal P w K mg base 1 "filled_up" spFilled [] := by
  refine F.cal sc_filled (fun vs H Q E h => ?_) (fun f cdv A outer s H vs Q E hr h => ?_)
  · obtain ⟨l, wf, dg, n, rfl, _⟩ := h
    rfl
  · obtain ⟨l, wf, dg, n, rfl, ⟨xs, hl, hxl, hx⟩, hd, hn, q⟩ := h
    refine ⟨_, (pss_cons (ps_setLc (i := 3) (own := [("total", 4)]) (g := gName 4) (tt := tYes) (te := (tTup (tCons _ (tCons (tTup tNil) tNil)))) rfl sc_filled.nd rfl rfl (sw_true rfl rfl rfl (by decide +kernel)) (pi_range1 (by rfl) T.range (pa_cons (pe_op op_add (pv 1) pe_int) pa_nil)) (blkOk_by (own := [("total", 4)]) (N := ["worth", "degree", "most", "sums", "total", "turn", "later", "many", "made"]) (sc := defScope s_filled) (by decide +kernel)) (fun _ _ _ _ _ => (pg_name (i := 4) sc_filled.nd rfl (Or.inl rfl))) (fun _ _ _ _ _ => pts_nil) (fun _ _ _ _ _ => (pe_tup (pa_cons pe_int (pa_cons (pe_tup pa_nil) pa_nil)))))
      (pss_cons (ps_for PassesOwn.never rfl (pi_range1 (by rfl) T.range (pa_cons (pv 2) pa_nil)) (pg_name (i := 5) sc_filled.nd rfl (Or.inl rfl)) (pss_cons (ps_set (i := 6) sc_filled.nd rfl (Or.inl rfl) (pe_callTy cListOf (by rfl) T.list (by decide +kernel) (pa_cons (pv 3) pa_nil)))
      (pss_cons (ps_for PassesOwn.never rfl (pi_range1 (by rfl) T.range (pa_cons (pe_op op_add (pv 1) pe_int) pa_nil)) (pg_name (i := 4) sc_filled.nd rfl (Or.inl rfl)) (pss_one (ps_for PassesOwn.never rfl (pi_range2 (by rfl) T.range (pa_cons pe_int (pa_cons (pe_op op_add (pv 4) pe_int) pa_nil))) (pg_name (i := 7) sc_filled.nd rfl (Or.inl rfl)) (pss_cons (ps_set (i := 8) sc_filled.nd rfl (Or.inl rfl) (pe_op op_add (pe_ix ix_tup (pe_ix ix_list (pv 3) (pe_op op_sub (pv 4) (pv 7)) (fun _ _ => rfl)) pe_int (fun _ _ => rfl)) (pe_ix ix_list (pv 0) (pv 7) (fun _ _ => rfl))))
      (pss_one (ps_if (pt_cmpR op_gt (pv 8) (pe_ix ix_tup (pe_ix ix_list (pv 6) (pv 4) (fun _ _ => rfl)) pe_int (fun _ _ => rfl)) (nomark _)) (pss_one (ps_asg (pe_tup (pa_cons (pv 8) (pa_cons (pe_op op_catA (pe_ix ix_tup (pe_ix ix_list (pv 3) (pe_op op_sub (pv 4) (pv 7)) (fun _ _ => rfl)) pe_int (fun _ _ => rfl)) (pe_tup (pa_cons (pv 7) pa_nil))) pa_nil))) (pg_sub (pv 6) (pv 4) set_list))) pss_nil))))))
      (pss_cons (ps_if (pt_cmpR (op_eqD hr.units) (pv 6) (pv 3) (nomark _)) (pss_one (ps_ret (pe_ix ix_list (pv 3) (pv 1) (fun _ _ => rfl)))) pss_nil)
      (pss_one (ps_set (i := 3) sc_filled.nd rfl (Or.inl rfl) (pv 6)))))))
      (pss_one (ps_ret (pe_ix ix_list (pv 3) (pv 1) (fun _ _ => rfl)))))), ?_⟩
    walk_at "go"
    intro D hD
    rw [show ((dg : Int) + 1).toNat = dg + 1 by omega]
    refine lc_rel ((List.range (dg + 1)).map fun i : Nat => V.int (0 + (i : Int))) (fun _ y G => ∃ t, y = .ref t ∧ TE42 G (0, []) t) (fun x y G G' s h => by
        obtain ⟨t, e, h⟩ := h
        exact ⟨t, e, h.same s⟩) walk_rangeY hD (fun _ _ => trivial) (by rw [List.length_map, List.length_range]; omega) (fun _ => rfl) ?_ ?_
    · rintro i x H4 hx4 s4 ⟨acc, hacc⟩ Q' q'
      walk_at "go"
      refine al fun e H5 n5 s5 h5 => ?_
      walk_at "go"
      refine al fun t H6 n6 s6 h6 => ?_
      have hacc5 := s5 _ _ hacc
      exact q' _ _ (s5.trans s6) ⟨t, rfl, e, rm_of (ne_of_none' hacc5 n6) h6, rm_of (ne_of_none' hacc n5) (s6 _ _ h5), Nat.zero_le _⟩
    · intro H1 ys s1 h1 hp
      obtain ⟨ts0, rfl, hp0⟩ := sums0 hp
      rw [List.length_map, List.length_range] at hp0
      have L0 : SumL H1 D (List.replicate (dg + 1) (0, [])) := ⟨ts0, h1, hp0⟩
      clear h1 hp hp0
      walk_at "go"
      refine for_range (lo := 0) (n := n) (fun i σ H' => ∃ (s : Addr) (vs : List SE) (v4 v5 v6 v7 v8 : Option V), σ = [some (.ref l), some (.int (dg : Nat)), some (.int (n : Nat)), some (.ref s), v4, v5, v6, v7, v8] ∧ Same H H' ∧ SumL H' s vs ∧ SV42 vs dg (dp42 wf i) i) ⟨D, _, _, _, _, _, _, rfl, s1, L0, SV42.zero⟩ ?_ ?_
      · rintro i σ H2 hi ⟨s, vs, v4, v5, v6, v7, v8, rfl, s2, hs, hv⟩
        obtain ⟨ts, hs1, hs2⟩ := id hs
        walk_at "go"
        refine w_listL (xs := ts.map V.ref) (sq hs1) (al fun L H3 n3 s3 h3 => ?_)
        have la : Lat H3 L vs := SumL.lat hs1 hs2 n3 s3 h3
        have up : Same H2 (rm L H3) := fun b o hb => rm_of (fun e => by rw [e, n3] at hb; cases hb) (s3 _ _ hb)
        have hs3 : rm L H3 s = some (.lst (ts.map V.ref)) := up _ _ hs1
        have hp3 : Paired (TE42 (rm L H3)) vs ts := paired_imp (fun _ _ z => z.same up) hs2
        have hl3 : rm L H3 l = some (.lst (xs.map V.int)) := up _ _ (s2 _ _ hl)
        have S3 : Same H (rm L H3) := s2.trans up
        clear hs hs1 hs2 h3 s3 s2 up
        walk_at "go"
        rw [show ((dg : Int) + 1).toNat = dg + 1 by omega]
        refine for_range (lo := 0) (n := dg + 1) (fun t σ H' => ∃ (vs' : List SE) (v4 v7 v8 : Option V), σ = [some (.ref l), some (.int (dg : Nat)), some (.int (n : Nat)), some (.ref s), v4, some (.int (0 + (i : Nat))), some (.ref L), v7, v8] ∧ Same (rm L H3) (rm L H') ∧ Lat H' L vs' ∧ SV42 vs' dg (fun x => if x < t then dp42 wf (i + 1) x else dp42 wf i x) (i + 1)) ⟨vs, _, _, _, rfl, Same.refl _, la, (hv.mono (Nat.le_succ i)).congr fun x _ => by rw [if_neg (Nat.not_lt_zero x)]⟩ ?_ ?_
        · rintro t σ H4 ht ⟨vs', u4, u7, u8, rfl, s4, la4, hv4⟩
          walk_at "go"
          rw [show ((0 : Int) + (t : Int) + 1 - 1).toNat = t by omega]
          refine for_range (lo := 1) (n := t) (fun j σ H' => ∃ (vs' : List SE) (v7 v8 : Option V), σ = [some (.ref l), some (.int (dg : Nat)), some (.int (n : Nat)), some (.ref s), some (.int (0 + (t : Nat))), some (.int (0 + (i : Nat))), some (.ref L), v7, v8] ∧ Same (rm L H3) (rm L H') ∧ Lat H' L vs' ∧ SV42 vs' dg (fun x => if x < t then dp42 wf (i + 1) x else if x = t then pt42 wf (dp42 wf i) t j else dp42 wf i x) (i + 1)) ⟨vs', _, _, rfl, s4, la4, hv4.congr fun x _ => by
              by_cases c : x < t
              · rw [if_pos c, if_pos c]
              · rw [if_neg c, if_neg c]
                by_cases e : x = t
                · rw [if_pos e, e]
                  exact pt42_zero.symm
                · rw [if_neg e]⟩ ?_ ?_
          · rintro j σ H5 hj ⟨vs5, w7, w8, rfl, s5, ⟨us, hL5, hp5⟩, hv5⟩
            have hul := hp5.length
            have hvl := hv5.1
            have hs5 : H5 s = some (.lst (ts.map V.ref)) := rm_le _ _ (s5 _ _ hs3)
            have hl5 : H5 l = some (.lst (xs.map V.int)) := rm_le _ _ (s5 _ _ hl3)
            obtain ⟨e1, he1, he1v, he1l⟩ := hv.at (i := t - (j + 1)) (by omega)
            obtain ⟨t1, ht1, te1⟩ := paired_getL hp3 he1
            obtain ⟨r1, htt, htr, _⟩ := (te1.same s5).same rm_le
            obtain ⟨e2, he2, he2v, he2l⟩ := hv5.at (i := t) (by omega)
            obtain ⟨t2, ht2, te2⟩ := paired_getL hp5 he2
            obtain ⟨r2, htt2, htr2, _⟩ := te2.same rm_le
            simp only [Nat.lt_irrefl, if_true, if_false] at he2v
            have hw := hx (j + 1) (by omega) (by omega)
            walk_at "go"
            refine w_ixL (sq hs5) (at_idx (n := t - (j + 1)) (x := V.ref t1) (by rw [List.getElem?_map, ht1]; rfl) (by omega)) ?_
            walk_at "go"
            refine w_ixL (sq hl5) (at_idx (n := j + 1) (x := V.int ((wf (j + 1) : Nat) : Int)) (by rw [List.getElem?_map, hw]; rfl) (by omega)) ?_
            walk_at "go"
            refine w_ixL (sq hL5) (at_idx (n := t) (x := V.ref t2) (by rw [List.getElem?_map, ht2]; rfl) (by omega)) ?_
            walk_at "go"
            refine ite_d (fun hgt => ?_) (fun hgt => ?_)
            · walk_at "go"
              refine w_ixL (sq hs5) (at_idx (n := t - (j + 1)) (x := V.ref t1) (by rw [List.getElem?_map, ht1]; rfl) (by omega)) ?_
              walk_at "go"
              refine al fun pm H6 n6 s6 h6 => ?_
              walk_at "go"
              have hsz : (100000 : Nat) < sizeLine := by decide
              refine w_catA (xs := e1.2.map V.int) (ys := [V.int (1 + (j : Int))]) (s6 _ _ htr) h6 (by rw [List.length_map]; show e1.2.length + 1 ≤ sizeLine; omega) fun pc H7 s7 h7 => ?_
              walk_at "go"
              refine al fun pt H8 n8 s8 h8 => ?_
              walk_at "go"
              have hL8 := s8 _ _ (s7 _ _ (s6 _ _ hL5))
              refine w_setL hL8 (set_idx (i := t) (by rw [List.length_map]; omega) (by omega)) ?_
              walk_at "go"
              have sR : Same (rm L H5) (rm L H8) := (s6.trans (s7.trans s8)).rm
              have hnew : TE42 (rm L H8) (e1.1 + wf (j + 1), e1.2 ++ [1 + (j : Int)]) pt := ⟨pc, rm_of (ne_tup h8 hL8) (by rw [h8]; rfl), rm_of (ne_tup (s8 _ _ h7) hL8) (by rw [s8 _ _ h7, List.map_append]; rfl), by rw [List.length_append]; show e1.2.length + 1 ≤ 1000; omega⟩
              refine ⟨vs5.set t (e1.1 + wf (j + 1), e1.2 ++ [1 + (j : Int)]), _, _, rfl, ?_, ⟨us.set t pt, ?_, ?_⟩, hv5.set (by omega) ?_ (by rw [List.length_append]; show e1.2.length + 1 ≤ i + 1; omega) fun x hx0 _ => ?_⟩
              · rw [rm_updS]
                exact s5.trans sR
              · rw [upd_same, map_set_ref]
              · rw [rm_updS]
                exact paired_set hnew t (paired_imp (fun _ _ z => z.same sR) hp5)
              · rw [if_neg (Nat.lt_irrefl t), if_pos rfl, pt42_succ]
                show e1.1 + wf (j + 1) = _
                rw [Nat.max_def, ← he1v, if_pos (by omega)]
              · by_cases c : x < t
                · rw [if_pos c, if_pos c]
                · rw [if_neg c, if_neg c, if_neg hx0, if_neg hx0]
            · walk_at "go"
              refine ⟨vs5, _, _, rfl, s5, ⟨us, hL5, hp5⟩, hv5.congr fun x _ => ?_⟩
              by_cases c : x < t
              · rw [if_pos c, if_pos c]
              · rw [if_neg c, if_neg c]
                by_cases e : x = t
                · rw [if_pos e, if_pos e, pt42_succ, Nat.max_def, ← he1v]
                  by_cases g : pt42 wf (dp42 wf i) t j ≤ e1.1 + wf (j + 1)
                  · rw [if_pos g]
                    omega
                  · rw [if_neg g]
                · rw [if_neg e, if_neg e]
          · rintro σ H5 ⟨vs5, w7, w8, rfl, s5, la5, hv5⟩
            walk_at "go"
            refine ⟨vs5, _, _, _, rfl, s5, la5, hv5.congr fun x _ => ?_⟩
            by_cases c : x < t
            · rw [if_pos c, if_pos (by omega)]
            · rw [if_neg c]
              by_cases e : x = t
              · rw [if_pos e, if_pos (by omega), e]
                rfl
              · rw [if_neg e, if_neg (by omega)]
        · rintro σ H4 ⟨vs4, u4, u7, u8, rfl, s4, la4, hv4⟩
          have hv4 := hv4.congr (g := dp42 wf (i + 1)) fun x hx0 => if_pos (by omega)
          have hS4 : SumL H4 s vs := ⟨ts, rm_le _ _ (s4 _ _ hs3), paired_imp (fun _ _ z => (z.same s4).same rm_le) hp3⟩
          walk_at "go"
          refine w_eqSE la4.sum hS4 fun b hb => ?_
          cases b with
          | false =>
            walk_at "go"
            refine iteF ?_
            walk_at "go"
            exact ⟨L, vs4, _, _, _, _, _, rfl, S3.trans (s4.trans rm_le), la4.sum, hv4⟩
          | true =>
            have same := hv4.eq hv (hb rfl)
            obtain ⟨e1, he1, he1v, _⟩ := hv.at (i := dg) (Nat.le_refl _)
            obtain ⟨ts', g1, g2⟩ := hS4
            obtain ⟨t1, ht1, r1, htt, htr, _⟩ := paired_getL g2 he1
            walk_at "go"
            refine iteT ?_
            walk_at "go"
            refine w_ixL (sq g1) (at_idx (n := dg) (x := V.ref t1) (by rw [List.getElem?_map, ht1]; rfl) rfl) ?_
            walk_at "go"
            refine q H4 t1 r1 (S3.trans (s4.trans rm_le)) ?_
            rw [htt, he1v, show n = i + (n - i) by omega, dp42_stop same (n - i) dg (Nat.le_refl _)]
      · rintro σ H2 ⟨s, vs, v4, v5, v6, v7, v8, rfl, s2, ⟨ts, g1, g2⟩, hv⟩
        obtain ⟨e1, he1, he1v, _⟩ := hv.at (i := dg) (Nat.le_refl _)
        obtain ⟨t1, ht1, r1, htt, htr, _⟩ := paired_getL g2 he1
        walk_at "go"
        refine w_ixL (sq g1) (at_idx (n := dg) (x := V.ref t1) (by rw [List.getElem?_map, ht1]; rfl) rfl) ?_
        walk_at "go"
        refine q H2 t1 r1 s2 ?_
        rw [htt, he1v]
noncomputable abbrev s_wsinit : Stmt := (inClass (top 16) 0)
theorem sc_wsinit : FnScope ["self", "prime"] ["self", "prime"] (defScope s_wsinit) :=
  ⟨rfl, rfl, rfl, by decide +kernel, rfl, by decide +kernel, by decide +kernel⟩
theorem ok_wsinit {Cv : Addr} {f : Addr} {fd : FuncData} (F : FunD K "__init__" "Worst.__init__" (defArgs s_wsinit) (defBody s_wsinit) (defScope s_wsinit) [] [] f fd) (T : Bt mg) (W : KWs K mg Cv) : FnOk P w K mg base L2.CX0 1 f fd ["self", "prime"] (spWsInit Cv) := by
  refine fnD_ok F sc_wsinit (fun vs H Q E h => ?_) (fun cdv A outer s H vs Q E hr h => ?_)
  · obtain ⟨o, dx, p, rfl, _⟩ := h
    rfl
  · obtain ⟨o, dx, p, rfl, ho, q⟩ := h
    refine ⟨_, (pss_cons (ps_fld (pv 0) (pv 1) rfl)
      (pss_one (ps_fld (pv 0) pe_dnewT rfl))), ?_⟩
    walk_at "go"
    refine w_sfldi ho W.cl.cl W.prime (by decide) ?_
    walk_at "go"
    refine w_dnewT fun d nd => ?_
    have od : d ≠ o := fun e => by rw [e, L2.upd_same] at nd; cases nd
    have nd0 : H d = none := by rw [upd_ne od] at nd; exact nd
    walk_at "go"
    refine w_sfldi (by rw [upd_ne od.symm]; exact L2.upd_same) W.cl.cl W.known (by show 1 < 1000; decide) ?_
    walk_at "go"
    refine q _ d (fun b ob nb hb => ?_) nd0 ⟨dx, ?_⟩ ⟨[], ?_, List.nodup_nil, fun e he => by cases he⟩
    · rw [upd_ne nb, upd_ne (fun e => by rw [e, nd0] at hb; cases hb), upd_ne nb]
      exact hb
    · refine rm_of od.symm ?_
      rw [L2.upd_same, put0, putS (by decide +kernel), put0]
      rfl
    · rw [upd_ne od, L2.upd_same]
      rfl
noncomputable abbrev s_wsmost : Stmt := (inClass (top 16) 1)
theorem sc_wsmost : FnScope ["self", "degree", "power"] ["self", "degree", "power"] (defScope s_wsmost) :=
  ⟨rfl, rfl, rfl, by decide +kernel, rfl, by decide +kernel, by decide +kernel⟩
theorem ok_wsmost {Cv : Addr} {n L : Nat} {f : Addr} {fd : FuncData} (F : FunD K "most" "Worst.most" (defArgs s_wsmost) (defBody s_wsmost) (defScope s_wsmost) [] [] f fd) (T : Bt mg) (c_best : C8.Met P w K mg base L Cv "best" (spBest Cv n) []) : FnOk P w K mg base L2.CX0 (L + 1) f fd ["self", "degree", "power"] (spMost Cv n) := by
  refine fnD_ok F sc_wsmost (fun vs H Q E h => ?_) (fun cdv A outer s H vs Q E hr h => ?_)
  · obtain ⟨o, d, p, dg, k, rfl, _⟩ := h
    rfl
  · obtain ⟨o, d, p, dg, k, rfl, pkp, ⟨dx, ho⟩, kn, hd, hk, hn, q⟩ := h
    refine ⟨_, (pss_one (ps_ret (pe_ix ix_tup (pe_mt c_best hr (by omega) (pv 0) (pa_cons (pv 1) (pa_cons (pv 2) pa_nil))) pe_int (fun _ _ => rfl)))), ?_⟩
    walk_at "go"
    refine w_methi (rm_le _ _ ho) (vs_no (by decide +kernel) (by decide +kernel)) ?_
    walk_at "go"
    refine ⟨o, d, p, dg, k, rfl, pkp, ⟨dx, ho⟩, kn, hd, hk, hn, fun H1 qa r s1 kn1 h1 => ?_⟩
    have h1' := rm_le _ _ h1
    walk_at "go"
    exact q H1 s1 kn1
noncomputable abbrev s_wsworth : Stmt := (inClass (top 16) 4)
theorem sc_wsworth : FnScope ["self", "many", "power"] ["self", "many", "power"] (defScope s_wsworth) :=
  ⟨rfl, rfl, rfl, by decide +kernel, rfl, by decide +kernel, by decide +kernel⟩
theorem ok_wsworth {Cv : Addr} {n L : Nat} (hL : 20 ≤ L) {f : Addr} {fd : FuncData} (F : FunD K "worth" "Worst.worth" (defArgs s_wsworth) (defBody s_wsworth) (defScope s_wsworth) [] [] f fd) (T : Bt mg) (W : KWs K mg Cv) (c_raised : Cal P w K mg base 1 "raised" spRaised []) (c_most : C8.Met P w K mg base L Cv "most" (spMost Cv n) []) : FnOk P w K mg base L2.CX0 (L + 1) f fd ["self", "many", "power"] (spWorth Cv n) := by
  refine fnD_ok F sc_wsworth (fun vs H Q E h => ?_) (fun cdv A outer s H vs Q E hr h => ?_)
  · obtain ⟨o, d, p, m, k, rfl, _⟩ := h
    rfl
  · obtain ⟨o, d, p, m, k, rfl, pkp, ⟨dx, ho⟩, kn, hm1, hm2, hk1, hk2, hn, q⟩ := h
    have hp1 := pkp.p1
    have hp2 := pkp.p2
    have hpb : ((p : Nat) : Int).natAbs < 2 ^ 10 := by rw [Int.natAbs_natCast]; omega
    refine ⟨_, (pss_cons (ps_if (pt_cmpR op_ge (pv 1) (pv 2) (nomark _)) (pss_one (ps_ret (pe_c c_raised hr (by omega) (by rfl) (pa_cons (pe_fld (pv 0) rfl) (pa_cons (pe_op op_sub (pv 2) pe_int) pa_nil))))) pss_nil)
      (pss_one (ps_ret (pe_op oMul (pe_c c_raised hr (by omega) (by rfl) (pa_cons (pe_fld (pv 0) rfl) (pa_cons (pe_op op_sub (pv 1) pe_int) pa_nil))) (pe_mt c_most hr (by omega) (pv 0) (pa_cons (pv 1) (pa_cons (pe_op op_sub (pv 2) (pv 1)) pa_nil))))))), ?_⟩
    walk_at "go"
    refine ite_d (fun hc => ?_) (fun hc => ?_)
    · walk_at "go"
      refine w_fldi (rm_le _ _ ho) W.cl.cl W.prime vs_prime ?_
      walk_at "go"
      refine ⟨p, (k : Int) - 1, 10, rfl, by omega, by omega, hpb, by omega, ?_⟩
      walk_at "go"
      have e : W42 p k m = p ^ (k - 1) := by
        unfold W42
        rw [if_pos (by omega)]
      have := q H (Same.refl _) kn
      rw [e, Int.natCast_pow] at this
      rw [show ((k : Int) - 1).toNat = k - 1 by omega]
      exact this
    · walk_at "go"
      refine w_fldi (rm_le _ _ ho) W.cl.cl W.prime vs_prime ?_
      walk_at "go"
      refine ⟨p, (m : Int) - 1, 10, rfl, by omega, by omega, hpb, by omega, ?_⟩
      walk_at "go"
      refine w_methi (rm_le _ _ ho) (vs_no (by decide +kernel) (by decide +kernel)) ?_
      walk_at "go"
      refine ⟨o, d, p, m, k - m, ?_, pkp, ⟨dx, ho⟩, kn, hm2, by omega, by omega, fun H1 s1 kn1 => ?_⟩
      · rw [show ((k - m : Nat) : Int) = (k : Int) - (m : Int) by omega]
        rfl
      have e : W42 p k m = p ^ (m - 1) * B42 p m (k - m) := by
        unfold W42
        rw [if_neg (by omega)]
      have := q H1 s1 kn1
      rw [e, Int.natCast_mul, Int.natCast_pow] at this
      rw [show ((m : Int) - 1).toNat = m - 1 by omega]
      have b1 : ((p : Int) ^ (m - 1)).natAbs < 2 ^ 400 := by rw [← Int.natCast_pow]; exact pow400 pkp (by omega)
      have b2 : ((B42 p m (k - m) : Nat) : Int).natAbs < 2 ^ 400 := by
        have h1 := pow400 pkp (k := k - m) (by omega)
        have h2 := B42_le (p := p) (by omega) (k - m) m
        rw [Int.natAbs_natCast] at h1 ⊢
        omega
      have hcx : CMx ((p : Int) ^ (m - 1)) ((B42 p m (k - m) : Nat) : Int) := mx_w b1 b2 (by decide)
      walk_at "go"
      exact this
noncomputable abbrev s_wsbest : Stmt := (inClass (top 16) 3)
theorem sc_wsbest : FnScope ["self", "degree", "power", "worth", "many"] ["self", "degree", "power"] (defScope s_wsbest) :=
  ⟨rfl, rfl, rfl, by decide +kernel, rfl, by decide +kernel, by decide +kernel⟩
theorem ok_wsbest0 {Cv : Addr} {f : Addr} {fd : FuncData} (F : FunD K "best" "Worst.best" (defArgs s_wsbest) (defBody s_wsbest) (defScope s_wsbest) [] [] f fd) (T : Bt mg) (W : KWs K mg Cv) : FnOk P w K mg base L2.CX0 20 f fd ["self", "degree", "power"] (spBest Cv 0) := by
  refine fnD_ok F sc_wsbest (fun vs H Q E h => ?_) (fun cdv A outer s H vs Q E hr h => ?_)
  · obtain ⟨o, d, p, dg, k, rfl, _⟩ := h
    rfl
  · obtain ⟨o, d, p, dg, k, rfl, pkp, ⟨dx, ho⟩, kn, hd, hk, hn, q⟩ := h
    refine ⟨_, (pss_cons (ps_if (pt_cmpR op_lt (pv 2) pe_int (nomark _)) (pss_one (ps_ret (pe_tup (pa_cons pe_int (pa_cons (pe_tup pa_nil) pa_nil))))) pss_nil)
      (pss_cons ps_never
      (pss_one (ps_ret (pe_dget (u66 hr) (pe_fld (pv 0) rfl) (pe_tup (pa_cons (pv 1) (pa_cons (pv 2) pa_nil))) (fun _ _ => rfl)))))), ?_⟩
    walk_at "go"
    refine ite_d (fun hc => ?_) (fun hc => absurd (show (k : Int) < 1 by omega) hc)
    walk_at "go"
    refine al fun e H1 n1 s1 h1 => ?_
    walk_at "go"
    refine al fun t H2 n2 s2 h2 => ?_
    walk_at "go"
    have S := s1.trans s2
    obtain ⟨ks, hkd, _⟩ := id kn
    have ntd : t ≠ d := ne_of_none' (s1 _ _ hkd) n2
    refine q H2 t e S.rm (kn.mono S) (rm_of ntd ?_)
    rw [h2, show k = 0 by omega, B42_zero]
    rfl
theorem ok_wsbest {Cv : Addr} {n L : Nat} (hL : 20 ≤ L) {f : Addr} {fd : FuncData} (F : FunD K "best" "Worst.best" (defArgs s_wsbest) (defBody s_wsbest) (defScope s_wsbest) [] [] f fd) (T : Bt mg) (W : KWs K mg Cv) (c_filled : Cal P w K mg base 1 "filled_up" spFilled []) (c_worth : C8.Met P w K mg base L Cv "worth" (spWorth Cv n) []) : FnOk P w K mg base L2.CX0 (L + 1) f fd ["self", "degree", "power"] (spBest Cv (n + 1)) := by
  refine fnD_ok F sc_wsbest (fun vs H Q E h => ?_) (fun cdv A outer s H vs Q E hr h => ?_)
  · obtain ⟨o, d, p, dg, k, rfl, _⟩ := h
    rfl
  · obtain ⟨o, d, p, dg, k, rfl, pkp, ⟨dx, ho⟩, kn, hd, hk, hn, q⟩ := h
    refine ⟨_, (pss_cons (ps_if (pt_cmpR op_lt (pv 2) pe_int (nomark _)) (pss_one (ps_ret (pe_tup (pa_cons pe_int (pa_cons (pe_tup pa_nil) pa_nil))))) pss_nil)
      (pss_cons (ps_if (pt_cmp (pc_dnotin (u66q hr) (pe_tup (pa_cons (pv 1) (pa_cons (pv 2) pa_nil))) (pe_fld (pv 0) rfl))) (pss_cons (ps_set (i := 3) sc_wsbest.nd rfl (Or.inl rfl) (pe_op op_cat (pe_lst (pa_cons pe_int pa_nil)) (pe_lc (own := [("many", 4)]) (g := gName 4) (tt := tYes) (te := (tMeth _ _ _ _ _ (tVar 0) (tCons (tVar 4) (tCons (tVar 2) tNil)))) rfl sc_wsbest.nd (pi_range2 (by rfl) T.range (pa_cons pe_int (pa_cons (pe_op op_add (pv 1) pe_int) pa_nil))) (blkOk_by (own := [("many", 4)]) (N := ["self", "degree", "power", "worth", "many"]) (sc := defScope s_wsbest) (by decide +kernel)) (fun _ _ _ _ _ => (pg_name (i := 4) sc_wsbest.nd rfl (Or.inl rfl))) (fun _ _ _ _ _ => pts_nil) (fun _ _ _ _ _ => (pe_mt c_worth hr (by omega) (pv 0) (pa_cons (pv 4) (pa_cons (pv 2) pa_nil)))))))
      (pss_one (ps_asg (pe_c c_filled hr (by omega) (by rfl) (pa_cons (pv 3) (pa_cons (pv 1) (pa_cons (pe_ifExp (pt_cmpR op_lt (pe_fld (pv 0) rfl) (pv 1) (nomark _)) (pe_fld (pv 0) rfl) (pv 1)) pa_nil)))) (pg_sub (pe_fld (pv 0) rfl) (pe_tup (pa_cons (pv 1) (pa_cons (pv 2) pa_nil))) (set_dict (u66 hr)))))) pss_nil)
      (pss_one (ps_ret (pe_dget (u66 hr) (pe_fld (pv 0) rfl) (pe_tup (pa_cons (pv 1) (pa_cons (pv 2) pa_nil))) (fun _ _ => rfl)))))), ?_⟩
    walk_at "go"
    refine ite_d (fun hc => ?_) (fun hc => ?_)
    · walk_at "go"
      refine al fun e H1 n1 s1 h1 => ?_
      walk_at "go"
      refine al fun t H2 n2 s2 h2 => ?_
      walk_at "go"
      have S := s1.trans s2
      obtain ⟨ks, hkd, _⟩ := id kn
      have ntd : t ≠ d := ne_of_none' (s1 _ _ hkd) n2
      refine q H2 t e S.rm (kn.mono S) (rm_of ntd ?_)
      rw [h2, show k = 0 by omega, B42_zero]
      rfl
    · walk_at "go"
      refine w_tB (w_dnotin ?_)
      walk_at "go"
      refine al fun t H1 n1 s1 h1 => ?_
      walk_at "go"
      refine w_fldi (rm_le _ _ (s1.rm _ _ ho)) W.cl.cl W.known vs_known ?_
      walk_at "go"
      have kn1 := kn.mono s1
      obtain ⟨ks, hkd, hks⟩ := id kn1
      have ho1 : rm d H1 o = some (.ins Cv dx (vsF (p : Int) d)) := s1.rm _ _ ho
      have S1 : Same (rm d H) (rm d H1) := s1.rm
      refine ⟨d, _, rfl, DGet.t (k := pk ((dg : Int), (k : Int))) hkd (by rw [pk_val]; exact h1), ?_⟩
      rw [kvG_val]
      cases hg : gOf ks ((dg : Int), (k : Int)) with
      | some q0 =>
        obtain ⟨r0, hq0⟩ := kn1.get hkd hg
        walk_at "go"
        refine iteF ?_
        walk_at "go"
        refine w_dget ?_
        walk_at "go"
        refine w_fldi (rm_le _ _ ho1) W.cl.cl W.known vs_known ?_
        walk_at "go"
        refine al fun t2 H2 n2 s2 h2 => ?_
        have kn2 := kn1.mono s2
        refine ⟨d, V.ref q0, rfl, ?_, ?_⟩
        · have := DGet.t (k := pk ((dg : Int), (k : Int))) (s2 _ _ hkd) (b := t2) (by rw [pk_val]; exact h2)
          rw [kvG_val, hg] at this
          exact this
        · walk_at "go"
          exact q H2 q0 r0 (S1.trans s2.rm) kn2 (s2.rm _ _ hq0)
      | none =>
        walk_at "go"
        refine iteT ?_
        walk_at "go"
        refine al fun z H2 n2 s2 h2 => ?_
        have kn2 := kn1.mono s2
        have ho2 := s2.rm (a := d) _ _ ho1
        have S2 : Same (rm d H) (rm d H2) := S1.trans s2.rm
        have hz2 : rm d H2 z = some (.lst [.int 0]) := rm_of (kn2.ne h2) h2
        clear hkd hks hg
        walk_at "go"
        intro D hD
        rw [show ((dg : Int) + 1 - 1).toNat = dg by omega]
        have ndd : D ≠ d := fun e => by
          obtain ⟨ks, h, _⟩ := kn2
          rw [e, h] at hD
          cases hD
        refine lc_it walk_range (fun i H' => H' D = some (.lst ((List.range i).map fun j => V.int ((W42 p k (j + 1) : Nat) : Int))) ∧ Same (rm d H2) (rm d (rm D H')) ∧ Kn (rm D H') d p) ⟨by rw [L2.upd_same]; rfl, ?_, ?_⟩ (fun _ _ _ _ => trivial) ?_ ?_
        · rw [rm_updS]
          exact fun b o hb => by
            obtain ⟨nb, hb'⟩ := rm_some' hb
            exact rm_of nb (rm_of (fun e => by rw [e, hD] at hb'; cases hb') hb')
        · rw [rm_updS]
          obtain ⟨ks, g1, g2, g3⟩ := id kn2
          refine ⟨ks, rm_of ndd.symm g1, g2, fun e he => ?_⟩
          obtain ⟨dg', k', x1, x2, x3, r, x4⟩ := g3 e he
          obtain ⟨y1, y2⟩ := rm_some' x4
          exact ⟨dg', k', x1, x2, x3, r, rm_of y1 (rm_of (fun e => by rw [e, hD] at y2; cases y2) y2)⟩
        · rintro i x H3 H4 hi ⟨hD3, s3, kn3⟩ ⟨rfl, rfl⟩
          refine ⟨rfl, w_yes ?_⟩
          rw [if_pos rfl]
          have ho3 : rm d H4 o = some (.ins Cv dx (vsF (p : Int) d)) := Same.rm rm_le _ _ (s3 _ _ ho2)
          walk_at "go"
          refine w_methi (rm_le _ _ ho3) (vs_no (by decide +kernel) (by decide +kernel)) ?_
          walk_at "go"
          refine ⟨o, d, p, i + 1, k, ?_, pkp, ⟨dx, ho3⟩, kn3.unrm, by omega, by omega, by omega, by omega, by omega, fun H5 s5 kn5 => ?_⟩
          · rw [show ((i + 1 : Nat) : Int) = 1 + (i : Int) by omega]
            rfl
          have hD5 : H5 D = some (.lst ((List.range i).map fun j => V.int ((W42 p k (j + 1) : Nat) : Int))) := rm_le _ _ (s5 _ _ (rm_of ndd hD3))
          have hsz : (100000 : Nat) < sizeLine := by decide
          refine ⟨_, hD5, by rw [List.length_map, List.length_range]; omega, ?_, ?_, ?_⟩
          · rw [L2.upd_same, List.range_succ, List.map_append]
            rfl
          · rw [rm_updS]
            exact s3.trans fun b ob hb => by
              obtain ⟨nb, hb'⟩ := rm_some' hb
              obtain ⟨nb2, hb2⟩ := rm_some' hb'
              exact rm_of nb (rm_of nb2 (rm_le _ _ (s5 _ _ (rm_of nb hb2))))
          · rw [rm_updS]
            exact kn5.rmL hD5
        · rintro H3 ⟨hD3, s3, kn3⟩
          have kn3 := kn3.unrm
          have s3 : Same (rm d H2) (rm d H3) := s3.trans (Same.rm rm_le)
          have hz3 := rm_le _ _ (s3 _ _ hz2)
          have hsz : (100000 : Nat) < sizeLine := by decide
          walk_at "go"
          refine w_cat hz3 hD3 (by rw [List.length_map, List.length_range]; show 1 + dg ≤ sizeLine; omega) (al fun wl H4 n4 s4 h4 => ?_)
          have kn4 := kn3.mono s4
          have S4 : Same (rm d H) (rm d H4) := S2.trans (s3.trans s4.rm)
          have ho4 : rm d H4 o = some (.ins Cv dx (vsF (p : Int) d)) := S4 _ _ ho
          have WLw : WL H4 wl (W42 p k) dg := by
            refine ⟨0 :: (List.range dg).map fun j => ((W42 p k (j + 1) : Nat) : Int), by rw [h4, List.map_cons, List.map_map]; rfl, by rw [List.length_cons, List.length_map, List.length_range]; omega, fun i i1 i2 => ?_⟩
            obtain ⟨i, rfl⟩ : ∃ j, i = j + 1 := ⟨i - 1, by omega⟩
            rw [List.getElem?_cons_succ, List.getElem?_map, List.getElem?_range (by omega)]
            rfl
          walk_at "go"
          refine w_fldi (rm_le _ _ ho4) W.cl.cl W.prime vs_prime ?_
          walk_at "go"
          refine ite_d (fun hpd => ?_) (fun hpd => ?_)
          · walk_at "go"
            refine w_fldi (rm_le _ _ ho4) W.cl.cl W.prime vs_prime ?_
            walk_at "go"
            refine ⟨wl, W42 p k, dg, p, rfl, WLw, hd, by omega, fun H5 q0 r0 s5 h5 => ?_⟩
            have h5 : H5 q0 = some (.tup [.int (B42 p dg k : Nat), .ref r0]) := by
              rw [h5, B42_eq (by omega), Nat.min_def, if_pos (by omega)]
            have ho5 := s5.rm (a := d) _ _ ho4
            have kn5 := kn4.mono s5
            walk_at "go"
            refine w_fldi (rm_le _ _ ho5) W.cl.cl W.known vs_known ?_
            walk_at "go"
            refine al fun t6 H6 n6 s6 h6 => ?_
            walk_at "go"
            obtain ⟨ks6, hkd6, hl6, H7, hH7, kn7, ls, hls, hgl⟩ := (kn5.mono s6).put hd (by omega) (s6 _ _ h5)
            refine w_setDq ⟨d, _, rfl, DPut.t (k := pk ((dg : Int), (k : Int))) hkd6 (by rw [pk_val]; exact h6) (by unfold kvG; rw [List.length_map]; omega), ?_⟩
            rw [← hH7]
            have er : rm d H7 = rm d H6 := by rw [hH7, rm_updS]
            have ho7 : rm d H7 o = some (.ins Cv dx (vsF (p : Int) d)) := by rw [er]; exact s6.rm _ _ ho5
            have S7 : Same (rm d H) (rm d H7) := by rw [er]; exact S4.trans (s5.rm.trans s6.rm)
            clear hH7
            walk_at "go"
            refine w_dget ?_
            walk_at "go"
            refine w_fldi (rm_le _ _ ho7) W.cl.cl W.known vs_known ?_
            walk_at "go"
            refine al fun t8 H8 n8 s8 h8 => ?_
            have kn8 := kn7.mono s8
            obtain ⟨r8, hq8⟩ := kn8.get (s8 _ _ hls) hgl
            refine ⟨d, V.ref q0, rfl, ?_, ?_⟩
            · have := DGet.t (k := pk ((dg : Int), (k : Int))) (s8 _ _ hls) (b := t8) (by rw [pk_val]; exact h8)
              rw [kvG_val, hgl] at this
              exact this
            · walk_at "go"
              exact q H8 q0 r8 (S7.trans s8.rm) kn8 hq8
          · walk_at "go"
            refine ⟨wl, W42 p k, dg, dg, rfl, WLw, hd, by omega, fun H5 q0 r0 s5 h5 => ?_⟩
            have h5 : H5 q0 = some (.tup [.int (B42 p dg k : Nat), .ref r0]) := by
              rw [h5, B42_eq (by omega), Nat.min_def, show (if p ≤ dg then p else dg) = dg from by split <;> omega]
            have ho5 := s5.rm (a := d) _ _ ho4
            have kn5 := kn4.mono s5
            walk_at "go"
            refine w_fldi (rm_le _ _ ho5) W.cl.cl W.known vs_known ?_
            walk_at "go"
            refine al fun t6 H6 n6 s6 h6 => ?_
            walk_at "go"
            obtain ⟨ks6, hkd6, hl6, H7, hH7, kn7, ls, hls, hgl⟩ := (kn5.mono s6).put hd (by omega) (s6 _ _ h5)
            refine w_setDq ⟨d, _, rfl, DPut.t (k := pk ((dg : Int), (k : Int))) hkd6 (by rw [pk_val]; exact h6) (by unfold kvG; rw [List.length_map]; omega), ?_⟩
            rw [← hH7]
            have er : rm d H7 = rm d H6 := by rw [hH7, rm_updS]
            have ho7 : rm d H7 o = some (.ins Cv dx (vsF (p : Int) d)) := by rw [er]; exact s6.rm _ _ ho5
            have S7 : Same (rm d H) (rm d H7) := by rw [er]; exact S4.trans (s5.rm.trans s6.rm)
            clear hH7
            walk_at "go"
            refine w_dget ?_
            walk_at "go"
            refine w_fldi (rm_le _ _ ho7) W.cl.cl W.known vs_known ?_
            walk_at "go"
            refine al fun t8 H8 n8 s8 h8 => ?_
            have kn8 := kn7.mono s8
            obtain ⟨r8, hq8⟩ := kn8.get (s8 _ _ hls) hgl
            refine ⟨d, V.ref q0, rfl, ?_, ?_⟩
            · have := DGet.t (k := pk ((dg : Int), (k : Int))) (s8 _ _ hls) (b := t8) (by rw [pk_val]; exact h8)
              rw [kvG_val, hgl] at this
              exact this
            · walk_at "go"
              exact q H8 q0 r8 (S7.trans s8.rm) kn8 hq8
theorem ok_wsrec {Cv fb fm fw : Addr} {db dm dw : FuncData} (Fb : FunD K "best" "Worst.best" (defArgs s_wsbest) (defBody s_wsbest) (defScope s_wsbest) [] [] fb db) (Fm : FunD K "most" "Worst.most" (defArgs s_wsmost) (defBody s_wsmost) (defScope s_wsmost) [] [] fm dm) (Fw : FunD K "worth" "Worst.worth" (defArgs s_wsworth) (defBody s_wsworth) (defScope s_wsworth) [] [] fw dw)
    (mb : ∀ n L, FnOk P w K mg base L2.CX0 L fb db ["self", "degree", "power"] (spBest Cv n) → C8.Met P w K mg base L Cv "best" (spBest Cv n) []) (mm : ∀ n L, FnOk P w K mg base L2.CX0 L fm dm ["self", "degree", "power"] (spMost Cv n) → C8.Met P w K mg base L Cv "most" (spMost Cv n) []) (mw : ∀ n L, FnOk P w K mg base L2.CX0 L fw dw ["self", "many", "power"] (spWorth Cv n) → C8.Met P w K mg base L Cv "worth" (spWorth Cv n) [])
    (T : Bt mg) (W : KWs K mg Cv) (c_raised : Cal P w K mg base 1 "raised" spRaised []) (c_filled : Cal P w K mg base 1 "filled_up" spFilled []) (n : Nat) : C8.Met P w K mg base (20 + 3 * n) Cv "best" (spBest Cv n) [] := by
  induction n with
  | zero => exact mb 0 20 (ok_wsbest0 Fb T W)
  | succ n ih => exact mb (n + 1) (20 + 3 * n + 2 + 1) (ok_wsbest (by omega) Fb T W c_filled (mw n (20 + 3 * n + 1 + 1) (ok_wsworth (by omega) Fw T W c_raised (mm n (20 + 3 * n + 1) (ok_wsmost Fm T ih)))))
noncomputable abbrev s_worst : Stmt := (top 19)
theorem sc_worst : FnScope ["length", "modulus", "found", "prime", "power"] ["length", "modulus"] (defScope s_worst) :=
  ⟨rfl, rfl, rfl, by decide +kernel, rfl, by decide +kernel, by decide +kernel⟩
theorem ok_worst {c : CA} {Cl Cq Cv : Addr} {f : Addr} {fd : FuncData} (F : FunD K "worst_count" "worst_count" (defArgs s_worst) (defBody s_worst) (defScope s_worst) [] [] f fd) (T : Bt mg) (X : Kx K mg c) (c_reqworst : CalX P w K mg base 4 "require_worst" (spReqWorst K c Cl Cq) []) (c_wsinit : Mak P w K mg base 1 "Worst" Cv (spWsInit Cv) []) (c_wsmost : C8.Met P w K mg base 141 Cv "most" (spMost Cv 40) []) :
    FnOk P w K mg base (L2.CX P w) 150 f fd ["length", "modulus"] (spWorstX K c Cl Cq) := by
  refine fnX_ok F sc_worst (fun vs H Q E h => ?_) (fun cdv A outer s H vs Q E hr h => ?_)
  · obtain ⟨v, u, rfl, _⟩ := h
    rfl
  · obtain ⟨v, u, rfl, h⟩ := h
    refine ⟨_, (pss_cons (ps_expr (pe_cX c_reqworst hr (by decide) (by rfl) (takes_of rfl rfl rfl rfl) (pa_cons (pv 0) (pa_cons (pv 1) pa_nil))))
      (pss_cons (ps_set (i := 2) sc_worst.nd rfl (Or.inl rfl) pe_int)
      (pss_cons (ps_for (passes_of rfl) rfl (pi_tup (pe_fld (pv 1) rfl)) (pg_tup rfl (pgs_cons (pg_name (i := 3) sc_worst.nd rfl (Or.inl rfl)) (pgs_cons (pg_name (i := 4) sc_worst.nd rfl (Or.inl rfl)) pgs_nil))) (pss_one (ps_set (i := 2) sc_worst.nd rfl (Or.inl rfl) (pe_op oMul (pv 2) (pe_mt c_wsmost hr (by decide) (pe_mk c_wsinit hr (by decide) (by rfl) (pa_cons (pv 3) pa_nil)) (pa_cons (pe_op op_sub (pv 0) pe_int) (pa_cons (pv 4) pa_nil)))))))
      (pss_one (ps_ret (pv 2)))))), ?_⟩
    walk_at "go"
    rcases h with ⟨bad, er⟩ | ⟨n, rfl, hn, t, ty, hk, er⟩ | ⟨n, m, ps, rfl, hn, rfl, hm, hl, q⟩
    · exact ⟨v, u, rfl, .inl ⟨bad, er⟩⟩
    · exact ⟨_, u, rfl, .inr (.inl ⟨n, rfl, hn, t, ty, hk, er⟩)⟩
    · refine ⟨_, _, rfl, .inr (.inr ⟨_, m, ps, rfl, by omega, rfl, hm, ?_⟩)⟩
      walk_at "go"
      rename_i t0 ts0 ht0 hp0
      refine for_tup (K := K) (a := t0) (xs := ts0.map V.ref) (fun i σ H' => ∃ (v3 v4 : Option V), σ = [some (.int ((n : Int) + 1)), some (.ref m), some (.int (wc42 (ps.take i) n : Nat)), v3, v4] ∧ Same H H') ⟨_, _, rfl, Same.refl _⟩ (fun i σ H' _ z => by obtain ⟨_, _, _, z⟩ := z; exact sqt (z _ _ ht0)) ?_ ?_
      · rintro i y σ H1 hi ⟨v3, v4, rfl, s1⟩
        obtain ⟨t, ht, rfl⟩ := get_map hi
        obtain ⟨pq, hpq, htp⟩ := paired_get hp0 ht
        have htp := s1 _ _ htp
        obtain ⟨pkp, e1, e2, k1, k2⟩ := hl.pok (List.mem_of_getElem? hpq)
        refine w_gtup (sqt htp) rfl ?_
        walk_at "go"
        rw [e1]
        refine use_ws fun o H2 d s2 ws kn => ?_
        obtain ⟨dx, ho⟩ := id ws
        walk_at "go"
        refine w_methi (rm_le _ _ ho) (vs_no (by decide +kernel) (by decide +kernel)) ?_
        walk_at "go"
        refine ⟨o, d, pq.1.toNat, n, pq.2.toNat, vs3 (by omega) e2, pkp, ws, kn, hn, k2, Nat.le_refl _, fun H3 s3 kn3 => ?_⟩
        have b1 : ((wc42 (ps.take i) n : Nat) : Int).natAbs < 2 ^ 1300 := by rw [Int.natAbs_natCast]; exact wc42_lt hl
        have b2 : ((B42 pq.1.toNat n pq.2.toNat : Nat) : Int).natAbs < 2 ^ 400 := by rw [Int.natAbs_natCast]; exact B42_lt pkp k2
        have hcx : CMx ((wc42 (ps.take i) n : Nat) : Int) ((B42 pq.1.toNat n pq.2.toNat : Nat) : Int) := mx_w b1 b2 (by decide)
        walk_at "go"
        exact ⟨_, _, by rw [wc42_take hpq, Int.natCast_mul], s1.trans (s2.trans (s3.trans rm_le))⟩
      · rintro σ H1 ⟨v3, v4, rfl, s1⟩
        walk_at "go"
        have := q H1 s1
        rw [List.length_map, ← hp0.length, List.take_length]
        exact this
noncomputable abbrev s_caught : Stmt := (top 28)
theorem sc_caught : FnScope ["_law_many", "_law_ring", "_law_caught_here", "error"] ["_law_many", "_law_ring"] (defScope s_caught) :=
  ⟨rfl, rfl, rfl, by decide +kernel, rfl, by decide +kernel, by decide +kernel⟩
theorem ok_caught {c : CA} {Cl Cq : Addr} (F : Dn K mg "_law_caught" s_caught ["_law_many", "_law_ring"]) (T : Bt mg) (e_invlen : ErrC K mg "InvalidLength" Cl "length") (e_invmod : ErrC K mg "InvalidModulus" Cq "place") (nql : PySem.W.exmOne K (.ref Cq) (.ref Cl) = some false)
    (c_worst : CalX P w K mg base 150 "worst_count" (spWorstX K c Cl Cq) []) : Cal P w K mg base 151 "_law_caught" (spCaught42 K c) [] := by
  refine F.cal sc_caught (fun vs H Q E h => ?_) (fun f cdv A outer s H vs Q E hr h => ?_)
  · obtain ⟨v, u, rfl, _⟩ := h
    rfl
  · obtain ⟨v, u, rfl, h⟩ := h
    refine ⟨_, (pss_cons (ps_set (i := 2) sc_caught.nd rfl (Or.inl rfl) pe_non)
      (pss_cons (ps_try_cls rfl rfl takes0 (fun W pn xe tk po => (pss_one (ps_expr (pe_cX c_worst hr (by decide) (by rfl) tk (pa_cons (pv 0) (pa_cons (pv 1) pa_nil))))))
      (ClsOk.as (i := 3) sc_caught.nd rfl rfl ⟨rfl, by decide, .inl e_invlen.gC⟩ (fun a oe cls d pn hz hf => (pss_one (ps_set (i := 2) sc_caught.nd rfl (Or.inl rfl) (pe_lstB (pa_cons pe_str (pa_cons (pe_xf e_invlen.xf e_invlen.no hz hf (pv 3)) pa_nil))))))
      (ClsOk.as (i := 3) sc_caught.nd rfl rfl ⟨rfl, by decide, .inl e_invmod.gC⟩ (fun a oe cls d pn hz hf => (pss_one (ps_set (i := 2) sc_caught.nd rfl (Or.inl rfl) (pe_lstB (pa_cons pe_str (pa_cons (pe_xf e_invmod.xf e_invmod.no hz hf (pv 3)) pa_nil))))))
      ClsOk.nil)))
      (pss_one (ps_ret (pv 2))))), ?_⟩
    walk_at "go"
    rcases h with ⟨bad, q⟩ | ⟨n, rfl, hn, t, ty, hk, q⟩
    · refine ⟨v, u, rfl, .inl ⟨bad, fun d H1 n1 s1 h1 => ?_⟩⟩
      refine w_clsA e_invlen.te fun a na => ?_
      walk_at "go"
      refine w_xfi h1 ?_
      walk_at "go"
      refine alB fun p H2 n2 ne s2 h2 => ?_
      walk_at "go"
      exact q p H2 (s1.free n2) ne (s1.trans s2) h2
    · refine ⟨_, u, rfl, .inr (.inl ⟨n, rfl, hn, t, ty, hk, fun d H1 n1 s1 h1 => ?_⟩)⟩
      refine w_cls0 nql (w_clsA e_invmod.te fun a na => ?_)
      walk_at "go"
      refine w_xfi h1 ?_
      walk_at "go"
      refine alB fun p H2 n2 ne s2 h2 => ?_
      walk_at "go"
      exact q p H2 (s1.free n2) ne (s1.trans s2) h2
noncomputable abbrev s_lraised : Stmt := (top 24)
theorem sc_lraised : FnScope ["_law_p", "_law_k", "_law_found", "_law_turn"] ["_law_p", "_law_k"] (defScope s_lraised) :=
  ⟨rfl, rfl, rfl, by decide +kernel, rfl, by decide +kernel, by decide +kernel⟩
theorem ok_lraised (F : Dn K mg "_law_raised" s_lraised ["_law_p", "_law_k"]) (T : Bt mg) : Cal P w K mg base 1 "_law_raised" spRaised [] := by
  refine F.cal sc_lraised (fun vs H Q E h => ?_) (fun f cdv A outer s H vs Q E hr h => ?_)
  · obtain ⟨g, p, b, rfl, _⟩ := h
    rfl
  · obtain ⟨g, p, b, rfl, p0, p1, gb, hb, q⟩ := h
    refine ⟨_, (pss_cons (ps_set (i := 2) sc_lraised.nd rfl (Or.inl rfl) pe_int)
      (pss_cons (ps_for PassesOwn.never rfl (pi_range1 (by rfl) T.range (pa_cons (pv 1) pa_nil)) (pg_name (i := 3) sc_lraised.nd rfl (Or.inl rfl)) (pss_one (ps_set (i := 2) sc_lraised.nd rfl (Or.inl rfl) (pe_op oMul (pv 2) (pv 0)))))
      (pss_one (ps_ret (pv 2))))), ?_⟩
    walk_at "go"
    refine for_range (lo := 0) (n := p.toNat) (fun i σ H' => ∃ (u : Option V), σ = [some (.int g), some (.int p), some (.int (g ^ i)), u] ∧ H' = H) ⟨none, by rw [Int.pow_zero], rfl⟩ ?_ ?_
    · rintro i σ H' hi ⟨u, rfl, rfl⟩
      walk_at "go"
      · exact ⟨_, by rw [Int.pow_succ], rfl⟩
      · refine mx_w (natAbs_pow_lt gb i) gb ?_
        have h1 : b * i ≤ b * p.toNat := Nat.mul_le_mul_left b (by omega)
        omega
    · rintro σ H' ⟨u, rfl, rfl⟩
      walk_at "go"
      exact q
noncomputable abbrev s_lall : Stmt := (top 25)
theorem sc_lall : FnScope ["_law_p", "_law_k", "_law_degree", "_law_size", "_law_greatest", "_law_code", "_law_row", "_law_rest", "_law_turn", "_law_many", "_law_root", "_law_value", "_law_term"] ["_law_p", "_law_k", "_law_degree"] (defScope s_lall) :=
  ⟨rfl, rfl, rfl, by decide +kernel, rfl, by decide +kernel, by decide +kernel⟩
theorem ok_lall (F : Dn K mg "_law_all" s_lall ["_law_p", "_law_k", "_law_degree"]) (T : Bt mg) (c_lraised : Cal P w K mg base 1 "_law_raised" spRaised []) : Cal P w K mg base 2 "_law_all" spAll42 [] := by
  refine F.cal sc_lall (fun vs H Q E h => ?_) (fun f cdv A outer s H vs Q E hr h => ?_)
  · obtain ⟨p, k, d, rfl, _⟩ := h
    rfl
  · obtain ⟨p, k, d, rfl, hp1, hp7, hk, hd, hsd, hs20, q⟩ := h
    refine ⟨_, (pss_cons (ps_set (i := 3) sc_lall.nd rfl (Or.inl rfl) (pe_c c_lraised hr (by decide) (by rfl) (pa_cons (pv 0) (pa_cons (pv 1) pa_nil))))
      (pss_cons (ps_set (i := 4) sc_lall.nd rfl (Or.inl rfl) pe_int)
      (pss_cons (ps_for PassesOwn.never rfl (pi_range1 (by rfl) T.range (pa_cons (pe_c c_lraised hr (by decide) (by rfl) (pa_cons (pv 3) (pa_cons (pv 2) pa_nil))) pa_nil)) (pg_name (i := 5) sc_lall.nd rfl (Or.inl rfl)) (pss_cons (ps_set (i := 6) sc_lall.nd rfl (Or.inl rfl) (pe_lst pa_nil))
      (pss_cons (ps_set (i := 7) sc_lall.nd rfl (Or.inl rfl) (pv 5))
      (pss_cons (ps_for PassesOwn.never rfl (pi_range1 (by rfl) T.range (pa_cons (pv 2) pa_nil)) (pg_name (i := 8) sc_lall.nd rfl (Or.inl rfl)) (pss_cons (ps_expr (pe_bm PySem.F.plainAttrs_list PySem.F.slot_list_append PySem.F.type_list_append mt_append (pv 6) (pa_cons (pe_op op_mod (pv 7) (pv 3)) pa_nil)))
      (pss_one (ps_set (i := 7) sc_lall.nd rfl (Or.inl rfl) (pe_op op_fdivW (pv 7) (pv 3))))))
      (pss_cons (ps_set (i := 9) sc_lall.nd rfl (Or.inl rfl) pe_int)
      (pss_cons (ps_for PassesOwn.never rfl (pi_range1 (by rfl) T.range (pa_cons (pv 3) pa_nil)) (pg_name (i := 10) sc_lall.nd rfl (Or.inl rfl)) (pss_cons (ps_set (i := 11) sc_lall.nd rfl (Or.inl rfl) pe_int)
      (pss_cons (ps_for PassesOwn.never rfl (pi_list (pv 6)) (pg_name (i := 12) sc_lall.nd rfl (Or.inl rfl)) (pss_one (ps_set (i := 11) sc_lall.nd rfl (Or.inl rfl) (pe_op op_add (pe_op oMul (pv 11) (pv 10)) (pv 12)))))
      (pss_one (ps_set (i := 9) sc_lall.nd rfl (Or.inl rfl) (pe_op op_add (pv 9) (pe_callTy cInt1 (by rfl) T.int (by decide +kernel) (pa_cons (pe_cmpR op_eq (pe_op op_mod (pv 11) (pv 3)) pe_int (nomark _)) pa_nil))))))))
      (pss_one (ps_set (i := 4) sc_lall.nd rfl (Or.inl rfl) (pe_callB (cMax2 rfl) (by rfl) T.max (by decide +kernel) (pa_cons (pe_callTy cInt1 (by rfl) T.int (by decide +kernel) (pa_cons (pv 4) pa_nil)) (pa_cons (pe_callTy cInt1 (by rfl) T.int (by decide +kernel) (pa_cons (pv 9) pa_nil)) pa_nil)))))))))))
      (pss_one (ps_ret (pv 4)))))), ?_⟩
    walk_at "go"
    refine ⟨p, k, 10, rfl, by omega, by omega, by rw [Int.natAbs_natCast]; omega, by omega, ?_⟩
    have hs1 : 1 ≤ p ^ k := Nat.pow_pos hp1
    rw [Int.toNat_natCast, ← Int.natCast_pow]
    generalize p ^ k = s at *
    walk_at "go"
    refine ⟨s, d, 10, rfl, by omega, by omega, by rw [Int.natAbs_natCast]; omega, by omega, ?_⟩
    rw [Int.toNat_natCast, ← Int.natCast_pow]
    walk_at "go"
    rw [Int.toNat_natCast]
    refine for_range (lo := 0) (n := s ^ d) (fun i σ H' => ∃ (v5 v6 v7 v8 v9 v10 v11 v12 : Option V), σ = [some (.int (p : Nat)), some (.int (k : Nat)), some (.int (d : Nat)), some (.int (s : Nat)), some (.int (allT s d i : Nat)), v5, v6, v7, v8, v9, v10, v11, v12] ∧ Same H H') ⟨_, _, _, _, _, _, _, _, rfl, Same.refl _⟩ ?_ ?_
    · rintro i σ H1 hi ⟨v5, v6, v7, v8, v9, v10, v11, v12, rfl, s1⟩
      walk_at "go"
      refine al fun r H2 n2 s2 h2 => ?_
      walk_at "go"
      rw [Int.toNat_natCast]
      have nr : ∀ b o, H b = some o → b ≠ r := fun b o hb e => by rw [e] at hb; rw [s1 _ _ hb] at n2; cases n2
      refine for_range (lo := 0) (n := d) (fun j σ H' => ∃ (v8 v9 v10 v11 v12 : Option V), σ = [some (.int (p : Nat)), some (.int (k : Nat)), some (.int (d : Nat)), some (.int (s : Nat)), some (.int (allT s d i : Nat)), some (.int (0 + (i : Nat))), some (.ref r), some (.int (i / s ^ j : Nat)), v8, v9, v10, v11, v12] ∧ Same H (rm r H') ∧ H' r = some (.lst ((digs s j i).map fun t : Nat => V.int (t : Int)))) ⟨_, _, _, _, _, by rw [Nat.pow_zero, Nat.div_one, Int.zero_add], fun b o hb => rm_of (nr b o hb) (s2 _ _ (s1 _ _ hb)), h2⟩ ?_ ?_
      · rintro j σ H3 hj ⟨u8, u9, u10, u11, u12, rfl, s3, h3⟩
        have hdv : CDivW ((i / s ^ j : Nat) : Int) ((s : Nat) : Int) := wdiv60 (by omega) (by omega)
        walk_at "go"
        have hsz : (100000 : Nat) < sizeLine := by decide
        refine w_append h3 (by rw [List.length_map, digs_len]; omega) ?_
        walk_at "go"
        refine ⟨_, _, _, _, _, by rw [Nat.pow_succ, ← Nat.div_div_eq_div_mul, Int.natCast_ediv (i / s ^ j) s], by rw [rm_updS]; exact s3, ?_⟩
        rw [L2.upd_same, digs_snoc, List.map_append]
        rfl
      · rintro σ H3 ⟨u8, u9, u10, u11, u12, rfl, s3, h3⟩
        have hdl := digs_len s d i
        have hdt := digs_lt hs1 d i
        walk_at "go"
        rw [Int.toNat_natCast]
        refine for_range (lo := 0) (n := s) (fun j σ H' => ∃ (v8 v10 v11 v12 : Option V), σ = [some (.int (p : Nat)), some (.int (k : Nat)), some (.int (d : Nat)), some (.int (s : Nat)), some (.int (allT s d i : Nat)), some (.int (0 + (i : Nat))), some (.ref r), some (.int (i / s ^ d : Nat)), v8, some (.int (cntT s (digs s d i) j : Nat)), v10, v11, v12] ∧ H' = H3) ⟨_, _, _, _, rfl, rfl⟩ ?_ ?_
        · rintro j σ H4 hj ⟨w8, w10, w11, w12, rfl, rfl⟩
          walk_at "go"
          refine for_list (K := K) (a := r) (xs := (digs s d i).map fun t : Nat => V.int (t : Int)) (fun e σ H' => ∃ (v12 : Option V), σ = [some (.int (p : Nat)), some (.int (k : Nat)), some (.int (d : Nat)), some (.int (s : Nat)), some (.int (allT s d i : Nat)), some (.int (0 + (i : Nat))), some (.ref r), some (.int (i / s ^ d : Nat)), w8, some (.int (cntT s (digs s d i) j : Nat)), some (.int (0 + (j : Nat))), some (.int (hval j ((digs s d i).take e) : Nat)), v12] ∧ H' = H4) ⟨_, rfl, rfl⟩ (fun e σ H' _ z => by obtain ⟨_, _, rfl⟩ := z; exact sq h3) ?_ ?_
          · rintro e x σ H5 hx ⟨w12, rfl, rfl⟩
            obtain ⟨t, ht, rfl⟩ := get_map hx
            have hcx : CMx ((hval j ((digs s d i).take e) : Nat) : Int) (0 + (j : Int)) := mx_r (by omega)
            walk_at "go"
            exact ⟨_, by rw [hval_take ht, Int.natCast_add, Int.natCast_mul, Int.zero_add (j : Int)], rfl⟩
          · rintro σ H5 ⟨w12, rfl, rfl⟩
            rw [List.length_map, List.take_length]
            have hdv : CDivW ((hval j (digs s d i) : Nat) : Int) ((s : Nat) : Int) := wdiv60 (by omega) (by omega)
            walk_at "go"
            have ec : ((cntT s (digs s d i) (j + 1) : Nat) : Int) = ((cntT s (digs s d i) j : Nat) : Int) + (if decide (((hval j (digs s d i) : Nat) : Int) % ((s : Nat) : Int) = 0) = true then 1 else 0) := by
              rw [cntT_succ]
              by_cases c : hval j (digs s d i) % s = 0
              · rw [if_pos c, decide_eq_true (by omega), if_pos rfl]
                omega
              · rw [if_neg c, decide_eq_false (by omega), if_neg (by decide)]
                omega
            rw [decI]
            exact ⟨_, _, _, _, by rw [ec], rfl⟩
        · rintro σ H4 ⟨w8, w10, w11, w12, rfl, rfl⟩
          walk_at "go"
          have em : (if ((cntT s (digs s d i) s : Nat) : Int) > ((allT s d i : Nat) : Int) then ((cntT s (digs s d i) s : Nat) : Int) else ((allT s d i : Nat) : Int)) = ((allT s d (i + 1) : Nat) : Int) := by
            rw [allT_succ, show cnt42 s (digs s d i) = cntT s (digs s d i) s from rfl]
            split <;> omega
          exact ⟨_, _, _, _, _, _, _, _, by rw [em], s3.trans rm_le⟩
    · rintro σ H1 ⟨v5, v6, v7, v8, v9, v10, v11, v12, rfl, s1⟩
      walk_at "go"
      exact q H1 s1
noncomputable abbrev s_sums42 : Stmt := (top 26)
theorem sc_sums42 : FnScope ["_law_worth", "_law_degree", "_law_most", "_law_best", "_law_turn", "_law_later", "_law_total", "_law_many"] ["_law_worth", "_law_degree", "_law_most"] (defScope s_sums42) :=
  ⟨rfl, rfl, rfl, by decide +kernel, rfl, by decide +kernel, by decide +kernel⟩
theorem ok_sums42 (F : Dn K mg "_law_sums" s_sums42 ["_law_worth", "_law_degree", "_law_most"]) (T : Bt mg) : Cal P w K mg base 1 "_law_sums" spSums42 [] := by
  refine F.cal sc_sums42 (fun vs H Q E h => ?_) (fun f cdv A outer s H vs Q E hr h => ?_)
  · obtain ⟨l, wf, dg, n, rfl, _⟩ := h
    rfl
  · obtain ⟨l, wf, dg, n, rfl, ⟨xs, hl, hxl, hx⟩, hd, hn, q⟩ := h
    refine ⟨_, (pss_cons (ps_set (i := 3) sc_sums42.nd rfl (Or.inl rfl) (pe_op op_rep (pe_lst (pa_cons pe_int pa_nil)) (pe_op op_add (pv 1) pe_int)))
      (pss_cons (ps_for PassesOwn.never rfl (pi_range1 (by rfl) T.range (pa_cons (pv 2) pa_nil)) (pg_name (i := 4) sc_sums42.nd rfl (Or.inl rfl)) (pss_cons (ps_set (i := 5) sc_sums42.nd rfl (Or.inl rfl) (pe_callTy cListOf (by rfl) T.list (by decide +kernel) (pa_cons (pv 3) pa_nil)))
      (pss_cons (ps_for PassesOwn.never rfl (pi_range2 (by rfl) T.range (pa_cons pe_int (pa_cons (pe_op op_add (pv 1) pe_int) pa_nil))) (pg_name (i := 6) sc_sums42.nd rfl (Or.inl rfl)) (pss_one (ps_for PassesOwn.never rfl (pi_range2 (by rfl) T.range (pa_cons pe_int (pa_cons (pe_op op_add (pv 6) pe_int) pa_nil))) (pg_name (i := 7) sc_sums42.nd rfl (Or.inl rfl)) (pss_one (ps_asg (pe_callB (cMax2 rfl) (by rfl) T.max (by decide +kernel) (pa_cons (pe_callTy cInt1 (by rfl) T.int (by decide +kernel) (pa_cons (pe_ix ix_list (pv 5) (pv 6) (fun _ _ => rfl)) pa_nil)) (pa_cons (pe_callTy cInt1 (by rfl) T.int (by decide +kernel) (pa_cons (pe_op op_add (pe_ix ix_list (pv 3) (pe_op op_sub (pv 6) (pv 7)) (fun _ _ => rfl)) (pe_ix ix_list (pv 0) (pv 7) (fun _ _ => rfl))) pa_nil)) pa_nil))) (pg_sub (pv 5) (pv 6) set_list))))))
      (pss_cons (ps_if (pt_cmpR (op_eqD hr.units) (pv 5) (pv 3) (nomark _)) (pss_one (ps_ret (pe_ix ix_list (pv 3) (pv 1) (fun _ _ => rfl)))) pss_nil)
      (pss_one (ps_set (i := 3) sc_sums42.nd rfl (Or.inl rfl) (pv 5)))))))
      (pss_one (ps_ret (pe_ix ix_list (pv 3) (pv 1) (fun _ _ => rfl)))))), ?_⟩
    have hsz : (100000 : Nat) < sizeLine := by decide
    walk_at "go"
    refine al fun z H0 n0 s0 h0 => ?_
    walk_at "go"
    refine w_rep (xs := [.int 0]) h0 ⟨by omega, by omega, by show 1 * ((dg : Int) + 1).toNat ≤ sizeLine; omega⟩ (al fun b H1 n1 s1 h1 => ?_)
    have e0 : (List.replicate ((dg : Int) + 1).toNat [V.int 0]).flatten = (List.replicate (dg + 1) (0 : Int)).map V.int := by
      rw [show ((dg : Int) + 1).toNat = dg + 1 by omega]
      generalize dg + 1 = m
      induction m with
      | zero => rfl
      | succ m ih => rw [List.replicate_succ, List.flatten_cons, ih, List.replicate_succ]; rfl
    rw [e0] at h1
    have I0 : IV (List.replicate (dg + 1) (0 : Int)) dg (dp42 wf 0) := ⟨List.length_replicate, fun i hi => by rw [List.getElem?_replicate, if_pos (by omega)]; rfl⟩
    walk_at "go"
    refine for_range (lo := 0) (n := n) (fun i σ H' => ∃ (s : Addr) (vs : List Int) (v4 v5 v6 v7 : Option V), σ = [some (.ref l), some (.int (dg : Nat)), some (.int (n : Nat)), some (.ref s), v4, v5, v6, v7] ∧ Same H H' ∧ H' s = some (.lst (vs.map V.int)) ∧ IV vs dg (dp42 wf i)) ⟨b, _, _, _, _, _, rfl, s0.trans s1, h1, I0⟩ ?_ ?_
    · rintro i σ H2 hi ⟨s, vs, v4, v5, v6, v7, rfl, s2, hs, hv⟩
      walk_at "go"
      refine w_listL (xs := vs.map V.int) (sq hs) (al fun L H3 n3 s3 h3 => ?_)
      have up : Same H2 (rm L H3) := fun b o hb => rm_of (fun e => by rw [e, n3] at hb; cases hb) (s3 _ _ hb)
      have hs3 : rm L H3 s = some (.lst (vs.map V.int)) := up _ _ hs
      have hl3 : rm L H3 l = some (.lst (xs.map V.int)) := up _ _ (s2 _ _ hl)
      have S3 : Same H (rm L H3) := s2.trans up
      clear hs s3 s2 up
      walk_at "go"
      rw [show ((dg : Int) + 1 - 1).toNat = dg by omega]
      refine for_range (lo := 1) (n := dg) (fun t σ H' => ∃ (vs' : List Int) (v6 v7 : Option V), σ = [some (.ref l), some (.int (dg : Nat)), some (.int (n : Nat)), some (.ref s), some (.int (0 + (i : Nat))), some (.ref L), v6, v7] ∧ Same (rm L H3) (rm L H') ∧ H' L = some (.lst (vs'.map V.int)) ∧ IV vs' dg (fun x => if x ≤ t then dp42 wf (i + 1) x else dp42 wf i x)) ⟨vs, _, _, rfl, Same.refl _, h3, hv.congr fun x _ => by
          by_cases c : x ≤ 0
          · rw [if_pos c, show x = 0 by omega]
            rfl
          · rw [if_neg c]⟩ ?_ ?_
      · rintro t σ H4 ht ⟨vs', u6, u7, rfl, s4, h4, hv4⟩
        walk_at "go"
        rw [show ((1 : Int) + (t : Int) + 1 - 1).toNat = t + 1 by omega]
        refine for_range (lo := 1) (n := t + 1) (fun j σ H' => ∃ (vs' : List Int) (v7 : Option V), σ = [some (.ref l), some (.int (dg : Nat)), some (.int (n : Nat)), some (.ref s), some (.int (0 + (i : Nat))), some (.ref L), some (.int (1 + (t : Nat))), v7] ∧ Same (rm L H3) (rm L H') ∧ H' L = some (.lst (vs'.map V.int)) ∧ IV vs' dg (fun x => if x ≤ t then dp42 wf (i + 1) x else if x = t + 1 then pt42 wf (dp42 wf i) (t + 1) j else dp42 wf i x)) ⟨vs', _, rfl, s4, h4, hv4.congr fun x _ => by
            by_cases c : x ≤ t
            · rw [if_pos c, if_pos c]
            · rw [if_neg c, if_neg c]
              by_cases e : x = t + 1
              · rw [if_pos e, e]
                exact pt42_zero.symm
              · rw [if_neg e]⟩ ?_ ?_
        · rintro j σ H5 hj ⟨vs5, w7, rfl, s5, h5, hv5⟩
          have hvl := hv5.1
          have hs5 : H5 s = some (.lst (vs.map V.int)) := rm_le _ _ (s5 _ _ hs3)
          have hl5 : H5 l = some (.lst (xs.map V.int)) := rm_le _ _ (s5 _ _ hl3)
          have hw := hx (j + 1) (by omega) (by omega)
          have hcur : vs5[t + 1]? = some ((pt42 wf (dp42 wf i) (t + 1) j : Nat) : Int) := (hv5.2 (t + 1) (by omega)).trans (by
            show some (((if t + 1 ≤ t then _ else if t + 1 = t + 1 then _ else _ : Nat)) : Int) = _
            rw [if_neg (by omega), if_pos rfl])
          have hold := hv.2 (t + 1 - (j + 1)) (by omega)
          walk_at "go"
          refine w_ixL (sq h5) (at_idx (n := t + 1) (x := V.int ((pt42 wf (dp42 wf i) (t + 1) j : Nat) : Int)) (by rw [List.getElem?_map, hcur]; rfl) (by omega)) ?_
          walk_at "go"
          refine w_ixL (sq hs5) (at_idx (n := t + 1 - (j + 1)) (x := V.int ((dp42 wf i (t + 1 - (j + 1)) : Nat) : Int)) (by rw [List.getElem?_map, hold]; rfl) (by omega)) ?_
          walk_at "go"
          refine w_ixL (sq hl5) (at_idx (n := j + 1) (x := V.int ((wf (j + 1) : Nat) : Int)) (by rw [List.getElem?_map, hw]; rfl) (by omega)) ?_
          walk_at "go"
          refine w_setL h5 (set_idx (i := t + 1) (by rw [List.length_map]; omega) (by omega)) ?_
          walk_at "go"
          have em : (if ((dp42 wf i (t + 1 - (j + 1)) : Nat) : Int) + ((wf (j + 1) : Nat) : Int) > ((pt42 wf (dp42 wf i) (t + 1) j : Nat) : Int) then ((dp42 wf i (t + 1 - (j + 1)) : Nat) : Int) + ((wf (j + 1) : Nat) : Int) else ((pt42 wf (dp42 wf i) (t + 1) j : Nat) : Int)) = ((pt42 wf (dp42 wf i) (t + 1) (j + 1) : Nat) : Int) := by
            rw [pt42_succ]
            split <;> omega
          refine ⟨vs5.set (t + 1) ((pt42 wf (dp42 wf i) (t + 1) (j + 1) : Nat) : Int), _, rfl, by rw [rm_updS]; exact s5, ?_, hv5.set (by omega) (by
            show _ = (if t + 1 ≤ t then _ else if t + 1 = t + 1 then _ else _)
            rw [if_neg (by omega), if_pos rfl]) fun x hx0 _ => ?_⟩
          · rw [L2.upd_same, em, set_ints]
          · by_cases c : x ≤ t
            · rw [if_pos c, if_pos c]
            · rw [if_neg c, if_neg c, if_neg hx0, if_neg hx0]
        · rintro σ H5 ⟨vs5, w7, rfl, s5, h5, hv5⟩
          walk_at "go"
          refine ⟨vs5, _, _, rfl, s5, h5, hv5.congr fun x _ => ?_⟩
          by_cases c : x ≤ t
          · rw [if_pos c, if_pos (by omega)]
          · rw [if_neg c]
            by_cases e : x = t + 1
            · rw [if_pos e, if_pos (by omega), e]
              rfl
            · rw [if_neg e, if_neg (by omega)]
      · rintro σ H4 ⟨vs4, u6, u7, rfl, s4, h4, hv4⟩
        have hv4 := hv4.congr (g := dp42 wf (i + 1)) fun x hx0 => if_pos hx0
        have hs4 : H4 s = some (.lst (vs.map V.int)) := rm_le _ _ (s4 _ _ hs3)
        walk_at "go"
        refine w_eqLL (sq h4) (sq hs4) ?_
        walk_at "go"
        refine ite_d (fun he => ?_) (fun he => ?_)
        · have same := hv4.eq hv he
          walk_at "go"
          refine w_ixL (sq hs4) (at_idx (n := dg) (x := V.int ((dp42 wf i dg : Nat) : Int)) (by rw [List.getElem?_map, hv.2 dg (Nat.le_refl _)]; rfl) rfl) ?_
          walk_at "go"
          have := q H4 (S3.trans (s4.trans rm_le))
          rw [show n = i + (n - i) by omega, dp42_stop same (n - i) dg (Nat.le_refl _)] at this
          exact this
        · walk_at "go"
          exact ⟨L, vs4, _, _, _, _, rfl, S3.trans (s4.trans rm_le), h4, hv4⟩
    · rintro σ H2 ⟨s, vs, v4, v5, v6, v7, rfl, s2, hs, hv⟩
      walk_at "go"
      refine w_ixL (sq hs) (at_idx (n := dg) (x := V.int ((dp42 wf n dg : Nat) : Int)) (by rw [List.getElem?_map, hv.2 dg (Nat.le_refl _)]; rfl) rfl) ?_
      walk_at "go"
      exact q H2 s2
noncomputable abbrev s_ldue : Stmt := (top 27)
theorem sc_ldue : FnScope ["_law_p", "_law_k", "_law_degree", "_law_table", "_law_power", "_law_worth", "_law_many", "_law_upto"] ["_law_p", "_law_k", "_law_degree"] (defScope s_ldue) :=
  ⟨rfl, rfl, rfl, by decide +kernel, rfl, by decide +kernel, by decide +kernel⟩
theorem ok_ldue (F : Dn K mg "_law_due" s_ldue ["_law_p", "_law_k", "_law_degree"]) (T : Bt mg) (c_lraised : Cal P w K mg base 1 "_law_raised" spRaised []) (c_sums42 : Cal P w K mg base 1 "_law_sums" spSums42 []) : Cal P w K mg base 2 "_law_due" spDue42 [] := by
  refine F.cal sc_ldue (fun vs H Q E h => ?_) (fun f cdv A outer s H vs Q E hr h => ?_)
  · obtain ⟨p, k, dg, rfl, _⟩ := h
    rfl
  · obtain ⟨p, k, dg, rfl, pkp, hk1, hk, hd, q⟩ := h
    have hp1 := pkp.p1
    have hp2 := pkp.p2
    have hpb : ((p : Nat) : Int).natAbs < 2 ^ 10 := by rw [Int.natAbs_natCast]; omega
    have hsz : (100000 : Nat) < sizeLine := by decide
    refine ⟨_, (pss_cons (ps_set (i := 3) sc_ldue.nd rfl (Or.inl rfl) pe_dnewT)
      (pss_cons (ps_for PassesOwn.never rfl (pi_range2 (by rfl) T.range (pa_cons pe_int (pa_cons (pe_op op_add (pv 1) pe_int) pa_nil))) (pg_name (i := 4) sc_ldue.nd rfl (Or.inl rfl)) (pss_cons (ps_set (i := 5) sc_ldue.nd rfl (Or.inl rfl) (pe_lst (pa_cons pe_int pa_nil)))
      (pss_cons (ps_for PassesOwn.never rfl (pi_range2 (by rfl) T.range (pa_cons pe_int (pa_cons (pe_op op_add (pv 2) pe_int) pa_nil))) (pg_name (i := 6) sc_ldue.nd rfl (Or.inl rfl)) (pss_one (ps_if (pt_cmpR op_ge (pv 6) (pv 4) (nomark _)) (pss_one (ps_expr (pe_bm PySem.F.plainAttrs_list PySem.F.slot_list_append PySem.F.type_list_append mt_append (pv 5) (pa_cons (pe_c c_lraised hr (by decide) (by rfl) (pa_cons (pv 0) (pa_cons (pe_op op_sub (pv 4) pe_int) pa_nil))) pa_nil)))) (pss_one (ps_expr (pe_bm PySem.F.plainAttrs_list PySem.F.slot_list_append PySem.F.type_list_append mt_append (pv 5) (pa_cons (pe_op oMul (pe_c c_lraised hr (by decide) (by rfl) (pa_cons (pv 0) (pa_cons (pe_op op_sub (pv 6) pe_int) pa_nil))) (pe_dget (u66 hr) (pv 3) (pe_tup (pa_cons (pv 6) (pa_cons (pe_op op_sub (pv 4) (pv 6)) pa_nil))) (fun _ _ => rfl))) pa_nil)))))))
      (pss_one (ps_for PassesOwn.never rfl (pi_range1 (by rfl) T.range (pa_cons (pe_op op_add (pv 2) pe_int) pa_nil)) (pg_name (i := 7) sc_ldue.nd rfl (Or.inl rfl)) (pss_one (ps_asg (pe_c c_sums42 hr (by decide) (by rfl) (pa_cons (pv 5) (pa_cons (pv 7) (pa_cons (pe_callB (cMin2 rfl) (by rfl) T.min (by decide +kernel) (pa_cons (pe_callTy cInt1 (by rfl) T.int (by decide +kernel) (pa_cons (pv 0) pa_nil)) (pa_cons (pe_callTy cInt1 (by rfl) T.int (by decide +kernel) (pa_cons (pv 7) pa_nil)) pa_nil))) pa_nil)))) (pg_sub (pv 3) (pe_tup (pa_cons (pv 7) (pa_cons (pv 4) pa_nil))) (set_dict (u66 hr))))))))))
      (pss_one (ps_ret (pe_dget (u66 hr) (pv 3) (pe_tup (pa_cons (pv 2) (pa_cons (pv 1) pa_nil))) (fun _ _ => rfl)))))), ?_⟩
    walk_at "go"
    refine w_dnewT (al fun tb H0 n0 s0 h0 => ?_)
    walk_at "go"
    rw [show ((k : Int) + 1 - 1).toNat = k by omega]
    have nt : ∀ b o, H b = some o → b ≠ tb := fun b o hb e => by rw [e, n0] at hb; cases hb
    refine for_range (lo := 1) (n := k) (fun i σ H' => ∃ (v4 v5 v6 v7 : Option V) (ks : List ((Int × Int) × Int)), σ = [some (.int (p : Nat)), some (.int (k : Nat)), some (.int (dg : Nat)), some (.ref tb), v4, v5, v6, v7] ∧ Same H (rm tb H') ∧ H' tb = some (.dT (kvG V.int ks)) ∧ ks.length ≤ 21 * i ∧ ∀ m j, m ≤ dg → 1 ≤ j → j ≤ i → gOf ks ((m : Nat), (j : Nat)) = some ((B42 p m j : Nat) : Int)) ⟨_, _, _, _, [], rfl, fun b o hb => rm_of (nt b o hb) (s0 _ _ hb), h0, Nat.zero_le _, fun m j _ h1 h2 => absurd h1 (by omega)⟩ ?_ ?_
    · rintro i σ H1 hi ⟨v4, v5, v6, v7, ks, rfl, s1, h1, hl1, hg1⟩
      walk_at "go"
      refine al fun wl H2 n2 s2 h2 => ?_
      have nwt : wl ≠ tb := ne_of_none' h1 n2
      have s2' : Same (rm tb H1) (rm tb H2) := s2.rm
      have h2t := s2 _ _ h1
      walk_at "go"
      rw [show ((dg : Int) + 1 - 1).toNat = dg by omega]
      refine for_range (lo := 1) (n := dg) (fun j σ H' => ∃ (v6 v7 : Option V), σ = [some (.int (p : Nat)), some (.int (k : Nat)), some (.int (dg : Nat)), some (.ref tb), some (.int (1 + (i : Nat))), some (.ref wl), v6, v7] ∧ Same H (rm tb H') ∧ H' tb = some (.dT (kvG V.int ks)) ∧ H' wl = some (.lst (V.int 0 :: (List.range j).map fun x => V.int ((W42 p (i + 1) (x + 1) : Nat) : Int)))) ⟨_, _, rfl, s1.trans s2', h2t, h2⟩ ?_ ?_
      · rintro j σ H3 hj ⟨u6, u7, rfl, s3, h3t, h3w⟩
        have S3w : ∀ (H4 : Hp) (z : V), Same H3 H4 → Same H (rm tb (upd H4 wl (.lst ((V.int 0 :: (List.range j).map fun x => V.int ((W42 p (i + 1) (x + 1) : Nat) : Int)) ++ [z])))) → True := fun _ _ _ _ => trivial
        have nw : ∀ b o, H b = some o → b ≠ wl := fun b o hb e => by
          have := rm_le _ _ (s1 _ _ hb)
          rw [e, n2] at this
          cases this
        have fin : ∀ (H4 : Hp), Same H3 H4 → Same H (rm tb (upd H4 wl (.lst ((V.int 0 :: (List.range j).map fun x => V.int ((W42 p (i + 1) (x + 1) : Nat) : Int)) ++ [V.int ((W42 p (i + 1) (j + 1) : Nat) : Int)])))) := fun H4 s4 b o hb =>
          rm_of (nt b o hb) (by rw [upd_ne (nw b o hb)]; exact s4 _ _ (rm_le _ _ (s3 _ _ hb)))
        have el : V.int 0 :: (List.range (j + 1)).map (fun x => V.int ((W42 p (i + 1) (x + 1) : Nat) : Int)) = (V.int 0 :: (List.range j).map fun x => V.int ((W42 p (i + 1) (x + 1) : Nat) : Int)) ++ [V.int ((W42 p (i + 1) (j + 1) : Nat) : Int)] := by
          rw [List.range_succ, List.map_append]
          rfl
        walk_at "go"
        refine ite_d (fun hc => ?_) (fun hc => ?_)
        · walk_at "go"
          refine ⟨p, _, 10, rfl, by omega, by omega, hpb, by omega, ?_⟩
          have e : W42 p (i + 1) (j + 1) = p ^ i := by
            unfold W42
            rw [if_pos (by omega)]
            rfl
          rw [show (1 + (i : Int) - 1).toNat = i by omega, ← Int.natCast_pow, ← e]
          walk_at "go"
          refine w_append h3w (by rw [List.length_cons, List.length_map, List.length_range]; omega) ?_
          walk_at "go"
          exact ⟨_, _, rfl, fin H3 (Same.refl _), by rw [upd_ne nwt.symm]; exact h3t, by rw [L2.upd_same, el]⟩
        · walk_at "go"
          refine ⟨p, _, 10, rfl, by omega, by omega, hpb, by omega, ?_⟩
          have e : W42 p (i + 1) (j + 1) = p ^ j * B42 p (j + 1) (i - j) := by
            unfold W42
            rw [if_neg (by omega), Nat.add_sub_cancel, show i + 1 - (j + 1) = i - j by omega]
          rw [show (1 + (j : Int) - 1).toNat = j by omega]
          walk_at "go"
          refine w_dget ?_
          walk_at "go"
          refine al fun kt H4 n4 s4 h4 => ?_
          have hgo := hg1 (j + 1) (i - j) (by omega) (by omega) (by omega)
          refine ⟨tb, V.int ((B42 p (j + 1) (i - j) : Nat) : Int), rfl, ?_, ?_⟩
          · have := DGet.t (k := pk (((j + 1 : Nat) : Int), ((i - j : Nat) : Int))) (s4 _ _ h3t) (b := kt) (by
              rw [pk_val, h4, show ((j + 1 : Nat) : Int) = 1 + (j : Int) by omega, show ((i - j : Nat) : Int) = 1 + (i : Int) - (1 + (j : Int)) by omega])
            rw [kvG_val, hgo] at this
            exact this
          have b1 : ((p : Int) ^ j).natAbs < 2 ^ 400 := by rw [← Int.natCast_pow]; exact pow400 pkp (by omega)
          have b2 : ((B42 p (j + 1) (i - j) : Nat) : Int).natAbs < 2 ^ 400 := by rw [Int.natAbs_natCast]; exact B42_lt pkp (by omega)
          have hcx : CMx ((p : Int) ^ j) ((B42 p (j + 1) (i - j) : Nat) : Int) := mx_w b1 b2 (by decide)
          walk_at "go"
          rw [← Int.natCast_pow, ← Int.natCast_mul, ← e]
          refine w_append (s4 _ _ h3w) (by rw [List.length_cons, List.length_map, List.length_range]; omega) ?_
          walk_at "go"
          exact ⟨_, _, rfl, fin H4 s4, by rw [upd_ne nwt.symm]; exact s4 _ _ h3t, by rw [L2.upd_same, el]⟩
      · rintro σ H3 ⟨u6, u7, rfl, s3, h3t, h3w⟩
        have WLw : ∀ (G : Hp) (m : Nat), m ≤ dg → G wl = H3 wl → WL G wl (W42 p (i + 1)) m := fun G m hm eg => by
          refine ⟨0 :: (List.range dg).map fun j => ((W42 p (i + 1) (j + 1) : Nat) : Int), by rw [eg, h3w, List.map_cons, List.map_map]; rfl, by rw [List.length_cons, List.length_map, List.length_range]; omega, fun x i1 i2 => ?_⟩
          obtain ⟨x, rfl⟩ : ∃ j, x = j + 1 := ⟨x - 1, by omega⟩
          rw [List.getElem?_cons_succ, List.getElem?_map, List.getElem?_range (by omega)]
          rfl
        walk_at "go"
        rw [show ((dg : Int) + 1).toNat = dg + 1 by omega]
        refine for_range (lo := 0) (n := dg + 1) (fun u σ H' => ∃ (v6 v7 : Option V) (ls : List ((Int × Int) × Int)), σ = [some (.int (p : Nat)), some (.int (k : Nat)), some (.int (dg : Nat)), some (.ref tb), some (.int (1 + (i : Nat))), some (.ref wl), v6, v7] ∧ Same H (rm tb H') ∧ H' wl = H3 wl ∧ H' tb = some (.dT (kvG V.int ls)) ∧ ls.length ≤ 21 * i + u ∧ (∀ m j, m ≤ dg → 1 ≤ j → j ≤ i → gOf ls ((m : Nat), (j : Nat)) = some ((B42 p m j : Nat) : Int)) ∧ ∀ m, m < u → gOf ls ((m : Nat), ((i + 1 : Nat) : Int)) = some ((B42 p m (i + 1) : Nat) : Int)) ⟨_, _, ks, rfl, s3, rfl, h3t, hl1, hg1, fun m hm => absurd hm (by omega)⟩ ?_ ?_
        · rintro u σ H4 hu ⟨w6, w7, ls, rfl, s4, h4w, h4t, hl4, hg4, hn4⟩
          walk_at "go"
          have em : ((if (0 + (u : Int)) < (p : Int) then (0 + (u : Int)) else (p : Int)) : Int) = ((min p u : Nat) : Int) := by
            split <;> omega
          rw [em, Int.zero_add]
          refine ⟨wl, W42 p (i + 1), u, min p u, rfl, WLw H4 u (by omega) h4w, by omega, by omega, fun H5 s5 => ?_⟩
          rw [← B42_eq (by omega)]
          walk_at "go"
          refine al fun kt H6 n6 s6 h6 => ?_
          walk_at "go"
          obtain ⟨ms, hms, hml, hm1, hm2⟩ := kvI_put (ks := ls) (p := (((u : Nat) : Int), ((i + 1 : Nat) : Int))) (v := ((B42 p u (i + 1) : Nat) : Int))
          refine w_setDq ⟨tb, _, rfl, DPut.t (k := pk (((u : Nat) : Int), ((i + 1 : Nat) : Int))) (s6 _ _ (s5 _ _ h4t)) (by rw [pk_val, h6, show ((i + 1 : Nat) : Int) = 1 + (i : Int) by omega]) (by unfold kvG; rw [List.length_map]; omega), ?_⟩
          rw [hms]
          walk_at "go"
          refine ⟨_, _, ms, rfl, by rw [rm_updS]; exact s4.trans (s5.trans s6).rm, ?_, by rw [L2.upd_same], by omega, fun m j h1 h2 h3 => ?_, fun m hm => ?_⟩
          · rw [upd_ne nwt, ← h4w]
            obtain ⟨xs, hx, _⟩ := WLw H4 0 (by omega) h4w
            rw [hx]
            exact s6 _ _ (s5 _ _ hx)
          · rw [hm2 _ (fun e => by injection e with _ e2; omega)]
            exact hg4 m j h1 h2 h3
          · by_cases c : m = u
            · rw [c]; exact hm1
            · rw [hm2 _ (fun e => by injection e with e1 _; omega)]
              exact hn4 m (by omega)
        · rintro σ H4 ⟨w6, w7, ls, rfl, s4, h4w, h4t, hl4, hg4, hn4⟩
          walk_at "go"
          refine ⟨_, _, _, _, ls, rfl, s4, h4t, by omega, fun m j h1 h2 h3 => ?_⟩
          by_cases c : j = i + 1
          · rw [c]; exact hn4 m (by omega)
          · exact hg4 m j h1 h2 (by omega)
    · rintro σ H1 ⟨v4, v5, v6, v7, ks, rfl, s1, h1, hl1, hg1⟩
      walk_at "go"
      refine w_dget ?_
      walk_at "go"
      refine al fun kt H4 n4 s4 h4 => ?_
      refine ⟨tb, V.int ((B42 p dg k : Nat) : Int), rfl, ?_, ?_⟩
      · have := DGet.t (k := pk (((dg : Nat) : Int), ((k : Nat) : Int))) (s4 _ _ h1) (b := kt) (by rw [pk_val]; exact h4)
        rw [kvG_val, hg1 dg k (Nat.le_refl _) hk1 (Nat.le_refl _)] at this
        exact this
      · walk_at "go"
        exact q H4 ((s1.trans rm_le).trans s4)
noncomputable abbrev s_right : Stmt := (top 29)
theorem sc_right : FnScope ["_law_purse_here", "_law_small", "_law_p", "_law_k", "_law_most", "_law_degree", "_law_great", "_law_pairs", "_law_due_here", "_law_odd", "_law_wrong", "_law_told"] ["_law_purse_here"] (defScope s_right) :=
  ⟨rfl, rfl, rfl, by decide +kernel, rfl, by decide +kernel, by decide +kernel⟩
theorem ok_right {c : CA} {Cl Cq : Addr} (F : Dn K mg "_law_right" s_right ["_law_purse_here"]) (T : Bt mg) (X : Kx K mg c) (nq : NoQ42 K c) (c_draw : Cal P w K mg base 2 "_law_draw" spDraw []) (c_modinit : Mak P w K mg base 3 "Modulus" c.md (spModInit c) [])
    (c_worst : CalX P w K mg base 150 "worst_count" (spWorstX K c Cl Cq) []) (c_worstK : CalXK P w K mg base 150 "worst_count" ["modulus", "length"] (spWorstX K c Cl Cq) (fun vs zs => vs ++ zs.reverse)) (c_lall : Cal P w K mg base 2 "_law_all" spAll42 []) (c_ldue : Cal P w K mg base 2 "_law_due" spDue42 []) (c_caught : Cal P w K mg base 151 "_law_caught" (spCaught42 K c) []) :
    CalG P w K mg base 152 "_law_right" spRight := by
  refine F.calG sc_right (fun vs H Q E h => ?_) (fun f cdv A outer s H vs Q E hr hA h => ?_)
  · obtain ⟨a, n, rfl, _⟩ := h
    rfl
  · obtain ⟨a, cc, rfl, hc, p, k⟩ := h
    refine ⟨_, (pss_cons (ps_set (i := 1) sc_right.nd rfl (Or.inl rfl) (pe_lstB (pa_cons (pe_tup (pa_cons pe_int (pa_cons pe_int (pa_cons pe_int pa_nil)))) (pa_cons (pe_tup (pa_cons pe_int (pa_cons pe_int (pa_cons pe_int pa_nil)))) (pa_cons (pe_tup (pa_cons pe_int (pa_cons pe_int (pa_cons pe_int pa_nil)))) (pa_cons (pe_tup (pa_cons pe_int (pa_cons pe_int (pa_cons pe_int pa_nil)))) (pa_cons (pe_tup (pa_cons pe_int (pa_cons pe_int (pa_cons pe_int pa_nil)))) (pa_cons (pe_tup (pa_cons pe_int (pa_cons pe_int (pa_cons pe_int pa_nil)))) (pa_cons (pe_tup (pa_cons pe_int (pa_cons pe_int (pa_cons pe_int pa_nil)))) (pa_cons (pe_tup (pa_cons pe_int (pa_cons pe_int (pa_cons pe_int pa_nil)))) (pa_cons (pe_tup (pa_cons pe_int (pa_cons pe_int (pa_cons pe_int pa_nil)))) pa_nil)))))))))))
      (pss_cons (ps_asg (pe_ix ix_list (pe_op op_catB (pv 1) (pe_lstB (pa_cons (pe_tup (pa_cons pe_int (pa_cons pe_int (pa_cons pe_int pa_nil)))) pa_nil))) (pe_c c_draw hr (by decide) (by rfl) (pa_cons (pv 0) (pa_cons pe_int pa_nil))) (fun _ _ => rfl)) (pg_tup rfl (pgs_cons (pg_name (i := 2) sc_right.nd rfl (Or.inl rfl)) (pgs_cons (pg_name (i := 3) sc_right.nd rfl (Or.inl rfl)) (pgs_cons (pg_name (i := 4) sc_right.nd rfl (Or.inl rfl)) pgs_nil)))))
      (pss_cons (ps_set (i := 5) sc_right.nd rfl (Or.inl rfl) (pe_c c_draw hr (by decide) (by rfl) (pa_cons (pv 0) (pa_cons (pe_op op_add (pv 4) pe_int) pa_nil))))
      (pss_cons (ps_if (pt_cmpR op_ne (pe_cL c_worst hr (by decide) (by rfl) (pa_cons (pe_op op_add (pv 5) pe_int) (pa_cons (pe_mk c_modinit hr (by decide) (by rfl) (pa_cons (pe_lstB (pa_cons (pe_tup (pa_cons (pv 2) (pa_cons (pv 3) pa_nil))) pa_nil)) pa_nil)) pa_nil))) (pe_c c_lall hr (by decide) (by rfl) (pa_cons (pv 2) (pa_cons (pv 3) (pa_cons (pv 5) pa_nil)))) (nomark _)) (pss_one (ps_ret pe_bl)) pss_nil)
      (pss_cons (ps_set (i := 6) sc_right.nd rfl (Or.inl rfl) (pe_lstB (pa_cons (pe_lstB (pa_cons (pe_tup (pa_cons pe_int (pa_cons pe_int pa_nil))) pa_nil)) (pa_cons (pe_lstB (pa_cons (pe_tup (pa_cons pe_int (pa_cons pe_int pa_nil))) pa_nil)) (pa_cons (pe_lstB (pa_cons (pe_tup (pa_cons pe_int (pa_cons pe_int pa_nil))) pa_nil)) (pa_cons (pe_lstB (pa_cons (pe_tup (pa_cons pe_int (pa_cons pe_int pa_nil))) (pa_cons (pe_tup (pa_cons pe_int (pa_cons pe_int pa_nil))) pa_nil))) (pa_cons (pe_lstB (pa_cons (pe_tup (pa_cons pe_int (pa_cons pe_int pa_nil))) (pa_cons (pe_tup (pa_cons pe_int (pa_cons pe_int pa_nil))) (pa_cons (pe_tup (pa_cons pe_int (pa_cons pe_int pa_nil))) pa_nil)))) (pa_cons (pe_lstB (pa_cons (pe_tup (pa_cons pe_int (pa_cons pe_int pa_nil))) (pa_cons (pe_tup (pa_cons pe_int (pa_cons pe_int pa_nil))) pa_nil))) (pa_cons (pe_lstB pa_nil) pa_nil)))))))))
      (pss_cons (ps_set (i := 7) sc_right.nd rfl (Or.inl rfl) (pe_ix ix_list (pe_op op_catB (pv 6) (pe_lstB (pa_cons (pe_lstB (pa_cons (pe_tup (pa_cons pe_int (pa_cons pe_int pa_nil))) pa_nil)) pa_nil))) (pe_c c_draw hr (by decide) (by rfl) (pa_cons (pv 0) (pa_cons pe_int pa_nil))) (fun _ _ => rfl)))
      (pss_cons (ps_set (i := 5) sc_right.nd rfl (Or.inl rfl) (pe_c c_draw hr (by decide) (by rfl) (pa_cons (pv 0) (pa_cons pe_int pa_nil))))
      (pss_cons (ps_set (i := 8) sc_right.nd rfl (Or.inl rfl) pe_int)
      (pss_cons (ps_for PassesOwn.never rfl (pi_list (pv 7)) (pg_tup rfl (pgs_cons (pg_name (i := 2) sc_right.nd rfl (Or.inl rfl)) (pgs_cons (pg_name (i := 3) sc_right.nd rfl (Or.inl rfl)) pgs_nil))) (pss_one (ps_set (i := 8) sc_right.nd rfl (Or.inl rfl) (pe_op oMul (pv 8) (pe_c c_ldue hr (by decide) (by rfl) (pa_cons (pv 2) (pa_cons (pv 3) (pa_cons (pv 5) pa_nil))))))))
      (pss_cons (ps_if (PW.pt (pw_or (pt_cmpR op_ne (pe_cL c_worst hr (by decide) (by rfl) (pa_cons (pe_op op_add (pv 5) pe_int) (pa_cons (pe_mk c_modinit hr (by decide) (by rfl) (pa_cons (pv 7) pa_nil)) pa_nil))) (pv 8) (nomark _)) (pw_or1 (pt_cmpR op_ne (pe_cLK c_worstK hr (by decide) (by rfl) (pk_cons (pe_mk c_modinit hr (by decide) (by rfl) (pa_cons (pv 7) pa_nil)) (pk_cons (pe_op op_add (pv 5) pe_int) pk_nil))) (pv 8) (nomark _))))) (pss_one (ps_ret pe_bl)) pss_nil)
      (pss_cons (ps_set (i := 9) sc_right.nd rfl (Or.inl rfl) (pe_ix ix_list (pe_lstB (pa_cons pe_int (pa_cons (pe_un un_neg pe_int) (pa_cons pe_non (pa_cons pe_bl (pa_cons pe_str (pa_cons (pe_tup (pa_cons pe_int pa_nil)) (pa_cons pe_bl pa_nil)))))))) (pe_c c_draw hr (by decide) (by rfl) (pa_cons (pv 0) (pa_cons pe_int pa_nil))) (fun _ _ => rfl)))
      (pss_cons (ps_set (i := 10) sc_right.nd rfl (Or.inl rfl) (pe_ix ix_list (pe_lstB (pa_cons pe_non (pa_cons pe_int (pa_cons (pe_lstB (pa_cons (pe_tup (pa_cons pe_int (pa_cons pe_int pa_nil))) pa_nil)) pa_nil)))) (pe_c c_draw hr (by decide) (by rfl) (pa_cons (pv 0) (pa_cons pe_int pa_nil))) (fun _ _ => rfl)))
      (pss_cons (ps_set (i := 11) sc_right.nd rfl (Or.inl rfl) (pe_lstB (pa_cons (pe_c c_caught hr (by decide) (by rfl) (pa_cons (pv 9) (pa_cons (pv 10) pa_nil))) (pa_cons (pe_c c_caught hr (by decide) (by rfl) (pa_cons (pv 9) (pa_cons (pe_mk c_modinit hr (by decide) (by rfl) (pa_cons (pv 7) pa_nil)) pa_nil))) (pa_cons (pe_c c_caught hr (by decide) (by rfl) (pa_cons pe_int (pa_cons (pv 10) pa_nil))) pa_nil)))))
      (pss_one (ps_ret (pe_cmpR op_eq (pe_callTy (cStrQ hA hr.units) (by rfl) T.str (by decide +kernel) (pa_cons (pv 11) pa_nil)) (pe_callTy (cStrQ hA hr.units) (by rfl) T.str (by decide +kernel) (pa_cons (pe_lstB (pa_cons (pe_lstB (pa_cons pe_str (pa_cons (pv 9) pa_nil))) (pa_cons (pe_lstB (pa_cons pe_str (pa_cons (pv 9) pa_nil))) (pa_cons (pe_lstB (pa_cons pe_str (pa_cons pe_non pa_nil))) pa_nil)))) pa_nil)) (nomark _))))))))))))))))), ?_⟩
    walk_at "go"
    refine al fun t1 HA1 _ sa1 ht1 => ?_
    walk_at "go"
    refine al fun t2 HA2 _ sa2 ht2 => ?_
    walk_at "go"
    refine al fun t3 HA3 _ sa3 ht3 => ?_
    walk_at "go"
    refine al fun t4 HA4 _ sa4 ht4 => ?_
    walk_at "go"
    refine al fun t5 HA5 _ sa5 ht5 => ?_
    walk_at "go"
    refine al fun t6 HA6 _ sa6 ht6 => ?_
    walk_at "go"
    refine al fun t7 HA7 _ sa7 ht7 => ?_
    walk_at "go"
    refine al fun t8 HA8 _ sa8 ht8 => ?_
    walk_at "go"
    refine al fun t9 HA9 _ sa9 ht9 => ?_
    walk_at "go"
    refine alB fun so HA10 _ _ sa10 hso => ?_
    walk_at "go"
    refine al fun t10 HA11 _ sa11 ht10 => ?_
    walk_at "go"
    refine alB fun sp HA12 _ _ sa12 hsp => ?_
    walk_at "go"
    refine w_catB (xs := [V.ref t1, V.ref t2, V.ref t3, V.ref t4, V.ref t5, V.ref t6, V.ref t7, V.ref t8, V.ref t9]) (ys := [V.ref t10]) (hpL hso (by walk_at "same")) hsp (Nat.le_of_lt (sz (by simp only [List.length_cons, List.length_nil]; omega))) (alB fun so0 HC _ _ sC hsc => ?_)
    have hPT : Paired (fun (e : Nat × Nat × Nat) t => HA12 t = some (.tup [.int (e.1 : Nat), .int (e.2.1 : Nat), .int (e.2.2 : Nat)])) small42 [t1, t2, t3, t4, t5, t6, t7, t8, t9, t10] := (.cons (hpL ht1 (by walk_at "same")) (.cons (hpL ht2 (by walk_at "same")) (.cons (hpL ht3 (by walk_at "same")) (.cons (hpL ht4 (by walk_at "same")) (.cons (hpL ht5 (by walk_at "same")) (.cons (hpL ht6 (by walk_at "same")) (.cons (hpL ht7 (by walk_at "same")) (.cons (hpL ht8 (by walk_at "same")) (.cons (hpL ht9 (by walk_at "same")) (.cons (hpL ht10 (by walk_at "same")) .nil))))))))))
    have sA : Same H HA12 := by walk_at "same"
    have uC : Purse HC a cc := (p.same sA).same sC
    have hPT := paired_imp (fun _ _ z => sC _ _ z) hPT
    have sA := sA.trans sC
    clear ht1 ht2 ht3 ht4 ht5 ht6 ht7 ht8 ht9 hso ht10 hsp sa1 sa2 sa3 sa4 sa5 sa6 sa7 sa8 sa9 sa10 sa11 sa12
    walk_at "go"
    refine use_drawR uC (by decide) (by decide) (by omega) fun r HB r0 r1 sB uB => ?_
    obtain ⟨r, rfl⟩ := Int.eq_ofNat_of_zero_le r0
    have hr10 : r < 10 := by omega
    obtain ⟨e, he⟩ : ∃ e, small42[r]? = some e := ⟨_, List.getElem?_eq_getElem (show r < small42.length from hr10)⟩
    obtain ⟨tp, htp, hpe⟩ := paired_getL hPT he
    have hsc' := rm_of (uC.fresh' (rs := [t1, t2, t3, t4, t5, t6, t7, t8, t9, t10]) hsc (by simp)) hsc
    refine w_ixL (xs := ([t1, t2, t3, t4, t5, t6, t7, t8, t9, t10] : List Addr).map V.ref) (sq (rm_le _ _ (sB _ _ hsc'))) (atI_map (x := tp) (by omega) (by rw [Int.toNat_natCast]; exact htp)) ?_
    have hpe : HB tp = some (.tup [.int (e.1 : Nat), .int (e.2.1 : Nat), .int (e.2.2 : Nat)]) := rm_le _ _ (sB _ _ (rm_of (fun z => by
      obtain ⟨x1, y1, z1, e1, _⟩ := uC
      rw [z, e1] at hpe
      cases hpe) hpe))
    have hmem := List.mem_of_getElem? he
    obtain ⟨p1, k1, m1⟩ := e
    obtain ⟨pok, hpr, hp7, hk1, hk4, hm5, hpow, hs30⟩ := small_ok _ hmem
    have hbest := all_best _ hmem
    have S1 : Same (rm a H) (rm a HB) := sA.rm.trans sB
    clear hPT hsc hsc' sA sB uC htp he hmem
    have hp1 : 1 < p1 := pok.p1
    have hp2 : p1 < 1024 := pok.p2
    have hk1 : 1 ≤ k1 := hk1
    have hk4 : k1 ≤ 4 := hk4
    have hp7 : p1 ≤ 7 := hp7
    have hm5 : m1 ≤ 5 := hm5
    have hpow : (p1 ^ k1) ^ m1 ≤ 1000 := hpow
    have hs30 : p1 ^ k1 ≤ 30 := hs30
    have hpr : Pr (p1 : Int) := hpr
    have pok : Pok p1 := pok
    refine w_gtup (sqt hpe) rfl ?_
    walk_at "go"
    refine use_drawR uB (by omega) (by omega) (by omega) fun d H1 d0 d1 s1 u1 => ?_
    obtain ⟨d, rfl⟩ := Int.eq_ofNat_of_zero_le d0
    have hdm : d ≤ m1 := by
      have d1 : (d : Int) < (m1 : Int) + 1 := d1
      omega
    have hpow : (p1 ^ k1) ^ d ≤ 1000 := Nat.le_trans (Nat.pow_le_pow_right (Nat.pow_pos (by omega)) hdm) hpow
    have S2 := S1.trans s1
    clear hpe s1 S1 uB
    walk_at "go"
    refine alR u1 fun t1 H2 s2 u2 h2 _ => ?_
    walk_at "go"
    refine alRB u2 fun l1 H3 _ s3 u3 h3 _ => ?_
    walk_at "go"
    refine use_modR u3 (ps := [((p1 : Int), (k1 : Int))]) ⟨[t1], rm_le _ _ h3, .cons (rm_le _ _ (s3 _ _ h2)) .nil⟩ ⟨by omega, by omega, hpr, trivial⟩ (smallL (fun q hq => by
      rw [List.mem_singleton.mp hq]
      show 0 < (p1 : Int) ∧ (p1 : Int) < 1024 ∧ 0 < (k1 : Int) ∧ (k1 : Int) ≤ 100
      omega) (by show 1 ≤ 64; decide)) fun mm H4 s4 u4 hmm => ?_
    walk_at "go"
    refine use_worst (by omega) (hmm.same rm_le) (lim_one pok hk1 (by omega)) fun H5 s5 => ?_
    have u5 := u4.same s5
    have S5 := S2.trans (s2.trans (s3.trans (s4.trans s5.rm)))
    clear S2 s2 s3 s4 s5 h2 h3 hmm u1 u2 u3 u4
    walk_at "go"
    refine ⟨p1, k1, d, rfl, by omega, hp7, hk4, by omega, hpow, hs30, fun H6 s6 => ?_⟩
    have u6 := u5.same s6
    have S6 := S5.trans s6.rm
    rw [wc42_one, show B42 p1 d k1 = all42 (p1 ^ k1) d from hbest d (List.mem_range.mpr (by omega))]
    clear S5 u5 s6 hbest
    walk_at "go"
    rw [decide_eq_true (Eq.refl _)]
    refine iteF ?_
    walk_at "go"
    refine alR u6 fun r0_0 G1 sg1 ug1 hr0_0 _ => ?_
    walk_at "go"
    refine alRB ug1 fun l0 G2 _ sg2 ug2 hl0 _ => ?_
    walk_at "go"
    refine alR ug2 fun r1_0 G3 sg3 ug3 hr1_0 _ => ?_
    walk_at "go"
    refine alRB ug3 fun l1 G4 _ sg4 ug4 hl1 _ => ?_
    walk_at "go"
    refine alR ug4 fun r2_0 G5 sg5 ug5 hr2_0 _ => ?_
    walk_at "go"
    refine alRB ug5 fun l2 G6 _ sg6 ug6 hl2 _ => ?_
    walk_at "go"
    refine alR ug6 fun r3_0 G7 sg7 ug7 hr3_0 _ => ?_
    walk_at "go"
    refine alR ug7 fun r3_1 G8 sg8 ug8 hr3_1 _ => ?_
    walk_at "go"
    refine alRB ug8 fun l3 G9 _ sg9 ug9 hl3 _ => ?_
    walk_at "go"
    refine alR ug9 fun r4_0 G10 sg10 ug10 hr4_0 _ => ?_
    walk_at "go"
    refine alR ug10 fun r4_1 G11 sg11 ug11 hr4_1 _ => ?_
    walk_at "go"
    refine alR ug11 fun r4_2 G12 sg12 ug12 hr4_2 _ => ?_
    walk_at "go"
    refine alRB ug12 fun l4 G13 _ sg13 ug13 hl4 _ => ?_
    walk_at "go"
    refine alR ug13 fun r5_0 G14 sg14 ug14 hr5_0 _ => ?_
    walk_at "go"
    refine alR ug14 fun r5_1 G15 sg15 ug15 hr5_1 _ => ?_
    walk_at "go"
    refine alRB ug15 fun l5 G16 _ sg16 ug16 hl5 _ => ?_
    walk_at "go"
    refine alRB ug16 fun l6 G17 _ sg17 ug17 hl6 _ => ?_
    walk_at "go"
    refine alRB ug17 fun gr G18 _ sg18 ug18 hgr _ => ?_
    walk_at "go"
    refine alR ug18 fun r7_0 G19 sg19 ug19 hr7_0 _ => ?_
    walk_at "go"
    refine alRB ug19 fun l7 G20 _ sg20 ug20 hl7 _ => ?_
    walk_at "go"
    refine alRB ug20 fun sp G21 _ sg21 ug21 hsp _ => ?_
    walk_at "go"
    refine w_catB (xs := [V.ref l0, V.ref l1, V.ref l2, V.ref l3, V.ref l4, V.ref l5, V.ref l6]) (ys := [V.ref l7]) (rm_le _ _ (hpL hgr (by walk_at "same"))) (rm_le _ _ hsp) (Nat.le_of_lt (sz (by simp only [List.length_cons, List.length_nil]; omega))) (alRB ug21 fun cat H1 _ s1 u1 hcat _ => ?_)
    have hPT : Paired (fun ps l => PrL (rm a G21) l ps) TB42 [l0, l1, l2, l3, l4, l5, l6, l7] := (.cons ⟨[r0_0], hpL hl0 (by walk_at "same"), (.cons (hpL hr0_0 (by walk_at "same")) .nil)⟩ (.cons ⟨[r1_0], hpL hl1 (by walk_at "same"), (.cons (hpL hr1_0 (by walk_at "same")) .nil)⟩ (.cons ⟨[r2_0], hpL hl2 (by walk_at "same"), (.cons (hpL hr2_0 (by walk_at "same")) .nil)⟩ (.cons ⟨[r3_0, r3_1], hpL hl3 (by walk_at "same"), (.cons (hpL hr3_0 (by walk_at "same")) (.cons (hpL hr3_1 (by walk_at "same")) .nil))⟩ (.cons ⟨[r4_0, r4_1, r4_2], hpL hl4 (by walk_at "same"), (.cons (hpL hr4_0 (by walk_at "same")) (.cons (hpL hr4_1 (by walk_at "same")) (.cons (hpL hr4_2 (by walk_at "same")) .nil)))⟩ (.cons ⟨[r5_0, r5_1], hpL hl5 (by walk_at "same"), (.cons (hpL hr5_0 (by walk_at "same")) (.cons (hpL hr5_1 (by walk_at "same")) .nil))⟩ (.cons ⟨[], hpL hl6 (by walk_at "same"), .nil⟩ (.cons ⟨[r7_0], hpL hl7 (by walk_at "same"), (.cons (hpL hr7_0 (by walk_at "same")) .nil)⟩ .nil))))))))
    have SG : Same (rm a H6) (rm a G21) := by
      clear S6
      walk_at "same"
    have S1 := S6.trans (SG.trans s1)
    have hPT := paired_imp (fun _ _ z => PrL.same z s1) hPT
    clear hr0_0 hl0 hr1_0 hl1 hr2_0 hl2 hr3_0 hr3_1 hl3 hr4_0 hr4_1 hr4_2 hl4 hr5_0 hr5_1 hl5 hl6 hgr hr7_0 hl7 hsp sg1 ug1 sg2 ug2 sg3 ug3 sg4 ug4 sg5 ug5 sg6 ug6 sg7 ug7 sg8 ug8 sg9 ug9 sg10 ug10 sg11 ug11 sg12 ug12 sg13 ug13 sg14 ug14 sg15 ug15 sg16 ug16 sg17 ug17 sg18 ug18 sg19 ug19 sg20 ug20 sg21 ug21 SG s1 u6
    walk_at "go"
    refine use_drawR u1 (by decide) (by decide) (by omega) fun r H2 r0 r1 s2 u2 => ?_
    obtain ⟨r, rfl⟩ := Int.eq_ofNat_of_zero_le r0
    have hr8 : r < 8 := by omega
    obtain ⟨ps, hps⟩ : ∃ ps, TB42[r]? = some ps := ⟨_, List.getElem?_eq_getElem (show r < TB42.length from hr8)⟩
    obtain ⟨lp, hlp, hpl⟩ := paired_getL hPT hps
    refine w_ixL (xs := ([l0, l1, l2, l3, l4, l5, l6, l7] : List Addr).map V.ref) (sq (rm_le _ _ (s2 _ _ hcat))) (atI_map (x := lp) (by omega) (by rw [Int.toNat_natCast]; exact hlp)) ?_
    have hpl : PrL (rm a H2) lp ps := hpl.same s2
    obtain ⟨ha, hs, hlim⟩ := tb42_ok ps (List.mem_of_getElem? hps)
    have S2 := S1.trans s2
    clear hPT hcat s2 hps hlp S1 S6 u1
    walk_at "go"
    refine use_drawR u2 (by decide) (by decide) (by omega) fun dg H3 d0' d1' s3 u3 => ?_
    obtain ⟨dg, rfl⟩ := Int.eq_ofNat_of_zero_le d0'
    have hdg : dg ≤ 20 := by omega
    have hpl3 : PrL (rm a H3) lp ps := hpl.same s3
    have S3 := S2.trans s3
    clear s3 S2 hpl u2
    obtain ⟨tsl, hlp1, hlp2⟩ := id hpl3
    walk_at "go"
    refine for_list (K := K) (a := lp) (xs := tsl.map V.ref) (fun i σ H' => ∃ (v2 v3 : Option V), σ = [some (.ref a), some (.ref so), v2, v3, some (.int (m1 : Nat)), some (.int (dg : Nat)), some (.ref gr), some (.ref lp), some (.int (wc42 (ps.take i) dg : Nat)), none, none, none] ∧ Same H3 H') ⟨_, _, rfl, Same.refl _⟩ (fun i σ H' _ z => by obtain ⟨_, _, _, z⟩ := z; exact sq (z _ _ (rm_le _ _ hlp1))) ?_ ?_
    · rintro i y σ H4 hi ⟨v2, v3, rfl, s4⟩
      obtain ⟨t, ht, rfl⟩ := get_map hi
      obtain ⟨pq, hpq, htp⟩ := paired_get hlp2 ht
      have htp : H4 t = some (.tup [.int pq.1, .int pq.2]) := s4 _ _ (rm_le _ _ htp)
      obtain ⟨pkq, e1, e2, k1', k2'⟩ := hlim.pok (List.mem_of_getElem? hpq)
      refine w_gtup (sqt htp) rfl ?_
      walk_at "go"
      refine ⟨pq.1.toNat, pq.2.toNat, dg, i3 e1 e2 rfl, pkq, k1', k2', hdg, fun H5 s5 => ?_⟩
      have b1 : ((wc42 (ps.take i) dg : Nat) : Int).natAbs < 2 ^ 1300 := by rw [Int.natAbs_natCast]; exact wc42_lt hlim
      have b2 : ((B42 pq.1.toNat dg pq.2.toNat : Nat) : Int).natAbs < 2 ^ 400 := by rw [Int.natAbs_natCast]; exact B42_lt pkq k2'
      have hcx : CMx ((wc42 (ps.take i) dg : Nat) : Int) ((B42 pq.1.toNat dg pq.2.toNat : Nat) : Int) := mx_w b1 b2 (by decide)
      walk_at "go"
      exact ⟨_, _, by rw [wc42_take hpq, Int.natCast_mul], s4.trans s5⟩
    rintro σ H4 ⟨v2, v3, rfl, s4⟩
    rw [List.length_map, ← hlp2.length, List.take_length]
    have u4 := u3.same s4
    have hpl4 : PrL (rm a H4) lp ps := hpl3.same s4.rm
    have S4 := S3.trans s4.rm
    clear S3 s4 hpl3 hlp1 hlp2 u3
    walk_at "go"
    refine use_modR u4 (hpl4.same rm_le) ha hs fun m2 H5 s5 u5 hm5' => ?_
    walk_at "go"
    refine use_worst hdg (hm5'.same rm_le) hlim fun H6' s6 => ?_
    have u6' := u5.same s6
    have hpl6 : PrL (rm a H6') lp ps := (hpl4.same s5).same s6.rm
    have S6' := S4.trans (s5.trans s6.rm)
    clear S4 s5 s6 hpl4 hm5' u5 u4
    walk_at "go"
    rw [decide_eq_true (Eq.refl _)]
    refine iteF ?_
    walk_at "go"
    refine use_modR u6' (hpl6.same rm_le) ha hs fun m3 H7 s7 u7 hm7 => ?_
    walk_at "go"
    refine ⟨rfl, rfl, use_worst hdg (hm7.same rm_le) hlim fun H8 s8 => ?_⟩
    have u8 := u7.same s8
    have hpl8 : PrL (rm a H8) lp ps := (hpl6.same s7).same s8.rm
    have S8 := S6'.trans (s7.trans s8.rm)
    clear S6' s7 s8 hpl6 hm7 u6' u7
    walk_at "go"
    rw [decide_eq_true (Eq.refl _)]
    refine iteF ?_
    walk_at "go"
    refine alR u8 fun t2 H9 s9 u9 h9 _ => ?_
    walk_at "go"
    refine alRB u9 fun lo HA _ sA uA hA1 _ => ?_
    walk_at "go"
    refine use_drawR uA (by decide) (by decide) (by omega) fun j HB j0 j1 sB uB => ?_
    have k9 := hpL h9 (show Same _ (rm a HB) by
      clear S8
      walk_at "same")
    obtain ⟨o, d, hat, hod, hdq, hd1, hd2, hd3⟩ : ∃ (o : V) (d : PyData), atI [V.int 0, .int (-1), .non, .bl true, .str "3", .ref t2, .bl false] j = some o ∧ BadL K (rm a HB) o ∧ Dq (rm a HB) o d ∧ PyData.showable (dT42 d) = true ∧ PyData.depth (dT42 d) ≤ 50 ∧ (PyData.shown (dT42 d)).length ≤ sizeLine := by
      have cj : j = 0 ∨ j = 1 ∨ j = 2 ∨ j = 3 ∨ j = 4 ∨ j = 5 ∨ j = 6 := by omega
      rcases cj with rfl | rfl | rfl | rfl | rfl | rfl | rfl
      · exact ⟨_, .int 0, atI_nat (j := 0) rfl, .inr ⟨0, rfl, by decide⟩, .int 0, by decide +kernel, by decide +kernel, by decide +kernel⟩
      · exact ⟨_, .int (-1), atI_nat (j := 1) rfl, .inr ⟨-1, rfl, by decide⟩, .int (-1), by decide +kernel, by decide +kernel, by decide +kernel⟩
      · exact ⟨_, .none, atI_nat (j := 2) rfl, .inl ⟨_, false, false, .base .non, kit_ty (by decide +kernel), kit_ty (by decide +kernel), rfl⟩, .non, by decide +kernel, by decide +kernel, by decide +kernel⟩
      · exact ⟨_, .bool true, atI_nat (j := 3) rfl, .inl ⟨_, true, true, .base (.bl true), kit_ty (by decide +kernel), kit_ty (by decide +kernel), rfl⟩, .bl true, by decide +kernel, by decide +kernel, by decide +kernel⟩
      · exact ⟨_, .str "3", atI_nat (j := 4) rfl, .inl ⟨_, false, false, .base (.str _), kit_ty (by decide +kernel), kit_ty (by decide +kernel), rfl⟩, .str _, by decide +kernel, by decide +kernel, by decide +kernel⟩
      · exact ⟨_, .tuple [.int 2], atI_nat (j := 5) rfl, .inl ⟨_, false, false, .base (.tup k9), kit_ty (by decide +kernel), kit_ty (by decide +kernel), rfl⟩, .tup k9 (.cons (.int 2) .nil), by decide +kernel, by decide +kernel, by decide +kernel⟩
      · exact ⟨_, .bool false, atI_nat (j := 6) rfl, .inl ⟨_, true, true, .base (.bl false), kit_ty (by decide +kernel), kit_ty (by decide +kernel), rfl⟩, .bl false, by decide +kernel, by decide +kernel, by decide +kernel⟩
    refine w_ixL (sq (rm_le _ _ (sB _ _ hA1))) hat ?_
    have SB := S8.trans (s9.trans (sA.trans sB))
    have hplB : PrL (rm a HB) lp ps := hpl8.same (s9.trans (sA.trans sB))
    clear S8 s9 sA sB h9 hA1 k9 hat u8 u9 uA hpl8
    walk_at "go"
    refine alR uB fun t3 H1 s1 u1 h1 _ => ?_
    walk_at "go"
    refine alRB u1 fun l3 H2 _ s2 u2 h2 _ => ?_
    walk_at "go"
    refine alRB u2 fun l4 H3 _ s3 u3 h3 _ => ?_
    walk_at "go"
    refine use_drawR u3 (by decide) (by decide) (by omega) fun i H4 i0 i1 s4 u4 => ?_
    have k2 := hpL h2 (show Same _ (rm a H4) by
      clear SB
      walk_at "same")
    obtain ⟨wr, twr, hat, htw, hkw⟩ : ∃ (wr : V) (t : Value), atI [V.non, .int 8, .ref l3] i = some wr ∧ TyX K (rm a H4) wr t ∧ PySem.W.kitOne K t (.ref c.md) = some false := by
      have ci : i = 0 ∨ i = 1 ∨ i = 2 := by omega
      rcases ci with rfl | rfl | rfl
      · exact ⟨_, _, atI_nat (j := 0) rfl, .base .non, nq.non⟩
      · exact ⟨_, _, atI_nat (j := 1) rfl, .base (.int 8), nq.int⟩
      · exact ⟨_, _, atI_nat (j := 2) rfl, .base (.lst k2), nq.lst⟩
    refine w_ixL (sq (rm_le _ _ (s4 _ _ h3))) hat ?_
    have s04 : Same (rm a HB) (rm a H4) := s1.trans (s2.trans (s3.trans s4))
    have S4 := SB.trans s04
    have hod := hod.same s04
    have hdq := hdq.same s04
    have hpl4 : PrL (rm a H4) lp ps := hplB.same s04
    clear SB s1 s2 s3 s4 s04 h1 h2 h3 k2 hat uB u1 u2 u3 hplB
    walk_at "go"
    refine ⟨o, wr, rfl, .inl ⟨hod.same rm_le, fun q1 H5 n5 nq1 s5 hq1 => ?_⟩⟩
    have u5 := u4.same s5
    have hq1 := rm_of (u4.fresh n5) hq1
    have s5 := s5.rm (a := a)
    walk_at "go"
    refine use_modR u5 ((hpl4.same s5).same rm_le) ha hs fun m4 H6 s6 u6 hm6 => ?_
    walk_at "go"
    refine ⟨o, .ref m4, rfl, .inl ⟨(hod.same (s5.trans s6)).same rm_le, fun q2 H7 n7 nq2 s7 hq2 => ?_⟩⟩
    have u7 := u6.same s7
    have hq2 := rm_of (u6.fresh n7) hq2
    have s7 := s7.rm (a := a)
    walk_at "go"
    refine ⟨.int 3, wr, rfl, .inr ⟨3, rfl, by decide, twr, tyx_same htw (Same.trans (s5.trans (s6.trans s7)) rm_le), hkw, fun q3 H8 n8 nq3 s8 hq3 => ?_⟩⟩
    have u8 := u7.same s8
    have hq3 := rm_of (u7.fresh n8) hq3
    have s8 := s8.rm (a := a)
    walk_at "go"
    refine alRB u8 fun q4 H9 nq4 s9 u9 hq4 _ => ?_
    walk_at "go"
    have s49 : Same (rm a H4) (rm a H9) := s5.trans (s6.trans (s7.trans (s8.trans s9)))
    have d9 : Dq H9 o d := hdq.same (Same.trans s49 rm_le)
    have D1 : Dq H9 (.ref q1) (.list [.str "length", d]) := .lst nq1 (rm_le _ _ ((s6.trans (s7.trans (s8.trans s9))) _ _ hq1)) (.cons (.str _) (.cons d9 .nil))
    have D2 : Dq H9 (.ref q2) (.list [.str "length", d]) := .lst nq2 (rm_le _ _ ((s8.trans s9) _ _ hq2)) (.cons (.str _) (.cons d9 .nil))
    have D3 : Dq H9 (.ref q3) (.list [.str "modulus", .none]) := .lst nq3 (rm_le _ _ (s9 _ _ hq3)) (.cons (.str _) (.cons .non .nil))
    refine ⟨q4, dT42 d, rfl, .lst nq4 (rm_le _ _ hq4) (.cons D1 (.cons D2 (.cons D3 .nil))), hd1, hd2, hd3, ?_⟩
    have S9 := S4.trans s49
    have hdq := hdq.same s49
    clear S4 s49 s5 s6 s7 s8 s9 D1 D2 D3 d9 hq1 hq2 hq3 hq4 hm6 u4 u5 u6 u7 u8 hod hpl4 htw
    walk_at "go"
    refine alRB u9 fun r1 H1 nr1 s1 u1 h1 _ => ?_
    walk_at "go"
    refine alRB u1 fun r2 H2 nr2 s2 u2 h2 _ => ?_
    walk_at "go"
    refine alRB u2 fun r3 H3 nr3 s3 u3 h3 _ => ?_
    walk_at "go"
    refine alRB u3 fun r4 H4 nr4 s4 u4 h4 _ => ?_
    walk_at "go"
    have s14 : Same (rm a H9) (rm a H4) := s1.trans (s2.trans (s3.trans s4))
    have dR : Dq H4 o d := hdq.same (Same.trans s14 rm_le)
    have D1 : Dq H4 (.ref r1) (.list [.str "length", d]) := .lst nr1 (rm_le _ _ ((s2.trans (s3.trans s4)) _ _ h1)) (.cons (.str _) (.cons dR .nil))
    have D2 : Dq H4 (.ref r2) (.list [.str "length", d]) := .lst nr2 (rm_le _ _ ((s3.trans s4) _ _ h2)) (.cons (.str _) (.cons dR .nil))
    have D3 : Dq H4 (.ref r3) (.list [.str "modulus", .none]) := .lst nr3 (rm_le _ _ (s4 _ _ h3)) (.cons (.str _) (.cons .non .nil))
    refine ⟨r4, dT42 d, rfl, .lst nr4 (rm_le _ _ h4) (.cons D1 (.cons D2 (.cons D3 .nil))), hd1, hd2, hd3, ?_⟩
    walk_at "go"
    rw [decide_eq_true (Eq.refl _)]
    exact k _ (Keep.ofR (S9.trans s14)) (u4.le (by omega))
noncomputable abbrev s_law : Stmt := (top 30)
theorem sc_law : FnScope ["_law_script", "_law_at", "_law_purse_here"] ["_law_script"] (defScope s_law) :=
  ⟨rfl, rfl, rfl, by decide +kernel, rfl, by decide +kernel, by decide +kernel⟩
theorem ok_law {c : CA} {Cl Cq : Addr} {f : Addr} {fd : FuncData} (F : L2.Fun K "law" "law" s_law f fd) (T : Bt mg) (X : Kx K mg c) (c_purse : Cal P w K mg base 1 "_law_purse" (spPurse K) []) (c_right : CalG P w K mg base 152 "_law_right" spRight) (c_modinit : Mak P w K mg base 3 "Modulus" c.md (spModInit c) []) (c_worst : CalX P w K mg base 150 "worst_count" (spWorstX K c Cl Cq) []) :
    FnG P w K mg base 153 f fd ["_law_script"] (spLaw K) := by
  refine okG F sc_law (fun vs H Q E h => ?_) (fun cdv A outer s H vs Q E hr hA h => ?_)
  · obtain ⟨a, ns, rfl, _⟩ := h
    rfl
  · obtain ⟨a, ns, rfl, hS, hl, k⟩ := h
    refine ⟨_, (pss_cons (ps_for PassesOwn.never rfl (pi_range1 (by rfl) T.range (pa_cons (pe_op op_add pe_int (pe_callB (cMin2 rfl) (by rfl) T.min (by decide +kernel) (pa_cons pe_int (pa_cons (pe_callB cLen (by rfl) T.len (by decide +kernel) (pa_cons (pv 0) pa_nil)) pa_nil)))) pa_nil)) (pg_name (i := 1) sc_law.nd rfl (Or.inl rfl)) (pss_cons (ps_set (i := 2) sc_law.nd rfl (Or.inl rfl) (pe_c c_purse hr (by decide) (by rfl) (pa_cons (pv 0) (pa_cons (pv 1) pa_nil))))
      (pss_one (ps_if (pt_not (pt_val (pe_cG c_right hr (by decide) hA (by rfl) (pa_cons (pv 2) pa_nil)))) (pss_one (ps_ret pe_bl)) pss_nil))))
      (pss_one (ps_ret (pe_and (pe_cmpR op_eq (pe_cL c_worst hr (by decide) (by rfl) (pa_cons pe_int (pa_cons (pe_mk c_modinit hr (by decide) (by rfl) (pa_cons (pe_lst (pa_cons (pe_tup (pa_cons pe_int (pa_cons pe_int pa_nil))) pa_nil)) pa_nil)) pa_nil))) pe_int (nomark _)) (pe_one (pe_cmpR op_eq (pe_cL c_worst hr (by decide) (by rfl) (pa_cons pe_int (pa_cons (pe_mk c_modinit hr (by decide) (by rfl) (pa_cons (pe_lst (pa_cons (pe_tup (pa_cons pe_int (pa_cons pe_int pa_nil))) pa_nil)) pa_nil)) pa_nil))) pe_int (nomark _))))))), ?_⟩
    walk_at "go"
    refine for_range (lo := 0) (fun i σ H' => ∃ (u1 u2 : Option V), σ = [some (.ref a), u1, u2] ∧ Same H H') ⟨none, none, rfl, Same.refl _⟩ ?_ ?_
    · rintro i σ H1 hi ⟨u1, u2, rfl, s1⟩
      have hi8 : i ≤ 8 := by split at hi <;> omega
      walk_at "go"
      refine ⟨a, ns, _, rfl, s1.seq hS, by omega, by omega, fun p H2 np s2 pu => ?_⟩
      walk_at "go"
      refine ⟨p, _, rfl, by omega, pu, fun H4 k4 p4 => ?_⟩
      walk_at "go"
      refine iteF ?_
      walk_at "go"
      refine ⟨_, _, rfl, fun b o hb => ?_⟩
      have hb1 := s1 _ _ hb
      have nb : b ≠ p := fun e => by rw [e, np] at hb1; cases hb1
      exact k4 b o nb (s2 _ _ hb1)
    · rintro σ H1 ⟨u1, u2, rfl, s1⟩
      walk_at "go"
      refine al fun t1 H2 n2 s2 h2 => ?_
      walk_at "go"
      refine al fun l1 H3 n3 s3 h3 => ?_
      walk_at "go"
      refine use_modS (ps := [(2, 3)]) ⟨[t1], h3, .cons (s3 _ _ h2) .nil⟩ ⟨by decide, by decide, by decide +kernel, trivial⟩ (smallL (by decide) (by decide)) fun m1 H4 s4 hm1 => ?_
      walk_at "go"
      refine ⟨_, _, rfl, .inr (.inr ⟨3, m1, [(2, 3)], rfl, by decide, rfl, hm1, ⟨by decide, by decide⟩, fun H5 s5 => ?_⟩)⟩
      rw [show wc42 [(2, 3)] 3 = 5 by decide +kernel]
      walk_at "go"
      refine iteT ?_
      walk_at "go"
      refine al fun t2 H6 n6 s6 h6 => ?_
      walk_at "go"
      refine al fun l2 H7 n7 s7 h7 => ?_
      walk_at "go"
      refine use_modS (ps := [(2, 4)]) ⟨[t2], h7, .cons (s7 _ _ h6) .nil⟩ ⟨by decide, by decide, by decide +kernel, trivial⟩ (smallL (by decide) (by decide)) fun m2 H8 s8 hm2 => ?_
      walk_at "go"
      refine ⟨_, _, rfl, .inr (.inr ⟨4, m2, [(2, 4)], rfl, by decide, rfl, hm2, ⟨by decide, by decide⟩, fun H9 s9 => ?_⟩)⟩
      rw [show wc42 [(2, 4)] 4 = 9 by decide +kernel]
      walk_at "go"
      exact k _
end
end Lw
namespace Lw
open PySem PySem.Spec PyProof.Rows L2 Bc
theorem all_mk {l : PySem.W.OpenLaw} {w : World} {K : PySem.W.Frag} {h : Heap} {mg : Str → Option Value} {fa Cm f1 f2 f3 f4 f5 f6 f7 f8 f9 f10 f11 f12 f13 f14 f15 f16 f17 f18 f19 El f20 Ed f21 Cv f22 f23 f24 f25 f26 f27 : Addr} (X : K.In h) (G : h.Ns mainGlobals mg) (hfa : mg "law" = some (.ref fa))
    {od1 an1 : Option Addr} {sl1 : Array (Option Value)} {oc1 dc1 pm1 cd1 ct1 : Value}
    {kV1 : Value}
    {od2 an2 : Option Addr} {sl2 : Array (Option Value)} {oc2 dc2 pm2 cd2 ct2 : Value}
    {kV2 : Value}
    {od3 an3 : Option Addr} {sl3 : Array (Option Value)} {oc3 dc3 pm3 cd3 ct3 : Value}
    {kV3 : Value}
    {od4 an4 : Option Addr} {sl4 : Array (Option Value)} {oc4 dc4 pm4 cd4 ct4 : Value}
    {kV4 : Value}
    {od5 an5 : Option Addr} {sl5 : Array (Option Value)} {oc5 dc5 pm5 cd5 ct5 : Value}
    {kV5 : Value}
    {od6 an6 : Option Addr} {sl6 : Array (Option Value)} {oc6 dc6 pm6 cd6 ct6 : Value}
    {kV6 : Value}
    {od7 an7 : Option Addr} {sl7 : Array (Option Value)} {oc7 dc7 pm7 cd7 ct7 : Value}
    {kV7 : Value}
    {od8 an8 : Option Addr} {sl8 : Array (Option Value)} {oc8 dc8 pm8 cd8 ct8 : Value}
    {kV8 : Value}
    {od9 an9 : Option Addr} {sl9 : Array (Option Value)} {oc9 dc9 pm9 cd9 ct9 : Value}
    {kV9 : Value}
    {od10 an10 : Option Addr} {sl10 : Array (Option Value)} {oc10 dc10 pm10 cd10 ct10 : Value}
    {kV10 : Value}
    {od11 an11 : Option Addr} {sl11 : Array (Option Value)} {oc11 dc11 pm11 cd11 ct11 : Value}
    {kV11 : Value}
    {od12 an12 : Option Addr} {sl12 : Array (Option Value)} {oc12 dc12 pm12 cd12 ct12 : Value}
    {kV12 : Value}
    {od13 an13 : Option Addr} {sl13 : Array (Option Value)} {oc13 dc13 pm13 cd13 ct13 : Value}
    {kV13 : Value}
    {od14 an14 : Option Addr} {sl14 : Array (Option Value)} {oc14 dc14 pm14 cd14 ct14 : Value}
    {kV14 : Value}
    {od15 an15 : Option Addr} {sl15 : Array (Option Value)} {oc15 dc15 pm15 cd15 ct15 : Value}
    {kV15 : Value}
    {od16 an16 : Option Addr} {sl16 : Array (Option Value)} {oc16 dc16 pm16 cd16 ct16 : Value}
    {kV16 : Value}
    {od17 an17 : Option Addr} {sl17 : Array (Option Value)} {oc17 dc17 pm17 cd17 ct17 : Value}
    {kV17 : Value}
    {od18 an18 : Option Addr} {sl18 : Array (Option Value)} {oc18 dc18 pm18 cd18 ct18 : Value}
    {kV18 : Value}
    {od19 an19 : Option Addr} {sl19 : Array (Option Value)} {oc19 dc19 pm19 cd19 ct19 : Value}
    {kV19 : Value}
    {nmEl qEl : Str} {NEl BCEl : Addr} {bsEl : List Value} {snEl : List Str} {subEl : List Value} {abEl : Bool} {colEl : Option Bool} {ddEl : Option Addr} {e0El e1El e2El e3El e5El : Option Value}
    {od20 an20 : Option Addr} {sl20 : Array (Option Value)} {oc20 dc20 pm20 cd20 ct20 : Value}
    {kV20 : Value}
    {nmEd qEd : Str} {NEd BCEd : Addr} {bsEd : List Value} {snEd : List Str} {subEd : List Value} {abEd : Bool} {colEd : Option Bool} {ddEd : Option Addr} {e0Ed e1Ed e2Ed e3Ed e5Ed : Option Value}
    {od21 an21 : Option Addr} {sl21 : Array (Option Value)} {oc21 dc21 pm21 cd21 ct21 : Value}
    {kV21 : Value}
    {od22 an22 : Option Addr} {sl22 : Array (Option Value)} {oc22 dc22 pm22 cd22 ct22 : Value}
    {kV22 : Value}
    {od23 an23 : Option Addr} {sl23 : Array (Option Value)} {oc23 dc23 pm23 cd23 ct23 : Value}
    {kV23 : Value}
    {od24 an24 : Option Addr} {sl24 : Array (Option Value)} {oc24 dc24 pm24 cd24 ct24 : Value}
    {kV24 : Value}
    {od25 an25 : Option Addr} {sl25 : Array (Option Value)} {oc25 dc25 pm25 cd25 ct25 : Value}
    {kV25 : Value}
    {od26 an26 : Option Addr} {sl26 : Array (Option Value)} {oc26 dc26 pm26 cd26 ct26 : Value}
    {kV26 : Value}
    {od27 an27 : Option Addr} {sl27 : Array (Option Value)} {oc27 dc27 pm27 cd27 ct27 : Value}
    {kV27 : Value}
    (z_len : PySem.W.nsIn K mainGlobals "len" = some none)
    (z_int : PySem.W.nsIn K mainGlobals "int" = some none)
    (z_abs : PySem.W.nsIn K mainGlobals "abs" = some none)
    (z_max : PySem.W.nsIn K mainGlobals "max" = some none)
    (z_min : PySem.W.nsIn K mainGlobals "min" = some none)
    (z_range : PySem.W.nsIn K mainGlobals "range" = some none)
    (z_isinstance : PySem.W.nsIn K mainGlobals "isinstance" = some none)
    (z_list : PySem.W.nsIn K mainGlobals "list" = some none)
    (z_tuple : PySem.W.nsIn K mainGlobals "tuple" = some none)
    (z_str : PySem.W.nsIn K mainGlobals "str" = some none)
    (z_bool : PySem.W.nsIn K mainGlobals "bool" = some none)
    (z_ord : PySem.W.nsIn K mainGlobals "ord" = some none)
    (z_all : PySem.W.nsIn K mainGlobals "all" = some none)
    (z_enumerate : PySem.W.nsIn K mainGlobals "enumerate" = some none)
    (z_zip : PySem.W.nsIn K mainGlobals "zip" = some none)
    (z_sorted : PySem.W.nsIn K mainGlobals "sorted" = some none)
    (z_set : PySem.W.nsIn K mainGlobals "set" = some none)
    (mCm : PySem.W.nsIn K mainGlobals "Modulus" = some (some (.ref Cm)))
    (pgCm : PySem.W.plainGet K Cm Str.empty = true)
    (hdCm : PySem.W.hasDictIn K Cm = true)
    (poCm : PySem.W.plainOver K Cm = true)
    (saCm : PySem.W.findIn K (.ref Cm) "__setattr__" = some (some (.builtin "object.__setattr__")))
    (haCm : PySem.W.findIn K (.ref Cm) "__class__" = some (some (.builtin "object.__class__")))
    (hmCm : PySem.W.mroIn K Cm (.type "object") = some true)
    (mkCm : PySem.W.makesIn K Cm = true)
    (kcCm : PySem.W.keepIn K (.ref Cm) = true)
    (objhn : PySem.W.specialIn K (.builtin "object.__class__") "__get__" = some (some (.builtin "getset_descriptor.__get__")))
    (objht : PySem.W.takesIn K (.builtin "object.__class__") = some true)
    (nCm_number : PySem.W.findIn K (.ref Cm) "number" = some none)
    (nCm_factors : PySem.W.findIn K (.ref Cm) "factors" = some none)
    (nCm_low : PySem.W.findIn K (.ref Cm) "low" = some none)
    (nCm_shift : PySem.W.findIn K (.ref Cm) "shift" = some none)
    (nCm_lead : PySem.W.findIn K (.ref Cm) "lead" = some none)
    (nCm_marking : PySem.W.findIn K (.ref Cm) "marking" = some none)
    (nCm_modulus : PySem.W.findIn K (.ref Cm) "modulus" = some none)
    (nCm_base : PySem.W.findIn K (.ref Cm) "base" = some none)
    (a1 : PySem.W.nsIn K mainGlobals "is_integer" = some (some (.ref f1)))
    (l1 : K.lookup f1 = some ⟨oc1, od1, .func (PySem.W.fnOf "is_integer" "is_integer" (defArgs s_isint) (defBody s_isint) (defScope s_isint) .none kV1 dc1 pm1 an1 cd1 ct1), sl1⟩)
    (c1 : PySem.W.codeIn K cd1 "is_integer" = true)
    (k1 : PySem.W.keepIn K (.ref f1) = true)
    (a2 : PySem.W.nsIn K mainGlobals "raised" = some (some (.ref f2)))
    (l2 : K.lookup f2 = some ⟨oc2, od2, .func (PySem.W.fnOf "raised" "raised" (defArgs s_raised) (defBody s_raised) (defScope s_raised) .none kV2 dc2 pm2 an2 cd2 ct2), sl2⟩)
    (c2 : PySem.W.codeIn K cd2 "raised" = true)
    (k2 : PySem.W.keepIn K (.ref f2) = true)
    (a3 : PySem.W.nsIn K mainGlobals "is_prime_number" = some (some (.ref f3)))
    (l3 : K.lookup f3 = some ⟨oc3, od3, .func (PySem.W.fnOf "is_prime_number" "is_prime_number" (defArgs s_prime) (defBody s_prime) (defScope s_prime) .none kV3 dc3 pm3 an3 cd3 ct3), sl3⟩)
    (c3 : PySem.W.codeIn K cd3 "is_prime_number" = true)
    (k3 : PySem.W.keepIn K (.ref f3) = true)
    (a4 : PySem.W.nsIn K mainGlobals "is_factor" = some (some (.ref f4)))
    (l4 : K.lookup f4 = some ⟨oc4, od4, .func (PySem.W.fnOf "is_factor" "is_factor" (defArgs s_isfac) (defBody s_isfac) (defScope s_isfac) .none kV4 dc4 pm4 an4 cd4 ct4), sl4⟩)
    (c4 : PySem.W.codeIn K cd4 "is_factor" = true)
    (k4 : PySem.W.keepIn K (.ref f4) = true)
    (a5 : PySem.W.nsIn K mainGlobals "require_modulus" = some (some (.ref f5)))
    (l5 : K.lookup f5 = some ⟨oc5, od5, .func (PySem.W.fnOf "require_modulus" "require_modulus" (defArgs s_reqmod) (defBody s_reqmod) (defScope s_reqmod) .none kV5 dc5 pm5 an5 cd5 ct5), sl5⟩)
    (c5 : PySem.W.codeIn K cd5 "require_modulus" = true)
    (k5 : PySem.W.keepIn K (.ref f5) = true)
    (a6 : PySem.W.nsIn K mainGlobals "_law_mixed" = some (some (.ref f6)))
    (l6 : K.lookup f6 = some ⟨oc6, od6, .func (PySem.W.fnOf "_law_mixed" "_law_mixed" (defArgs s_mixed) (defBody s_mixed) (defScope s_mixed) .none kV6 dc6 pm6 an6 cd6 ct6), sl6⟩)
    (c6 : PySem.W.codeIn K cd6 "_law_mixed" = true)
    (k6 : PySem.W.keepIn K (.ref f6) = true)
    (a7 : PySem.W.nsIn K mainGlobals "_law_purse" = some (some (.ref f7)))
    (l7 : K.lookup f7 = some ⟨oc7, od7, .func (PySem.W.fnOf "_law_purse" "_law_purse" (defArgs s_purse) (defBody s_purse) (defScope s_purse) .none kV7 dc7 pm7 an7 cd7 ct7), sl7⟩)
    (c7 : PySem.W.codeIn K cd7 "_law_purse" = true)
    (k7 : PySem.W.keepIn K (.ref f7) = true)
    (a8 : PySem.W.nsIn K mainGlobals "_law_draw" = some (some (.ref f8)))
    (l8 : K.lookup f8 = some ⟨oc8, od8, .func (PySem.W.fnOf "_law_draw" "_law_draw" (defArgs s_draw) (defBody s_draw) (defScope s_draw) .none kV8 dc8 pm8 an8 cd8 ct8), sl8⟩)
    (c8 : PySem.W.codeIn K cd8 "_law_draw" = true)
    (k8 : PySem.W.keepIn K (.ref f8) = true)
    (a9 : PySem.W.nsIn K mainGlobals "require_length" = some (some (.ref f9)))
    (l9 : K.lookup f9 = some ⟨oc9, od9, .func (PySem.W.fnOf "require_length" "require_length" (defArgs s_reqlenx) (defBody s_reqlenx) (defScope s_reqlenx) .none kV9 dc9 pm9 an9 cd9 ct9), sl9⟩)
    (c9 : PySem.W.codeIn K cd9 "require_length" = true)
    (k9 : PySem.W.keepIn K (.ref f9) = true)
    (a10 : PySem.W.nsIn K mainGlobals "require_modulus" = some (some (.ref f10)))
    (l10 : K.lookup f10 = some ⟨oc10, od10, .func (PySem.W.fnOf "require_modulus" "require_modulus" (defArgs s_reqmodx) (defBody s_reqmodx) (defScope s_reqmodx) .none kV10 dc10 pm10 an10 cd10 ct10), sl10⟩)
    (c10 : PySem.W.codeIn K cd10 "require_modulus" = true)
    (k10 : PySem.W.keepIn K (.ref f10) = true)
    (a11 : PySem.W.nsIn K mainGlobals "require_worst" = some (some (.ref f11)))
    (l11 : K.lookup f11 = some ⟨oc11, od11, .func (PySem.W.fnOf "require_worst" "require_worst" (defArgs s_reqworst) (defBody s_reqworst) (defScope s_reqworst) .none kV11 dc11 pm11 an11 cd11 ct11), sl11⟩)
    (c11 : PySem.W.codeIn K cd11 "require_worst" = true)
    (k11 : PySem.W.keepIn K (.ref f11) = true)
    (a12 : PySem.W.nsIn K mainGlobals "filled_up" = some (some (.ref f12)))
    (l12 : K.lookup f12 = some ⟨oc12, od12, .func (PySem.W.fnOf "filled_up" "filled_up" (defArgs s_filled) (defBody s_filled) (defScope s_filled) .none kV12 dc12 pm12 an12 cd12 ct12), sl12⟩)
    (c12 : PySem.W.codeIn K cd12 "filled_up" = true)
    (k12 : PySem.W.keepIn K (.ref f12) = true)
    (a13 : PySem.W.nsIn K mainGlobals "_law_raised" = some (some (.ref f13)))
    (l13 : K.lookup f13 = some ⟨oc13, od13, .func (PySem.W.fnOf "_law_raised" "_law_raised" (defArgs s_lraised) (defBody s_lraised) (defScope s_lraised) .none kV13 dc13 pm13 an13 cd13 ct13), sl13⟩)
    (c13 : PySem.W.codeIn K cd13 "_law_raised" = true)
    (k13 : PySem.W.keepIn K (.ref f13) = true)
    (a14 : PySem.W.nsIn K mainGlobals "_law_all" = some (some (.ref f14)))
    (l14 : K.lookup f14 = some ⟨oc14, od14, .func (PySem.W.fnOf "_law_all" "_law_all" (defArgs s_lall) (defBody s_lall) (defScope s_lall) .none kV14 dc14 pm14 an14 cd14 ct14), sl14⟩)
    (c14 : PySem.W.codeIn K cd14 "_law_all" = true)
    (k14 : PySem.W.keepIn K (.ref f14) = true)
    (a15 : PySem.W.nsIn K mainGlobals "_law_sums" = some (some (.ref f15)))
    (l15 : K.lookup f15 = some ⟨oc15, od15, .func (PySem.W.fnOf "_law_sums" "_law_sums" (defArgs s_sums42) (defBody s_sums42) (defScope s_sums42) .none kV15 dc15 pm15 an15 cd15 ct15), sl15⟩)
    (c15 : PySem.W.codeIn K cd15 "_law_sums" = true)
    (k15 : PySem.W.keepIn K (.ref f15) = true)
    (a16 : PySem.W.nsIn K mainGlobals "_law_due" = some (some (.ref f16)))
    (l16 : K.lookup f16 = some ⟨oc16, od16, .func (PySem.W.fnOf "_law_due" "_law_due" (defArgs s_ldue) (defBody s_ldue) (defScope s_ldue) .none kV16 dc16 pm16 an16 cd16 ct16), sl16⟩)
    (c16 : PySem.W.codeIn K cd16 "_law_due" = true)
    (k16 : PySem.W.keepIn K (.ref f16) = true)
    (a17 : PySem.W.nsIn K mainGlobals "_law_caught" = some (some (.ref f17)))
    (l17 : K.lookup f17 = some ⟨oc17, od17, .func (PySem.W.fnOf "_law_caught" "_law_caught" (defArgs s_caught) (defBody s_caught) (defScope s_caught) .none kV17 dc17 pm17 an17 cd17 ct17), sl17⟩)
    (c17 : PySem.W.codeIn K cd17 "_law_caught" = true)
    (k17 : PySem.W.keepIn K (.ref f17) = true)
    (a18 : PySem.W.nsIn K mainGlobals "_law_right" = some (some (.ref f18)))
    (l18 : K.lookup f18 = some ⟨oc18, od18, .func (PySem.W.fnOf "_law_right" "_law_right" (defArgs s_right) (defBody s_right) (defScope s_right) .none kV18 dc18 pm18 an18 cd18 ct18), sl18⟩)
    (c18 : PySem.W.codeIn K cd18 "_law_right" = true)
    (k18 : PySem.W.keepIn K (.ref f18) = true)
    (a19 : PySem.W.findIn K (.ref Cm) "__init__" = some (some (.ref f19)))
    (i19 : PySem.W.isFn K (.ref f19) = true)
    (l19 : K.lookup f19 = some ⟨oc19, od19, .func (PySem.W.fnOf "__init__" "Modulus.__init__" (defArgs s_modinit) (defBody s_modinit) (defScope s_modinit) .none kV19 dc19 pm19 an19 cd19 ct19), sl19⟩)
    (c19 : PySem.W.codeIn K cd19 "Modulus.__init__" = true)
    (k19 : PySem.W.keepIn K (.ref f19) = true)
    (mEl : PySem.W.nsIn K mainGlobals "InvalidLength" = some (some (.ref El)))
    (xEl : K.lookup El = some (excClassObj nmEl qEl El NEl bsEl [.ref BCEl, .type "ValueError", .type "Exception", .type "BaseException", .type "object"] true snEl subEl abEl colEl ddEl e0El e1El e2El e3El e5El "ValueError.__new__"))
    (saEl : PySem.W.findIn K (.ref El) "__setattr__" = some (some (.builtin "object.__setattr__")))
    (gaEl : PySem.W.findIn K (.ref El) "__getattribute__" = some (some (.builtin "BaseException.__getattribute__")))
    (ggEl : PySem.W.findIn K (.ref El) "__getattr__" = some none)
    (nfEl : PySem.W.findIn K (.ref El) "length" = some none)
    (kcEl : PySem.W.keepIn K (.ref El) = true)
    (eCEl : PySem.W.subIn K (.ref El) (.type "BaseException") = some true)
    (tCEl : PySem.W.typeIn K (.ref El) = some (.type "type"))
    (hCEl : PySem.W.hasDictIn K El = true)
    (iCEl : PySem.W.isClsIn K El = true)
    (sCEl : PySem.W.subIn K (.ref El) (.ref El) = some true)
    (a20 : PySem.W.findIn K (.ref El) "__init__" = some (some (.ref f20)))
    (i20 : PySem.W.isFn K (.ref f20) = true)
    (l20 : K.lookup f20 = some ⟨oc20, od20, .func (PySem.W.fnOf "__init__" "InvalidLength.__init__" (defArgs s_invlen) (defBody s_invlen) (defScope s_invlen) .none kV20 dc20 pm20 an20 cd20 ct20), sl20⟩)
    (c20 : PySem.W.codeIn K cd20 "InvalidLength.__init__" = true)
    (k20 : PySem.W.keepIn K (.ref f20) = true)
    (tIEl : PySem.W.typeIn K (.ref f20) = some (.type "function"))
    (mEd : PySem.W.nsIn K mainGlobals "InvalidModulus" = some (some (.ref Ed)))
    (xEd : K.lookup Ed = some (excClassObj nmEd qEd Ed NEd bsEd [.ref BCEd, .type "ValueError", .type "Exception", .type "BaseException", .type "object"] true snEd subEd abEd colEd ddEd e0Ed e1Ed e2Ed e3Ed e5Ed "ValueError.__new__"))
    (saEd : PySem.W.findIn K (.ref Ed) "__setattr__" = some (some (.builtin "object.__setattr__")))
    (gaEd : PySem.W.findIn K (.ref Ed) "__getattribute__" = some (some (.builtin "BaseException.__getattribute__")))
    (ggEd : PySem.W.findIn K (.ref Ed) "__getattr__" = some none)
    (nfEd : PySem.W.findIn K (.ref Ed) "place" = some none)
    (kcEd : PySem.W.keepIn K (.ref Ed) = true)
    (eCEd : PySem.W.subIn K (.ref Ed) (.type "BaseException") = some true)
    (tCEd : PySem.W.typeIn K (.ref Ed) = some (.type "type"))
    (hCEd : PySem.W.hasDictIn K Ed = true)
    (iCEd : PySem.W.isClsIn K Ed = true)
    (sCEd : PySem.W.subIn K (.ref Ed) (.ref Ed) = some true)
    (a21 : PySem.W.findIn K (.ref Ed) "__init__" = some (some (.ref f21)))
    (i21 : PySem.W.isFn K (.ref f21) = true)
    (l21 : K.lookup f21 = some ⟨oc21, od21, .func (PySem.W.fnOf "__init__" "InvalidModulus.__init__" (defArgs s_invmod) (defBody s_invmod) (defScope s_invmod) .none kV21 dc21 pm21 an21 cd21 ct21), sl21⟩)
    (c21 : PySem.W.codeIn K cd21 "InvalidModulus.__init__" = true)
    (k21 : PySem.W.keepIn K (.ref f21) = true)
    (tIEd : PySem.W.typeIn K (.ref f21) = some (.type "function"))
    (nuQL : PySem.W.subIn K (.ref Ed) (.ref El) = some false)
    (icCm : PySem.W.isClsIn K Cm = true)
    (tyCm : PySem.W.typeIn K (.ref Cm) = some (.type "type"))
    (nq_non : PySem.W.subIn K (.type "NoneType") (.ref Cm) = some false)
    (nq_int : PySem.W.subIn K (.type "int") (.ref Cm) = some false)
    (nq_lst : PySem.W.subIn K (.type "list") (.ref Cm) = some false)
    (mCv : PySem.W.nsIn K mainGlobals "Worst" = some (some (.ref Cv)))
    (pgCv : PySem.W.plainGet K Cv Str.empty = true)
    (hdCv : PySem.W.hasDictIn K Cv = true)
    (poCv : PySem.W.plainOver K Cv = true)
    (saCv : PySem.W.findIn K (.ref Cv) "__setattr__" = some (some (.builtin "object.__setattr__")))
    (haCv : PySem.W.findIn K (.ref Cv) "__class__" = some (some (.builtin "object.__class__")))
    (hmCv : PySem.W.mroIn K Cv (.type "object") = some true)
    (mkCv : PySem.W.makesIn K Cv = true)
    (kcCv : PySem.W.keepIn K (.ref Cv) = true)
    (nCv_prime : PySem.W.findIn K (.ref Cv) "prime" = some none)
    (nCv_known : PySem.W.findIn K (.ref Cv) "known" = some none)
    (a22 : PySem.W.findIn K (.ref Cv) "__init__" = some (some (.ref f22)))
    (i22 : PySem.W.isFn K (.ref f22) = true)
    (l22 : K.lookup f22 = some ⟨oc22, od22, .func (PySem.W.fnOf "__init__" "Worst.__init__" (defArgs s_wsinit) (defBody s_wsinit) (defScope s_wsinit) .none kV22 dc22 pm22 an22 cd22 ct22), sl22⟩)
    (c22 : PySem.W.codeIn K cd22 "Worst.__init__" = true)
    (k22 : PySem.W.keepIn K (.ref f22) = true)
    (a23 : PySem.W.findIn K (.ref Cv) "most" = some (some (.ref f23)))
    (i23 : PySem.W.isFn K (.ref f23) = true)
    (l23 : K.lookup f23 = some ⟨oc23, od23, .func (PySem.W.fnOf "most" "Worst.most" (defArgs s_wsmost) (defBody s_wsmost) (defScope s_wsmost) .none kV23 dc23 pm23 an23 cd23 ct23), sl23⟩)
    (c23 : PySem.W.codeIn K cd23 "Worst.most" = true)
    (k23 : PySem.W.keepIn K (.ref f23) = true)
    (a24 : PySem.W.findIn K (.ref Cv) "worth" = some (some (.ref f24)))
    (i24 : PySem.W.isFn K (.ref f24) = true)
    (l24 : K.lookup f24 = some ⟨oc24, od24, .func (PySem.W.fnOf "worth" "Worst.worth" (defArgs s_wsworth) (defBody s_wsworth) (defScope s_wsworth) .none kV24 dc24 pm24 an24 cd24 ct24), sl24⟩)
    (c24 : PySem.W.codeIn K cd24 "Worst.worth" = true)
    (k24 : PySem.W.keepIn K (.ref f24) = true)
    (a25 : PySem.W.findIn K (.ref Cv) "best" = some (some (.ref f25)))
    (i25 : PySem.W.isFn K (.ref f25) = true)
    (l25 : K.lookup f25 = some ⟨oc25, od25, .func (PySem.W.fnOf "best" "Worst.best" (defArgs s_wsbest) (defBody s_wsbest) (defScope s_wsbest) .none kV25 dc25 pm25 an25 cd25 ct25), sl25⟩)
    (c25 : PySem.W.codeIn K cd25 "Worst.best" = true)
    (k25 : PySem.W.keepIn K (.ref f25) = true)
    (a26 : PySem.W.nsIn K mainGlobals "worst_count" = some (some (.ref f26)))
    (l26 : K.lookup f26 = some ⟨oc26, od26, .func (PySem.W.fnOf "worst_count" "worst_count" (defArgs s_worst) (defBody s_worst) (defScope s_worst) .none kV26 dc26 pm26 an26 cd26 ct26), sl26⟩)
    (c26 : PySem.W.codeIn K cd26 "worst_count" = true)
    (k26 : PySem.W.keepIn K (.ref f26) = true)
    (a27 : PySem.W.nsIn K mainGlobals "law" = some (some (.ref f27)))
    (l27 : K.lookup f27 = some ⟨oc27, od27, .func (PySem.W.fnOf "law" "law" (defArgs s_law) (defBody s_law) (defScope s_law) .none kV27 dc27 pm27 an27 cd27 ct27), sl27⟩)
    (c27 : PySem.W.codeIn K cd27 "law" = true)
    (k27 : PySem.W.keepIn K (.ref f27) = true) :
    ∃ fd : FuncData, (∀ (s : Shared) (v : Value), BindsTo s fd ⟨[v], []⟩ [("_law_script", v)]) ∧ ∀ base : Heap, K.In base → base.Ns mainGlobals mg → FnG l.prog w K mg base 153 fa fd ["_law_script"] (spLaw K) := by
  have e := hfa.symm.trans (PySem.W.mg_of X G a27)
  cases e
  have T : Bt mg := ⟨PySem.W.mg_none_of X G z_len, PySem.W.mg_none_of X G z_int, PySem.W.mg_none_of X G z_abs, PySem.W.mg_none_of X G z_max, PySem.W.mg_none_of X G z_min, PySem.W.mg_none_of X G z_range, PySem.W.mg_none_of X G z_isinstance, PySem.W.mg_none_of X G z_list, PySem.W.mg_none_of X G z_tuple, PySem.W.mg_none_of X G z_str, PySem.W.mg_none_of X G z_bool, PySem.W.mg_none_of X G z_ord, PySem.W.mg_none_of X G z_all, PySem.W.mg_none_of X G z_enumerate, PySem.W.mg_none_of X G z_zip⟩
  have zsorted : mg "sorted" = none := PySem.W.mg_none_of X G z_sorted
  have zset : mg "set" = none := PySem.W.mg_none_of X G z_set
  have K_Cm : ClsF K Cm := ⟨⟨pgCm, hdCm, poCm, saCm⟩, haCm, objhn, objht, hmCm⟩
  have KX : Kx K mg ⟨Cm, Cm, Cm⟩ := ⟨K_Cm, K_Cm, K_Cm, PySem.W.mg_of X G mCm, trivial, trivial, nCm_number, nCm_factors, nCm_low, nCm_shift, nCm_lead, nCm_marking, nCm_modulus, nCm_number, nCm_base⟩
  have F_isint : Dn K mg "is_integer" s_isint ["thing"] := ⟨f1, _, fun_mk (st := s_isint) l1 c1 k1, PySem.W.mg_of X G a1, (fun_mk (st := s_isint) l1 c1 k1).binds (ps := ["thing"]) fun _ _ _ _ _ _ us hl => (by obtain ⟨_, rfl⟩ := lenL1 hl; exact rfl)⟩
  have F_raised : Dn K mg "raised" s_raised ["factor", "power"] := ⟨f2, _, fun_mk (st := s_raised) l2 c2 k2, PySem.W.mg_of X G a2, (fun_mk (st := s_raised) l2 c2 k2).binds (ps := ["factor", "power"]) fun _ _ _ _ _ _ us hl => (by obtain ⟨_, _, rfl⟩ := lenL2 hl; exact rfl)⟩
  have F_prime : Dn K mg "is_prime_number" s_prime ["number"] := ⟨f3, _, fun_mk (st := s_prime) l3 c3 k3, PySem.W.mg_of X G a3, (fun_mk (st := s_prime) l3 c3 k3).binds (ps := ["number"]) fun _ _ _ _ _ _ us hl => (by obtain ⟨_, rfl⟩ := lenL1 hl; exact rfl)⟩
  have F_isfac : Dn K mg "is_factor" s_isfac ["thing", "least"] := ⟨f4, _, fun_mk (st := s_isfac) l4 c4 k4, PySem.W.mg_of X G a4, (fun_mk (st := s_isfac) l4 c4 k4).binds (ps := ["thing", "least"]) fun _ _ _ _ _ _ us hl => (by obtain ⟨_, _, rfl⟩ := lenL2 hl; exact rfl)⟩
  have F_reqmod : Dn K mg "require_modulus" s_reqmod ["modulus"] := ⟨f5, _, fun_mk (st := s_reqmod) l5 c5 k5, PySem.W.mg_of X G a5, (fun_mk (st := s_reqmod) l5 c5 k5).binds (ps := ["modulus"]) fun _ _ _ _ _ _ us hl => (by obtain ⟨_, rfl⟩ := lenL1 hl; exact rfl)⟩
  have F_mixed : Dn K mg "_law_mixed" s_mixed ["_law_cell", "_law_k"] := ⟨f6, _, fun_mk (st := s_mixed) l6 c6 k6, PySem.W.mg_of X G a6, (fun_mk (st := s_mixed) l6 c6 k6).binds (ps := ["_law_cell", "_law_k"]) fun _ _ _ _ _ _ us hl => (by obtain ⟨_, _, rfl⟩ := lenL2 hl; exact rfl)⟩
  have F_purse : Dn K mg "_law_purse" s_purse ["_law_cells", "_law_at"] := ⟨f7, _, fun_mk (st := s_purse) l7 c7 k7, PySem.W.mg_of X G a7, (fun_mk (st := s_purse) l7 c7 k7).binds (ps := ["_law_cells", "_law_at"]) fun _ _ _ _ _ _ us hl => (by obtain ⟨_, _, rfl⟩ := lenL2 hl; exact rfl)⟩
  have F_draw : Dn K mg "_law_draw" s_draw ["_law_purse_here", "_law_out_of"] := ⟨f8, _, fun_mk (st := s_draw) l8 c8 k8, PySem.W.mg_of X G a8, (fun_mk (st := s_draw) l8 c8 k8).binds (ps := ["_law_purse_here", "_law_out_of"]) fun _ _ _ _ _ _ us hl => (by obtain ⟨_, _, rfl⟩ := lenL2 hl; exact rfl)⟩
  have F_reqlenx : Dn K mg "require_length" s_reqlenx ["thing"] := ⟨f9, _, fun_mk (st := s_reqlenx) l9 c9 k9, PySem.W.mg_of X G a9, (fun_mk (st := s_reqlenx) l9 c9 k9).binds (ps := ["thing"]) fun _ _ _ _ _ _ us hl => (by obtain ⟨_, rfl⟩ := lenL1 hl; exact rfl)⟩
  have F_reqmodx : Dn K mg "require_modulus" s_reqmodx ["modulus"] := ⟨f10, _, fun_mk (st := s_reqmodx) l10 c10 k10, PySem.W.mg_of X G a10, (fun_mk (st := s_reqmodx) l10 c10 k10).binds (ps := ["modulus"]) fun _ _ _ _ _ _ us hl => (by obtain ⟨_, rfl⟩ := lenL1 hl; exact rfl)⟩
  have F_reqworst : Dn K mg "require_worst" s_reqworst ["length", "modulus"] := ⟨f11, _, fun_mk (st := s_reqworst) l11 c11 k11, PySem.W.mg_of X G a11, (fun_mk (st := s_reqworst) l11 c11 k11).binds (ps := ["length", "modulus"]) fun _ _ _ _ _ _ us hl => (by obtain ⟨_, _, rfl⟩ := lenL2 hl; exact rfl)⟩
  have F_filled : Dn K mg "filled_up" s_filled ["worth", "degree", "most"] := ⟨f12, _, fun_mk (st := s_filled) l12 c12 k12, PySem.W.mg_of X G a12, (fun_mk (st := s_filled) l12 c12 k12).binds (ps := ["worth", "degree", "most"]) fun _ _ _ _ _ _ us hl => (by obtain ⟨_, _, _, rfl⟩ := lenL3 hl; exact rfl)⟩
  have F_lraised : Dn K mg "_law_raised" s_lraised ["_law_p", "_law_k"] := ⟨f13, _, fun_mk (st := s_lraised) l13 c13 k13, PySem.W.mg_of X G a13, (fun_mk (st := s_lraised) l13 c13 k13).binds (ps := ["_law_p", "_law_k"]) fun _ _ _ _ _ _ us hl => (by obtain ⟨_, _, rfl⟩ := lenL2 hl; exact rfl)⟩
  have F_lall : Dn K mg "_law_all" s_lall ["_law_p", "_law_k", "_law_degree"] := ⟨f14, _, fun_mk (st := s_lall) l14 c14 k14, PySem.W.mg_of X G a14, (fun_mk (st := s_lall) l14 c14 k14).binds (ps := ["_law_p", "_law_k", "_law_degree"]) fun _ _ _ _ _ _ us hl => (by obtain ⟨_, _, _, rfl⟩ := lenL3 hl; exact rfl)⟩
  have F_sums42 : Dn K mg "_law_sums" s_sums42 ["_law_worth", "_law_degree", "_law_most"] := ⟨f15, _, fun_mk (st := s_sums42) l15 c15 k15, PySem.W.mg_of X G a15, (fun_mk (st := s_sums42) l15 c15 k15).binds (ps := ["_law_worth", "_law_degree", "_law_most"]) fun _ _ _ _ _ _ us hl => (by obtain ⟨_, _, _, rfl⟩ := lenL3 hl; exact rfl)⟩
  have F_ldue : Dn K mg "_law_due" s_ldue ["_law_p", "_law_k", "_law_degree"] := ⟨f16, _, fun_mk (st := s_ldue) l16 c16 k16, PySem.W.mg_of X G a16, (fun_mk (st := s_ldue) l16 c16 k16).binds (ps := ["_law_p", "_law_k", "_law_degree"]) fun _ _ _ _ _ _ us hl => (by obtain ⟨_, _, _, rfl⟩ := lenL3 hl; exact rfl)⟩
  have F_caught : Dn K mg "_law_caught" s_caught ["_law_many", "_law_ring"] := ⟨f17, _, fun_mk (st := s_caught) l17 c17 k17, PySem.W.mg_of X G a17, (fun_mk (st := s_caught) l17 c17 k17).binds (ps := ["_law_many", "_law_ring"]) fun _ _ _ _ _ _ us hl => (by obtain ⟨_, _, rfl⟩ := lenL2 hl; exact rfl)⟩
  have F_right : Dn K mg "_law_right" s_right ["_law_purse_here"] := ⟨f18, _, fun_mk (st := s_right) l18 c18 k18, PySem.W.mg_of X G a18, (fun_mk (st := s_right) l18 c18 k18).binds (ps := ["_law_purse_here"]) fun _ _ _ _ _ _ us hl => (by obtain ⟨_, rfl⟩ := lenL1 hl; exact rfl)⟩
  have F_modinit : FunD K "__init__" "Modulus.__init__" (defArgs s_modinit) (defBody s_modinit) (defScope s_modinit) [] [] f19 _ := ⟨⟨oc19, od19, .none, kV19, dc19, pm19, an19, cd19, ct19, sl19, rfl, l19, c19, .inl ⟨rfl, rfl⟩, .inl rfl⟩, k19⟩
  have B_modinit := F_modinit.bindsN (ps := ["self", "factors"]) fun _ _ _ _ _ _ us hl => (by obtain ⟨_, _, rfl⟩ := lenL2 hl; exact rfl)
  have F_invlen : FunD K "__init__" "InvalidLength.__init__" (defArgs s_invlen) (defBody s_invlen) (defScope s_invlen) [] [] f20 _ := ⟨⟨oc20, od20, .none, kV20, dc20, pm20, an20, cd20, ct20, sl20, rfl, l20, c20, .inl ⟨rfl, rfl⟩, .inl rfl⟩, k20⟩
  have B_invlen := F_invlen.bindsN (ps := ["self", "length"]) fun _ _ _ _ _ _ us hl => (by obtain ⟨_, _, rfl⟩ := lenL2 hl; exact rfl)
  have O_El : OexC K El := ⟨⟨nmEl, qEl, NEl, bsEl, _, snEl, subEl, abEl, colEl, ddEl, e0El, e1El, e2El, e3El, e5El, xEl, rfl⟩, saEl, eCEl, tCEl, kcEl⟩
  have e_invlen : ErrC K mg "InvalidLength" El "length" := ⟨PySem.W.mg_of X G mEl, ⟨gaEl, ggEl, eCEl, hCEl⟩, nfEl, exm_own eCEl iCEl tCEl sCEl⟩
  have F_invmod : FunD K "__init__" "InvalidModulus.__init__" (defArgs s_invmod) (defBody s_invmod) (defScope s_invmod) [] [] f21 _ := ⟨⟨oc21, od21, .none, kV21, dc21, pm21, an21, cd21, ct21, sl21, rfl, l21, c21, .inl ⟨rfl, rfl⟩, .inl rfl⟩, k21⟩
  have B_invmod := F_invmod.bindsN (ps := ["self", "place"]) fun _ _ _ _ _ _ us hl => (by obtain ⟨_, _, rfl⟩ := lenL2 hl; exact rfl)
  have O_Ed : OexC K Ed := ⟨⟨nmEd, qEd, NEd, bsEd, _, snEd, subEd, abEd, colEd, ddEd, e0Ed, e1Ed, e2Ed, e3Ed, e5Ed, xEd, rfl⟩, saEd, eCEd, tCEd, kcEd⟩
  have e_invmod : ErrC K mg "InvalidModulus" Ed "place" := ⟨PySem.W.mg_of X G mEd, ⟨gaEd, ggEd, eCEd, hCEd⟩, nfEd, exm_own eCEd iCEd tCEd sCEd⟩
  have NQ : NoQ42 K ⟨Cm, Cm, Cm⟩ := ⟨kit_no rfl icCm tyCm nq_non, kit_no rfl icCm tyCm nq_int, kit_no rfl icCm tyCm nq_lst⟩
  have K_Cv : ClsF K Cv := ⟨⟨pgCv, hdCv, poCv, saCv⟩, haCv, objhn, objht, hmCv⟩
  have KW : KWs K mg Cv := ⟨K_Cv, PySem.W.mg_of X G mCv, nCv_prime, nCv_known⟩
  have F_wsinit : FunD K "__init__" "Worst.__init__" (defArgs s_wsinit) (defBody s_wsinit) (defScope s_wsinit) [] [] f22 _ := ⟨⟨oc22, od22, .none, kV22, dc22, pm22, an22, cd22, ct22, sl22, rfl, l22, c22, .inl ⟨rfl, rfl⟩, .inl rfl⟩, k22⟩
  have B_wsinit := F_wsinit.bindsN (ps := ["self", "prime"]) fun _ _ _ _ _ _ us hl => (by obtain ⟨_, _, rfl⟩ := lenL2 hl; exact rfl)
  have F_wsmost : FunD K "most" "Worst.most" (defArgs s_wsmost) (defBody s_wsmost) (defScope s_wsmost) [] [] f23 _ := ⟨⟨oc23, od23, .none, kV23, dc23, pm23, an23, cd23, ct23, sl23, rfl, l23, c23, .inl ⟨rfl, rfl⟩, .inl rfl⟩, k23⟩
  have B_wsmost := F_wsmost.bindsN (ps := ["self", "degree", "power"]) fun _ _ _ _ _ _ us hl => (by obtain ⟨_, _, _, rfl⟩ := lenL3 hl; exact rfl)
  have F_wsworth : FunD K "worth" "Worst.worth" (defArgs s_wsworth) (defBody s_wsworth) (defScope s_wsworth) [] [] f24 _ := ⟨⟨oc24, od24, .none, kV24, dc24, pm24, an24, cd24, ct24, sl24, rfl, l24, c24, .inl ⟨rfl, rfl⟩, .inl rfl⟩, k24⟩
  have B_wsworth := F_wsworth.bindsN (ps := ["self", "many", "power"]) fun _ _ _ _ _ _ us hl => (by obtain ⟨_, _, _, rfl⟩ := lenL3 hl; exact rfl)
  have F_wsbest : FunD K "best" "Worst.best" (defArgs s_wsbest) (defBody s_wsbest) (defScope s_wsbest) [] [] f25 _ := ⟨⟨oc25, od25, .none, kV25, dc25, pm25, an25, cd25, ct25, sl25, rfl, l25, c25, .inl ⟨rfl, rfl⟩, .inl rfl⟩, k25⟩
  have B_wsbest := F_wsbest.bindsN (ps := ["self", "degree", "power"]) fun _ _ _ _ _ _ us hl => (by obtain ⟨_, _, _, rfl⟩ := lenL3 hl; exact rfl)
  have F_worst : FunD K "worst_count" "worst_count" (defArgs s_worst) (defBody s_worst) (defScope s_worst) [] [] f26 _ := ⟨⟨oc26, od26, .none, kV26, dc26, pm26, an26, cd26, ct26, sl26, rfl, l26, c26, .inl ⟨rfl, rfl⟩, .inl rfl⟩, k26⟩
  have B_worst := F_worst.bindsN (ps := ["length", "modulus"]) fun _ _ _ _ _ _ us hl => (by obtain ⟨_, _, rfl⟩ := lenL2 hl; exact rfl)
  refine ⟨PySem.W.fnOf "law" "law" (defArgs s_law) (defBody s_law) (defScope s_law) .none kV27 dc27 pm27 an27 cd27 ct27, fun s v => .of_eq rfl, fun base _ _ => ?_⟩
  have g_invlen := ok_invlen (P := l.prog) (w := w) (K := K) (mg := mg) (base := base) F_invlen T O_El nfEl
  have c_invlen : Err l.prog w K mg base 1 "InvalidLength" El "length" := ⟨f20, _, _, O_El, a20, tIEl, g_invlen, B_invlen, PySem.W.mg_of X G mEl⟩
  have g_invmod := ok_invmod (P := l.prog) (w := w) (K := K) (mg := mg) (base := base) F_invmod T O_Ed nfEd
  have c_invmod : Err l.prog w K mg base 1 "InvalidModulus" Ed "place" := ⟨f21, _, _, O_Ed, a21, tIEd, g_invmod, B_invmod, PySem.W.mg_of X G mEd⟩
  have nql := exm_no eCEl iCEl tCEl nuQL
  have c_isint := ok_isint (P := l.prog) (w := w) (K := K) (mg := mg) (base := base) F_isint T
  have c_raised := ok_raised (P := l.prog) (w := w) (K := K) (mg := mg) (base := base) F_raised T
  have c_prime := ok_prime (P := l.prog) (w := w) (K := K) (mg := mg) (base := base) F_prime T
  have c_isfac := ok_isfac F_isfac T c_isint c_prime
  have g_modinit := ok_modinit (c := ⟨Cm, Cm, Cm⟩) F_modinit T KX c_isfac c_raised
  have c_modinit : C8.Mak l.prog w K mg base 3 "Modulus" Cm (spModInit ⟨Cm, Cm, Cm⟩) [] := ⟨f19, _, _, _, ⟨mkCm, a19, i19, kcCm⟩, g_modinit, PySem.W.mg_of X G mCm, B_modinit, .nil⟩
  have c_mixed := ok_mixed (P := l.prog) (w := w) (K := K) (mg := mg) (base := base) F_mixed T
  have c_purse := ok_purse (P := l.prog) (w := w) (K := K) (mg := mg) (base := base) F_purse T
  have c_draw := ok_draw F_draw T c_mixed
  have c_reqlenx := ok_reqlenx (Cl := El) F_reqlenx T c_isint c_invlen
  have c_reqmodx := ok_reqmodx (c := ⟨Cm, Cm, Cm⟩) F_reqmodx T KX c_invmod
  have c_reqworst := ok_reqworst (c := ⟨Cm, Cm, Cm⟩) (Cl := El) (Cq := Ed) F_reqworst T c_invlen c_reqlenx c_reqmodx
  have c_filled := ok_filled (P := l.prog) (w := w) (K := K) (mg := mg) (base := base) F_filled T
  have g_wsinit := ok_wsinit (P := l.prog) (w := w) (base := base) (Cv := Cv) F_wsinit T KW
  have c_wsinit : C8.Mak l.prog w K mg base 1 "Worst" Cv (spWsInit Cv) [] := ⟨f22, _, _, _, ⟨mkCv, a22, i22, kcCv⟩, g_wsinit, PySem.W.mg_of X G mCv, B_wsinit, .nil⟩
  have c_wsrec := ok_wsrec (P := l.prog) (w := w) (base := base) (Cv := Cv) F_wsbest F_wsmost F_wsworth (fun _ _ g => ⟨f25, _, _, [], KW.cl.cl, ⟨a25, i25, k25⟩, g, B_wsbest, .nil⟩) (fun _ _ g => ⟨f23, _, _, [], KW.cl.cl, ⟨a23, i23, k23⟩, g, B_wsmost, .nil⟩) (fun _ _ g => ⟨f24, _, _, [], KW.cl.cl, ⟨a24, i24, k24⟩, g, B_wsworth, .nil⟩) T KW c_raised c_filled
  have c_wsmost : C8.Met l.prog w K mg base 141 Cv "most" (spMost Cv 40) [] := ⟨f23, _, _, [], KW.cl.cl, ⟨a23, i23, k23⟩, ok_wsmost F_wsmost T (c_wsrec 40), B_wsmost, .nil⟩
  have g_worst := ok_worst (c := ⟨Cm, Cm, Cm⟩) (Cl := El) (Cq := Ed) (Cv := Cv) F_worst T KX c_reqworst c_wsinit c_wsmost
  have c_worst : CalX l.prog w K mg base 150 "worst_count" (spWorstX K ⟨Cm, Cm, Cm⟩ El Ed) [] := ⟨f26, _, _, [], g_worst, PySem.W.mg_of X G a26, k26, B_worst, .nil⟩
  have c_worstK : CalXK l.prog w K mg base 150 "worst_count" ["modulus", "length"] (spWorstX K ⟨Cm, Cm, Cm⟩ El Ed) (fun vs zs => vs ++ zs.reverse) := ⟨f26, _, _, fun us ws => us ++ ws.reverse, g_worst, PySem.W.mg_of X G a26, k26, ⟨fun s us ws _ h1 h2 => .of_eq (match us, ws, h1, h2 with | [], [_, _], _, _ => rfl), fun r1 r2 => r1.append (vals_rev r2)⟩⟩
  have c_lraised := ok_lraised (P := l.prog) (w := w) (K := K) (mg := mg) (base := base) F_lraised T
  have c_lall := ok_lall F_lall T c_lraised
  have c_sums42 := ok_sums42 (P := l.prog) (w := w) (K := K) (mg := mg) (base := base) F_sums42 T
  have c_ldue := ok_ldue F_ldue T c_lraised c_sums42
  have c_caught := ok_caught (c := ⟨Cm, Cm, Cm⟩) (Cl := El) (Cq := Ed) F_caught T e_invlen e_invmod nql c_worst
  have c_right := ok_right (c := ⟨Cm, Cm, Cm⟩) (Cl := El) (Cq := Ed) F_right T KX NQ c_draw c_modinit c_worst c_worstK c_lall c_ldue c_caught
  exact ok_law (c := ⟨Cm, Cm, Cm⟩) (Cl := El) (Cq := Ed) (fun_mk (st := s_law) l27 c27 k27) T KX c_purse c_right c_modinit c_worst
theorem walk {l : PySem.W.OpenLaw} {q : Program} {loose : List Str} {XP : (Str → Option Value) → Heap → Prop} {YP : World → Heap → Prop} {d : DefRec} {K : Params → PySem.W.Frag} (hn : l.most = some 63) (hdf : d.params.defaults = [])
    (hY : ∀ (w : World) (h : Heap), YP w h → (K w.params).In h)
    (F : ∀ (w : World) (mg : Str → Option Value) (fa : Addr) (h : Heap), (K w.params).In h → h.Ns mainGlobals mg → mg d.name = some (.ref fa) →
      ∃ fd : FuncData, (∀ (s : Shared) (u : Value), BindsTo s fd ⟨[u], []⟩ [("_law_script", u)]) ∧ ∀ base : Heap, (K w.params).In base → base.Ns mainGlobals mg → FnG l.prog w (K w.params) mg base 153 fa fd ["_law_script"] (spLaw (K w.params))) :
    PySem.W.WalkO q loose XP YP l.row.toRowW d [] (fun f vs => PySem.call f vs) :=
  walkG (n := 63) (k := 153) (x := "_law_script") (sp := fun w => spLaw (K w.params)) hn (by decide) hdf ⟨rfl, by decide, by decide⟩ hY F (fun _ _ a ns hl _ hS => ⟨a, ns, rfl, hS, hl, fun _ => rfl⟩)
end Lw
open PySem PySem.W PyProof.Rows in
set_option maxRecDepth 100000 in
set_option maxHeartbeats 0 in
theorem PySem.Challenge.cw_baseclash_k42_the_worst_count_holds : PySem.Challenge.rw_baseclash_k42_the_worst_count.Holds := by
  w_on; o_law; k_head; (case hw => w_witness2)
  k_fill
  refine Lw.walk (l := PySem.Challenge.rw_baseclash_k42_the_worst_count) rfl rfl (fun w h Y => PySem.W.kIn_of Y) ?F
  case F =>
    intro w mg fa h KX G hmg
    refine' Lw.all_mk KX G hmg ?z_len ?z_int ?z_abs ?z_max ?z_min ?z_range ?z_isinstance ?z_list ?z_tuple ?z_str ?z_bool ?z_ord ?z_all ?z_enumerate ?z_zip ?z_sorted ?z_set ?mCm ?pgCm ?hdCm ?poCm ?saCm ?haCm ?hmCm ?mkCm ?kcCm ?objhn ?objht ?nCm_number ?nCm_factors ?nCm_low ?nCm_shift ?nCm_lead ?nCm_marking ?nCm_modulus ?nCm_base ?a1 ?l1 ?c1 ?k1 ?a2 ?l2 ?c2 ?k2 ?a3 ?l3 ?c3 ?k3 ?a4 ?l4 ?c4 ?k4 ?a5 ?l5 ?c5 ?k5 ?a6 ?l6 ?c6 ?k6 ?a7 ?l7 ?c7 ?k7 ?a8 ?l8 ?c8 ?k8 ?a9 ?l9 ?c9 ?k9 ?a10 ?l10 ?c10 ?k10 ?a11 ?l11 ?c11 ?k11 ?a12 ?l12 ?c12 ?k12 ?a13 ?l13 ?c13 ?k13 ?a14 ?l14 ?c14 ?k14 ?a15 ?l15 ?c15 ?k15 ?a16 ?l16 ?c16 ?k16 ?a17 ?l17 ?c17 ?k17 ?a18 ?l18 ?c18 ?k18 ?a19 ?i19 ?l19 ?c19 ?k19 ?mEl ?xEl ?saEl ?gaEl ?ggEl ?nfEl ?kcEl ?eCEl ?tCEl ?hCEl ?iCEl ?sCEl ?a20 ?i20 ?l20 ?c20 ?k20 ?tIEl ?mEd ?xEd ?saEd ?gaEd ?ggEd ?nfEd ?kcEd ?eCEd ?tCEd ?hCEd ?iCEd ?sCEd ?a21 ?i21 ?l21 ?c21 ?k21 ?tIEd ?nuQL ?icCm ?tyCm ?nq_non ?nq_int ?nq_lst ?mCv ?pgCv ?hdCv ?poCv ?saCv ?haCv ?hmCv ?mkCv ?kcCv ?nCv_prime ?nCv_known ?a22 ?i22 ?l22 ?c22 ?k22 ?a23 ?i23 ?l23 ?c23 ?k23 ?a24 ?i24 ?l24 ?c24 ?k24 ?a25 ?i25 ?l25 ?c25 ?k25 ?a26 ?l26 ?c26 ?k26 ?a27 ?l27 ?c27 ?k27
    (case z_len => k_is)
    (case z_int => k_is)
    (case z_abs => k_is)
    (case z_max => k_is)
    (case z_min => k_is)
    (case z_range => k_is)
    (case z_isinstance => k_is)
    (case z_list => k_is)
    (case z_tuple => k_is)
    (case z_str => k_is)
    (case z_bool => k_is)
    (case z_ord => k_is)
    (case z_all => k_is)
    (case z_enumerate => k_is)
    (case z_zip => k_is)
    (case z_sorted => k_is)
    (case z_set => k_is)
    (case mCm => k_is)
    (case pgCm => k_is)
    (case hdCm => k_is)
    (case poCm => k_is)
    (case saCm => k_is)
    (case haCm => k_is)
    (case hmCm => k_is)
    (case mkCm => k_is)
    (case kcCm => k_is)
    (case objhn => k_is)
    (case objht => k_is)
    (case nCm_number => k_is)
    (case nCm_factors => k_is)
    (case nCm_low => k_is)
    (case nCm_shift => k_is)
    (case nCm_lead => k_is)
    (case nCm_marking => k_is)
    (case nCm_modulus => k_is)
    (case nCm_base => k_is)
    (case a1 => k_is)
    (case l1 => k_is)
    (case c1 => k_is)
    (case k1 => k_is)
    (case a2 => k_is)
    (case l2 => k_is)
    (case c2 => k_is)
    (case k2 => k_is)
    (case a3 => k_is)
    (case l3 => k_is)
    (case c3 => k_is)
    (case k3 => k_is)
    (case a4 => k_is)
    (case l4 => k_is)
    (case c4 => k_is)
    (case k4 => k_is)
    (case a5 => k_is)
    (case l5 => k_is)
    (case c5 => k_is)
    (case k5 => k_is)
    (case a6 => k_is)
    (case l6 => k_is)
    (case c6 => k_is)
    (case k6 => k_is)
    (case a7 => k_is)
    (case l7 => k_is)
    (case c7 => k_is)
    (case k7 => k_is)
    (case a8 => k_is)
    (case l8 => k_is)
    (case c8 => k_is)
    (case k8 => k_is)
    (case a9 => k_is)
    (case l9 => k_is)
    (case c9 => k_is)
    (case k9 => k_is)
    (case a10 => k_is)
    (case l10 => k_is)
    (case c10 => k_is)
    (case k10 => k_is)
    (case a11 => k_is)
    (case l11 => k_is)
    (case c11 => k_is)
    (case k11 => k_is)
    (case a12 => k_is)
    (case l12 => k_is)
    (case c12 => k_is)
    (case k12 => k_is)
    (case a13 => k_is)
    (case l13 => k_is)
    (case c13 => k_is)
    (case k13 => k_is)
    (case a14 => k_is)
    (case l14 => k_is)
    (case c14 => k_is)
    (case k14 => k_is)
    (case a15 => k_is)
    (case l15 => k_is)
    (case c15 => k_is)
    (case k15 => k_is)
    (case a16 => k_is)
    (case l16 => k_is)
    (case c16 => k_is)
    (case k16 => k_is)
    (case a17 => k_is)
    (case l17 => k_is)
    (case c17 => k_is)
    (case k17 => k_is)
    (case a18 => k_is)
    (case l18 => k_is)
    (case c18 => k_is)
    (case k18 => k_is)
    (case a19 => k_is)
    (case i19 => k_is)
    (case l19 => k_is)
    (case c19 => k_is)
    (case k19 => k_is)
    (case mEl => k_is)
    (case xEl => k_is)
    (case saEl => k_is)
    (case gaEl => k_is)
    (case ggEl => k_is)
    (case nfEl => k_is)
    (case kcEl => k_is)
    (case eCEl => k_is)
    (case tCEl => k_is)
    (case hCEl => k_is)
    (case iCEl => k_is)
    (case sCEl => k_is)
    (case a20 => k_is)
    (case i20 => k_is)
    (case l20 => k_is)
    (case c20 => k_is)
    (case k20 => k_is)
    (case tIEl => k_is)
    (case mEd => k_is)
    (case xEd => k_is)
    (case saEd => k_is)
    (case gaEd => k_is)
    (case ggEd => k_is)
    (case nfEd => k_is)
    (case kcEd => k_is)
    (case eCEd => k_is)
    (case tCEd => k_is)
    (case hCEd => k_is)
    (case iCEd => k_is)
    (case sCEd => k_is)
    (case a21 => k_is)
    (case i21 => k_is)
    (case l21 => k_is)
    (case c21 => k_is)
    (case k21 => k_is)
    (case tIEd => k_is)
    (case nuQL => k_is)
    (case icCm => k_is)
    (case tyCm => k_is)
    (case nq_non => k_is)
    (case nq_int => k_is)
    (case nq_lst => k_is)
    (case mCv => k_is)
    (case pgCv => k_is)
    (case hdCv => k_is)
    (case poCv => k_is)
    (case saCv => k_is)
    (case haCv => k_is)
    (case hmCv => k_is)
    (case mkCv => k_is)
    (case kcCv => k_is)
    (case nCv_prime => k_is)
    (case nCv_known => k_is)
    (case a22 => k_is)
    (case i22 => k_is)
    (case l22 => k_is)
    (case c22 => k_is)
    (case k22 => k_is)
    (case a23 => k_is)
    (case i23 => k_is)
    (case l23 => k_is)
    (case c23 => k_is)
    (case k23 => k_is)
    (case a24 => k_is)
    (case i24 => k_is)
    (case l24 => k_is)
    (case c24 => k_is)
    (case k24 => k_is)
    (case a25 => k_is)
    (case i25 => k_is)
    (case l25 => k_is)
    (case c25 => k_is)
    (case k25 => k_is)
    (case a26 => k_is)
    (case l26 => k_is)
    (case c26 => k_is)
    (case k26 => k_is)
    (case a27 => k_is)
    (case l27 => k_is)
    (case c27 => k_is)
    (case k27 => k_is)
