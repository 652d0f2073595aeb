import PyProof.Rows.All
import Wide.All
import OpenK.AllK
import Wide.FinOn
import HandS.ForMost
import HandS.Codes
import HandS.Style
import HandS.Flow
import HandS.Wide
import HandS.WideBits
import HandS.Defaults
import HandS.MakeKwOnly
import HandS.MakeKw
import HandS.Star
import HandS.IsInst
import HandS.Steps
import HandS.Walk
import HandS.Conv
import HandS.NoneIn
import HandS.Exc
import HandS.ExcOwn
import HandS.ExcInit
import HandS.ExcField
import HandS.CallSlots
import HandS.TryOnly
import HandS.TryMany
import HandS.WordsExc
import HandS.ExcIs
import HandS.Dict
import HandS.DictComp
import HandS.Iter
import HandS.Small
import KE.KDictPairs
import PyProof.LongRange
import PySem.Challenge.RW_baseclash_k70_two_ways_at_once
set_option Elab.async false
set_option maxRecDepth 100000
set_option linter.all false
/-! Steps of the readings, one lemma a head; heaps that keep what they hold but for one place; relations by name. -/
namespace Bc
open PySem PySem.Spec PyProof.Rows L2

/-! ### relations by name -/
section
variable {X : Cx}
def rLen (K : PySem.W.Frag) : List V → Hp → VK → Prop := fun xs H Q => ∃ p ys, xs = [.ref p] ∧ (SqL K H p ys ∨ SqT K H p ys) ∧ Q (.int ys.length) H
theorem cLen : CallR X (.builtin "len") (rLen X.K) := call_len_seq
def rLenS : List V → Hp → VK → Prop := fun xs H Q => ∃ x, xs = [.str x] ∧ x.length ≤ sizeLine ∧ Q (.int x.length) H
theorem cLenS : CallR X (.builtin "len") rLenS := call_len_str
def rAbs : List V → Hp → VK → Prop := fun xs H Q => ∃ i, xs = [.int i] ∧ Q (.int (if i < 0 then -i else i)) H
theorem cAbs : CallR X (.builtin "abs") rAbs := call_abs
def rMax2 : List V → Hp → VK → Prop := fun xs H Q => ∃ i j, xs = [.int i, .int j] ∧ Q (.int (if j > i then j else i)) H
theorem cMax2 (hc : X.calm = true) : CallR X (.builtin "max") rMax2 := call_max2 hc
def rMin2 : List V → Hp → VK → Prop := fun xs H Q => ∃ i j, xs = [.int i, .int j] ∧ Q (.int (if j < i then j else i)) H
theorem cMin2 (hc : X.calm = true) : CallR X (.builtin "min") rMin2 := call_min2 hc
def rInt1 : List V → Hp → VK → Prop := fun xs H Q => (∃ i, xs = [.int i] ∧ Q (.int i) H) ∨ ∃ k, xs = [.bl k] ∧ Q (.int (if k then 1 else 0)) H
theorem cInt1 : CallR X (.type "int") rInt1 := call_int1
def rOrd : List V → Hp → VK → Prop := fun xs H Q => ∃ x, xs = [.str x] ∧ x.length = 1 ∧ Q (.int (x.cps.getD 0 0 : Nat)) H
theorem cOrd : CallR X (.builtin "ord") rOrd := call_ord
def rListOf (K : PySem.W.Frag) : List V → Hp → VK → Prop := fun xs H Q => ∃ p ys, xs = [.ref p] ∧ (SqL K H p ys ∨ SqT K H p ys) ∧ ∀ l, H l = none → Q (.ref l) (upd H l (.lst ys))
theorem cListOf : CallR X (.type "list") (rListOf X.K) := call_list_of
def rTupOf (K : PySem.W.Frag) : List V → Hp → VK → Prop := fun xs H Q => ∃ p ys, xs = [.ref p] ∧ ((SqL K H p ys ∧ ∀ l, H l = none → Q (.ref l) (upd H l (.tup ys))) ∨ (SqT K H p ys ∧ Q (.ref p) H))
theorem cTupOf : CallR X (.type "tuple") (rTupOf X.K) := call_tuple_of
def rTupF (K : PySem.W.Frag) : List V → Hp → VK → Prop := fun xs H Q => ∃ p ys, xs = [.ref p] ∧ SqL K H p ys ∧ ∀ l o, H l = none → o.dict = none → Q (.ref l) (upd H l (.frz o (.tup ys)))
theorem cTupF : CallR X (.type "tuple") (rTupF X.K) := by
  intro pins s σ H xs us Q I r h
  obtain ⟨p, ys, rfl, hq, q⟩ := h
  obtain ⟨u, rfl, rx⟩ := vals1 r
  cases rx
  obtain ⟨its, r', pl, hz⟩ := I.list hq
  have hlen := r'.length
  refine call_tuple_list pl.isList (fun h' kp => ?_) (by simp only [List.size_toArray] <;> omega)
  have I1 : Inv X pins σ H { s with heap := h' } := I.kept (t' := s.toks) kp
  have I2 : Inv X pins σ (upd H h'.objs.size (.frz { cls := .type "tuple", data := .seq its.toArray } (.tup ys))) { s with heap := h'.push { cls := .type "tuple", data := .seq its.toArray } } :=
    I1.laid (t' := s.toks) (fun b o e => Heap.get?_push_of_some _ e) (Nat.le_refl _) (show ObjOk X.prog X.w _ _ _ (.frz _ (.tup ys)) from ⟨Heap.get?_push_size _ rfl, hz, its, r', IsTup.new _ _⟩)
  exact ⟨.ref h'.objs.size, _, I2, rfl, q _ _ (I1.hok.fresh (Nat.le_refl _)) rfl⟩
def rLeS : R2 := fun x y H Q => ∃ i j, x = .str i ∧ y = .str j ∧ Q (.bl (!decide (j.cps.toList < i.cps.toList))) H
theorem oLeS : OpR X (compareOp .LtE) rLeS := op_le_str
def CPowW (i j : Int) : Prop := 0 ≤ j ∧ (Builtin.Int.intBits i : Int) * j ≤ 2 ^ 27
theorem oPowW : OpR X (binaryOp .Pow) (rI CPowW fun i j => .int (i ^ j.toNat)) := opI fun _ _ _ _ _ _ _ hc q => PyProof.Rows.pow_int hc.1 hc.2 q
end

/-! ### steps -/
section
variable {σ : L2.St} {H : Hp} {D : Ends} {Q : VK} {QT : Bool → Hp → Prop} {QA : List V → Hp → Prop} {K : PySem.W.Frag} {te ta tb tc : TE} {t u : TS} {tt tu : TT} {as : TA} {i j : Nat} {v x y : V} {a b n m : Int}

/-- a continuation kept apart -/
def atV (Q : VK) (v : V) (H : Hp) : Prop := Q v H
theorem w_atV (q : Q v H) : atV Q v H := q
theorem w_var (h : σ[i]? = some (some v)) (q : Q v H) : tVar i σ H Q := ⟨v, h, q⟩
theorem w_c (q : Q v H) : tC v σ H Q := q
theorem w_op {r : R2} (q : ta σ H fun x H1 => tb σ H1 fun y H2 => r x y H2 Q) : tOp r ta tb σ H Q := q
theorem w_un {r : V → Hp → VK → Prop} (q : ta σ H fun x H1 => r x H1 Q) : tUn r ta σ H Q := q
theorem w_cb {r : List V → Hp → VK → Prop} (q : as σ H fun vs H1 => r vs H1 Q) : tCB r as σ H Q := q
theorem w_cons {tr : TA} (q : ta σ H fun x H1 => tr σ H1 fun xs H2 => QA (x :: xs) H2) : tCons ta tr σ H QA := q
theorem w_nil (q : QA [] H) : tNil σ H QA := q
theorem w_seq (q : t { D with nx := u D } σ H) : tSeq t u D σ H := q
theorem w_set (q : te σ H fun x H1 => D.nx (σ.set i (some x)) H1) : tAsg te (gName i) D σ H := q
theorem w_asg {g : TG} (q : te σ H fun x H1 => g x σ H1 D.nx) : tAsg te g D σ H := q
theorem w_name {Qs : L2.St → Hp → Prop} (q : Qs (σ.set i (some v)) H) : gName i v σ H Qs := q
theorem w_par (q : as σ H fun vs H1 => ∃ v w, vs = [v, w] ∧ D.nx ((σ.set i (some v)).set j (some w)) H1) : tPar i j as D σ H := q
theorem w_par2 {p q : V} {P : V → V → Prop} (h : P p q) : ∃ v w, [p, q] = [v, w] ∧ P v w := ⟨p, q, rfl, h⟩
theorem w_aug {ti : TIp} (h : σ[i]? = some (some v)) (q : te σ H fun y H1 => ti v y H1 fun z H2 => D.nx (σ.set i (some z)) H2) : tAug i te ti D σ H := ⟨v, h, q⟩
theorem w_ipI {f : Int → Int → Int} (q : Q (.int (f a b)) H) : ipI f (.int a) (.int b) H Q := ⟨a, b, rfl, rfl, q⟩
theorem w_drop (q : te σ H fun _ H1 => D.nx σ H1) : tDrop te D σ H := q
theorem w_ret (q : te σ H D.rt) : tRet te D σ H := q
theorem w_retN (q : D.rt .non H) : tRetN D σ H := q
theorem w_next (q : D.nx σ H) : tNext D σ H := q
theorem w_if {c : TT} (q : c σ H fun b H1 => if b = true then t D σ H1 else u D σ H1) : tIfS c t u D σ H := q
theorem w_test (q : te σ H fun x H' => ∃ k, x = .bl k ∧ QT k H') : tTest te σ H QT := q
theorem w_tB (q : te σ H fun x H' => ∃ k, x = .bl k ∧ QT k H') : tB te σ H QT := q
theorem w_bl {k : Bool} {P : Bool → Prop} (q : P k) : ∃ c, V.bl k = .bl c ∧ P c := ⟨k, rfl, q⟩
theorem w_and (q : tt σ H fun c H1 => if c = true then tu σ H1 QT else QT false H1) : tAnd tt tu σ H QT := q
theorem w_or (q : tt σ H fun c H1 => if c = true then QT true H1 else tu σ H1 QT) : tOr tt tu σ H QT := q
theorem w_not (q : tt σ H fun c H1 => QT (!c) H1) : tNot tt σ H QT := q
theorem w_andV (q : ta σ H fun x H1 => ∃ c, x = .bl c ∧ if c = true then tb σ H1 Q else Q (.bl false) H1) : tAndV ta tb σ H Q := q
theorem w_orV (q : ta σ H fun x H1 => ∃ c, x = .bl c ∧ if c = true then Q (.bl true) H1 else tb σ H1 Q) : tOrV ta tb σ H Q := q
theorem w_notV (q : ta σ H fun x H1 => ∃ c, x = .bl c ∧ Q (.bl (!c)) H1) : tNotV ta σ H Q := q
theorem w_ifE (q : tt σ H fun c H1 => if c = true then ta σ H1 Q else tb σ H1 Q) : tIf tt ta tb σ H Q := q
theorem w_tup (q : as σ H fun xs H1 => xs.length ≤ sizeLine ∧ ∀ p, H1 p = none → atV Q (.ref p) (upd H1 p (.tup xs))) : tTup as σ H Q := q
theorem w_lst (q : as σ H fun xs H1 => xs.length ≤ sizeLine ∧ ∀ p, H1 p = none → atV Q (.ref p) (upd H1 p (.lst xs))) : tLst as σ H Q := q
theorem w_call {sp : Sp} {dvs : List V} {E : XK} (q : as σ H fun vs H1 => sp (vs ++ dvs) H1 Q E) : tCall sp dvs E as σ H Q := q
theorem w_yes (q : QT true H) : tYes σ H QT := q
theorem w_chain {r r' : R2} (q : ta σ H fun x H1 => tb σ H1 fun y H2 => r x y H2 fun z H3 => ∃ k, z = .bl k ∧ (if k = true then tc σ H3 fun w' H4 => r' y w' H4 Q else Q (.bl false) H3)) : tChain r r' ta tb tc σ H Q := q
theorem w_I0 {g : Int → Int → V} (q : Q (g a b) H) : rI0 g (.int a) (.int b) H Q := ⟨a, b, rfl, rfl, q⟩
theorem w_I {C : Int → Int → Prop} {g : Int → Int → V} (c : C a b) (q : Q (g a b) H) : rI C g (.int a) (.int b) H Q := ⟨a, b, rfl, rfl, c, q⟩
theorem w_U {g : Int → V} (q : Q (g a) H) : rU g (.int a) H Q := ⟨a, rfl, q⟩
theorem w_eq (h : scal x y = true) (q : Q (.bl (decide (x = y))) H) : rEq x y H Q := ⟨h, q⟩
theorem w_ne (h : scal x y = true) (q : Q (.bl (!decide (x = y))) H) : rNe x y H Q := ⟨h, q⟩
theorem w_ixL {p : Addr} {xs : List V} (h : SqL K H p xs) (e : atI xs a = some v) (q : Q v H) : rIxL K (.ref p) (.int a) H Q := ⟨p, xs, a, v, rfl, rfl, h, e, q⟩
theorem w_ixT {p : Addr} {xs : List V} (h : SqT K H p xs) (e : atI xs a = some v) (q : Q v H) : rIxT K (.ref p) (.int a) H Q := ⟨p, xs, a, v, rfl, rfl, h, e, q⟩
theorem w_ixS {z : Str} {c : Nat} (h : z.length ≤ sizeLine) (e : atI z.cps.toList a = some c) (q : Q (.str ⟨#[c]⟩) H) : rIxS (.str z) (.int a) H Q := ⟨z, a, c, rfl, rfl, h, e, q⟩
theorem w_len {p : Addr} {xs : List V} (h : SqL K H p xs) (q : Q (.int xs.length) H) : rLen K [.ref p] H Q := ⟨p, xs, rfl, .inl h, q⟩
theorem w_lenT {p : Addr} {xs : List V} (h : SqT K H p xs) (q : Q (.int xs.length) H) : rLen K [.ref p] H Q := ⟨p, xs, rfl, .inr h, q⟩
theorem w_lenS {z : Str} (h : z.length ≤ sizeLine) (q : Q (.int z.length) H) : rLenS [.str z] H Q := ⟨z, rfl, h, q⟩
theorem w_abs (q : Q (.int (if a < 0 then -a else a)) H) : rAbs [.int a] H Q := ⟨a, rfl, q⟩
theorem w_max2 (q : Q (.int (if b > a then b else a)) H) : rMax2 [.int a, .int b] H Q := ⟨a, b, rfl, q⟩
theorem w_min2 (q : Q (.int (if b < a then b else a)) H) : rMin2 [.int a, .int b] H Q := ⟨a, b, rfl, q⟩
theorem w_int1 (q : Q (.int a) H) : rInt1 [.int a] H Q := .inl ⟨a, rfl, q⟩
theorem w_int1b {k : Bool} (q : Q (.int (if k then 1 else 0)) H) : rInt1 [.bl k] H Q := .inr ⟨k, rfl, q⟩
theorem w_listL {p : Addr} {xs : List V} (h : SqL K H p xs) (q : ∀ l, H l = none → atV Q (.ref l) (upd H l (.lst xs))) : rListOf K [.ref p] H Q := ⟨p, xs, rfl, .inl h, q⟩
theorem w_listT {p : Addr} {xs : List V} (h : SqT K H p xs) (q : ∀ l, H l = none → atV Q (.ref l) (upd H l (.lst xs))) : rListOf K [.ref p] H Q := ⟨p, xs, rfl, .inr h, q⟩
theorem w_tupL {p : Addr} {xs : List V} (h : SqL K H p xs) (q : ∀ l, H l = none → atV Q (.ref l) (upd H l (.tup xs))) : rTupOf K [.ref p] H Q := ⟨p, xs, rfl, .inl ⟨h, q⟩⟩
theorem w_tupF {p : Addr} {xs : List V} (h : SqL K H p xs) (q : ∀ l o, H l = none → o.dict = none → atV Q (.ref l) (upd H l (.frz o (.tup xs)))) : rTupF K [.ref p] H Q := ⟨p, xs, rfl, h, q⟩
theorem w_tupT {p : Addr} {xs : List V} (h : SqT K H p xs) (q : Q (.ref p) H) : rTupOf K [.ref p] H Q := ⟨p, xs, rfl, .inr ⟨h, q⟩⟩
theorem w_setL {p : Addr} {xs : List V} {Qs : Hp → Prop} (h : H p = some (.lst xs)) (e : ixN xs.length a = some j) (q : Qs (upd H p (.lst (xs.set j v)))) : rSetL (.ref p) (.int a) v H Qs := ⟨p, xs, a, j, rfl, rfl, h, e, q⟩
theorem w_gsub {to ti : TE} {ts : TSet} {Qs : L2.St → Hp → Prop} (q : to σ H fun o H1 => ti σ H1 fun i H2 => ts o i v H2 fun H3 => Qs σ H3) : gSub to ti ts v σ H Qs := q
theorem w_bm {T : String} {r : V → List V → Hp → VK → Prop} (q : ta σ H fun x H1 => tyV K T x H1 ∧ as σ H1 fun xs H2 => r x xs H2 Q) : tBM K T r ta as σ H Q := q
theorem w_bm0 {T : String} {r : V → List V → Hp → VK → Prop} (q : ta σ H fun x H1 => tyV K T x H1 ∧ r x [] H1 Q) : tBM0 K T r ta σ H Q := q
theorem w_append {p : Addr} {xs : List V} (h : H p = some (.lst xs)) (l : xs.length < sizeLine) (q : Q .non (upd H p (.lst (xs ++ [v])))) : rAppend (.ref p) [v] H Q := ⟨p, xs, v, rfl, rfl, h, l, q⟩
theorem w_cat {p r : Addr} {xs ys : List V} (h : H p = some (.lst xs)) (h2 : H r = some (.lst ys)) (l : xs.length + ys.length ≤ sizeLine) (q : ∀ p, H p = none → atV Q (.ref p) (upd H p (.lst (xs ++ ys)))) : rCat (.ref p) (.ref r) H Q := ⟨p, r, xs, ys, rfl, rfl, h, h2, l, q⟩
theorem w_fld {f : Str} (q : ta σ H fun x H1 => ∃ a C dx fs v, x = .ref a ∧ H1 a = some (.ins C dx fs) ∧ Cls K C ∧ NoAttr K C f ∧ fs.lookup f = some v ∧ Q v H1) : tFld K ta f σ H Q := q
theorem w_sl {r : V → Option Int → Option Int → Hp → VK → Prop} {tl th : TO} (q : te σ H fun x H1 => tl σ H1 fun l H2 => th σ H2 fun u H3 => r x l u H3 Q) : tSl r te tl th σ H Q := q
theorem w_slL {p : Addr} {xs : List V} {lo hi : Option Int} (h : SqL K H p xs) (q : ∀ p, H p = none → atV Q (.ref p) (upd H p (.lst (cutV xs lo hi)))) : rSlL K (.ref p) lo hi H Q := ⟨p, xs, rfl, h, q⟩
theorem w_noPart {Qo : Option Int → Hp → Prop} (q : Qo none H) : tNoPart σ H Qo := q
theorem w_part {Qo : Option Int → Hp → Prop} (q : te σ H fun x H1 => ∃ i, x = .int i ∧ Qo (some i) H1) : tPart te σ H Qo := q
theorem w_isI {P : Int → Prop} (q : P a) : ∃ i, V.int a = .int i ∧ P i := ⟨a, rfl, q⟩
theorem w_revL {K : PySem.W.Frag} (q : te σ H fun x H1 => ∃ a xs, x = .ref a ∧ SqL K H1 a xs ∧ ∀ p, H1 p = none → atV Q (.ref p) (upd H1 p (.lst xs.reverse))) : tRevL K te σ H Q := q
theorem w_isN (q : Q (.bl (decide (x = .non))) H) : rIsN x .non H Q := ⟨rfl, q⟩
theorem w_notN (q : Q (.bl (!decide (x = .non))) H) : rNotN x .non H Q := ⟨rfl, q⟩
theorem w_bits (q : te σ H fun x H1 => ∃ i, x = .int i ∧ Q (.int (Builtin.Int.intBits i : Nat)) H1) : tBits te σ H Q := q
theorem w_gtup {K : PySem.W.Frag} {tg : TGs} {p : Addr} {xs : List V} {k : Nat} {Qs : L2.St → Hp → Prop} (h : SqT K H p xs) (l : xs.length = k) (q : tg xs σ H Qs) : gTup K k tg (.ref p) σ H Qs := ⟨p, xs, rfl, h, l, q⟩
theorem w_gcons {tg : TG} {tr : TGs} {xs : List V} {Qs : L2.St → Hp → Prop} (q : tg v σ H fun σ' H' => tr xs σ' H' Qs) : gCons tg tr (v :: xs) σ H Qs := ⟨v, xs, rfl, q⟩
theorem w_gnil {Qs : L2.St → Hp → Prop} (q : Qs σ H) : gNil [] σ H Qs := ⟨rfl, q⟩
theorem w_for {wi : TI} {g : TG} {tb : TS} (q : wi σ H fun J H1 => ∃ W : Nat → Nat → L2.St → Hp → Prop, (∃ m, W 0 m σ H1) ∧ ∀ i m σ H, W i m σ H →
      (J.stop i H ∧ D.nx σ H) ∨ (J.go i H ∧ ∃ N : L2.St → Hp → Prop, (∀ σ' H', N σ' H' → ∃ m', m' < m ∧ W (i + 1) m' σ' H') ∧ ∀ x H', J.yld i H x H' → g x σ H' fun σ2 H2 => tb { D with nx := N, ct := N, bk := D.nx } σ2 H2)) : tFor wi g tb D σ H := q
theorem w_rng1 {R : It → Hp → Prop} (q : as σ H fun vs H1 => ∃ j : Int, vs = [.int j] ∧ -(2 ^ 62) ≤ j ∧ j < 2 ^ 62 ∧ R (Itr 0 j.toNat) H1) : iRng1 as σ H R := q
theorem w_rng1i {P : Int → Prop} (h0 : -(2 ^ 62) ≤ n) (h1 : n < 2 ^ 62) (q : P n) : ∃ j : Int, [V.int n] = [.int j] ∧ -(2 ^ 62) ≤ j ∧ j < 2 ^ 62 ∧ P j := ⟨n, rfl, h0, h1, q⟩
theorem w_rng2 {R : It → Hp → Prop} (q : as σ H fun vs H1 => ∃ i j : Int, vs = [.int i, .int j] ∧ (-(2 ^ 62) ≤ i ∧ i < 2 ^ 62 ∧ -(2 ^ 62) ≤ j ∧ j < 2 ^ 62) ∧ R (Itr i (j - i).toNat) H1) : iRng2 as σ H R := q
theorem w_rng2i {P : Int → Int → Prop} (h0 : -(2 ^ 62) ≤ n ∧ n < 2 ^ 62 ∧ -(2 ^ 62) ≤ m ∧ m < 2 ^ 62) (q : P n m) : ∃ i j : Int, [V.int n, V.int m] = [.int i, .int j] ∧ (-(2 ^ 62) ≤ i ∧ i < 2 ^ 62 ∧ -(2 ^ 62) ≤ j ∧ j < 2 ^ 62) ∧ P i j := ⟨n, m, rfl, h0, q⟩
theorem w_andsz {xs : List V} {P : Prop} (h : Nat.ble xs.length 100000 = true) (q : P) : xs.length ≤ sizeLine ∧ P := ⟨Nat.le_trans (Nat.le_of_ble_eq_true h) (by decide), q⟩
theorem w_iList {R : It → Hp → Prop} (q : te σ H fun x H1 => ∃ a, x = .ref a ∧ (∃ xs, SqL K H1 a xs) ∧ R (Itl K a) H1) : iList K te σ H R := q
theorem w_iTup {R : It → Hp → Prop} (q : te σ H fun x H1 => ∃ a, x = .ref a ∧ (∃ xs, SqT K H1 a xs) ∧ R (Itt K a) H1) : iTup K te σ H R := q
theorem w_iAt {p : Addr} {P : Addr → Prop} (q : P p) : ∃ a, V.ref p = .ref a ∧ P a := ⟨p, rfl, q⟩
end
theorem w_lc {wi : TI} {g : TG} {tt : TT} {te : TE} {vs : List Nat} {σ : L2.St} {H : Hp} {Q : VK} (q : wi σ H fun J H1 => ∀ D, H1 D = none → ∃ W : Nat → Nat → Hp → Prop, (∃ m, W 0 m (upd H1 D (.lst []))) ∧ ∀ i m H, W i m H →
  (J.stop i H ∧ Q (.ref D) H) ∨ (J.go i H ∧ ∃ Nx : Hp → Prop, (∀ H', Nx H' → ∃ m', m' < m ∧ W (i + 1) m' H') ∧ ∀ x H', J.yld i H x H' → g x (wipe σ vs) H' fun σ2 H2 => wipe σ2 vs = wipe σ vs ∧ tt σ2 H2 fun b H3 =>
    if b = true then te σ2 H3 fun y H4 => ∃ acc, H4 D = some (.lst acc) ∧ acc.length < sizeLine ∧ Nx (upd H4 D (.lst (acc ++ [y]))) else Nx H3)) : tLc wi g tt te vs σ H Q := q
theorem w_iStr {te : TE} {σ : L2.St} {H : Hp} {R : It → Hp → Prop} (q : te σ H fun v H1 => ∃ x, v = .str x ∧ R (Its x) H1) : iStr te σ H R := q
theorem w_isS {z : Str} {P : Str → Prop} (q : P z) : ∃ x, V.str z = .str x ∧ P x := ⟨z, rfl, q⟩
theorem w_iL {K : PySem.W.Frag} {H : Hp} {a : Addr} {xs : List V} {P : Prop} (h : SqL K H a xs) (q : P) : (∃ xs, SqL K H a xs) ∧ P := ⟨⟨xs, h⟩, q⟩
theorem w_iT {K : PySem.W.Frag} {H : Hp} {a : Addr} {xs : List V} {P : Prop} (h : SqT K H a xs) (q : P) : (∃ xs, SqT K H a xs) ∧ P := ⟨⟨xs, h⟩, q⟩
theorem w_leS {x y : Str} {H : Hp} {Q : VK} (q : Q (.bl (!decide (y.cps.toList < x.cps.toList))) H) : rLeS (.str x) (.str y) H Q := ⟨x, y, rfl, rfl, q⟩
theorem w_all {K : PySem.W.Frag} {H : Hp} {Q : VK} {a : Addr} {bs : List Bool} (h : SqL K H a (bs.map V.bl)) (q : Q (.bl (bs.all id)) H) : rAll K [.ref a] H Q := ⟨a, bs, rfl, h, q⟩
theorem w_ord {H : Hp} {Q : VK} {c : Nat} (q : Q (.int (c : Int)) H) : rOrd [.str ⟨#[c]⟩] H Q := ⟨_, rfl, rfl, q⟩
theorem w_nx {N : L2.St → Hp → Prop} {rt : VK} {bk ct : L2.St → Hp → Prop} {σ : L2.St} {H : Hp} (q : N σ H) : Ends.nx ⟨N, rt, bk, ct⟩ σ H := q
theorem w_rt {N : L2.St → Hp → Prop} {rt : VK} {bk ct : L2.St → Hp → Prop} {v : V} {H : Hp} (q : rt v H) : Ends.rt ⟨N, rt, bk, ct⟩ v H := q
theorem w_ct {N : L2.St → Hp → Prop} {rt : VK} {bk ct : L2.St → Hp → Prop} {σ : L2.St} {H : Hp} (q : ct σ H) : Ends.ct ⟨N, rt, bk, ct⟩ σ H := q
theorem w_bk {N : L2.St → Hp → Prop} {rt : VK} {bk ct : L2.St → Hp → Prop} {σ : L2.St} {H : Hp} (q : bk σ H) : Ends.bk ⟨N, rt, bk, ct⟩ σ H := q
theorem atI0 {v : V} {xs : List V} : atI (v :: xs) 0 = some v := atI_nat (j := 0) rfl
theorem sq {K : PySem.W.Frag} {H : Hp} {a : Addr} {xs : List V} (h : H a = some (.lst xs)) : SqL K H a xs := .inl (.inl h)
theorem sqt {K : PySem.W.Frag} {H : Hp} {a : Addr} {xs : List V} (h : H a = some (.tup xs)) : SqT K H a xs := .inl (.inl h)
theorem upd_new {H : Hp} {p q : Addr} {o u : HO} (n : H p = none) (h : H q = some u) : upd H p o q = some u := (upd_ne (ne_of_none h n)).trans h
theorem ite_d {p : Prop} [Decidable p] {A B : Prop} (h1 : p → A) (h2 : ¬ p → B) : if decide p = true then A else B := by
  by_cases h : p
  · rw [if_pos (decide_eq_true h)]; exact h1 h
  · rw [if_neg (by rw [decide_eq_false h]; decide)]; exact h2 h
theorem ite_nd {p : Prop} [Decidable p] {A B : Prop} (h1 : ¬ p → A) (h2 : p → B) : if (!decide p) = true then A else B := by
  by_cases h : p
  · rw [if_neg (by rw [decide_eq_true h]; decide)]; exact h2 h
  · rw [if_pos (by rw [decide_eq_false h]; rfl)]; exact h1 h
theorem wmul {i j : Int} {a b : Nat} (ha : i.natAbs < 2 ^ a) (hb : j.natAbs < 2 ^ b) (h : a + b ≤ 900000) : CMulW i j :=
  wide_mul (a := a + 1) (b := b + 1) (Nat.lt_trans ha (Nat.pow_lt_pow_right (by decide) (Nat.lt_succ_self _))) (Nat.lt_trans hb (Nat.pow_lt_pow_right (by decide) (Nat.lt_succ_self _))) (Nat.succ_pos _) (Nat.succ_pos _) (by omega)
theorem wdiv {i j : Int} {b : Nat} (h : 0 < j) (hb : j.natAbs < 2 ^ b) (h9 : b ≤ 8000) : CDivW i j :=
  wide_div (b := b + 1) h (Nat.lt_trans hb (Nat.pow_lt_pow_right (by decide) (Nat.lt_succ_self _))) (Nat.succ_pos _) (by omega)

/-- products: one side small, or both of bounded bits -/
def CMx (i j : Int) : Prop := CMul i j ∨ CMulW i j
theorem oMul {X : Cx} : OpR X (binaryOp .Mult) (rI CMx fun i j => .int (i * j)) := opI fun _ _ _ _ _ _ _ hc q => hc.elim (fun h => mul_int q h.ok) (fun h => mul_int q h.ok)
theorem mx_l {i j : Int} (h : -(2 ^ 64) < i ∧ i < 2 ^ 64) : CMx i j := .inl (.inl h)
theorem mx_r {i j : Int} (h : -(2 ^ 64) < j ∧ j < 2 ^ 64) : CMx i j := .inl (.inr h)
theorem mx_w {i j : Int} {a b : Nat} (ha : i.natAbs < 2 ^ a) (hb : j.natAbs < 2 ^ b) (h : a + b ≤ 900000) : CMx i j := .inr (wmul ha hb h)
theorem wdiv60 {i j : Int} (h : 0 < j) (hb : j < 2 ^ 60) : CDivW i j := wdiv (b := 60) h (by omega) (by decide)

/-! ### names that are still the built-ins -/
structure Bt (mg : Str → Option Value) : Prop where
  len : mg "len" = none
  int : mg "int" = none
  abs : mg "abs" = none
  max : mg "max" = none
  min : mg "min" = none
  range : mg "range" = none
  isinstance : mg "isinstance" = none
  list : mg "list" = none
  tuple : mg "tuple" = none
  str : mg "str" = none
  bool : mg "bool" = none
  ord : mg "ord" = none
  all : mg "all" = none
  enumerate : mg "enumerate" = none
  zip : mg "zip" = none

/-! ### the purse -/
/-- a list of three ints at a: what is left of a great number, a seed, a count up to c -/
def Purse (H : Hp) (a : Addr) (c : Int) : Prop := ∃ x y z : Int, H a = some (.lst [.int x, .int y, .int z]) ∧ 0 ≤ x ∧ x < 2 ^ 1600 ∧ 0 ≤ y ∧ y < 2 ^ 31 ∧ 0 ≤ z ∧ z ≤ c
/-- all but what stands at a is kept -/
def Keep (a : Addr) (H H' : Hp) : Prop := ∀ b o, b ≠ a → H b = some o → H' b = some o
theorem Keep.refl {a : Addr} {H : Hp} : Keep a H H := fun _ _ _ h => h
theorem Keep.trans {a : Addr} {H H1 H2 : Hp} (k : Keep a H H1) (l : Keep a H1 H2) : Keep a H H2 := fun b o n h => l b o n (k b o n h)
theorem Keep.of {a : Addr} {H H' : Hp} (s : Same H H') : Keep a H H' := fun b o _ h => s b o h
theorem Keep.at_ {a b : Addr} {o : HO} {H H' : Hp} (k : Keep a H H') (n : b ≠ a) (h : H b = some o) : H' b = some o := k b o n h
theorem Same.new {H : Hp} {p : Addr} {o : HO} (n : H p = none) : Same H (upd H p o) := fun b u h => upd_new n h
theorem Purse.same {H H' : Hp} {a : Addr} {c : Int} (p : Purse H a c) (s : Same H H') : Purse H' a c := by
  obtain ⟨x, y, z, h, r⟩ := p
  exact ⟨x, y, z, s _ _ h, r⟩
theorem Purse.le {H : Hp} {a : Addr} {c d : Int} (p : Purse H a c) (h : c ≤ d) : Purse H a d := by
  obtain ⟨x, y, z, h0, h1, h2, h3, h4, h5, h6⟩ := p
  exact ⟨x, y, z, h0, h1, h2, h3, h4, h5, by omega⟩

/-! ### defs of the text by name -/
section
variable {P : Program} {w : World} {K : PySem.W.Frag} {mg : Str → Option Value} {base : Heap}
/-- a def of the module without defaults -/
structure Dn (K : PySem.W.Frag) (mg : Str → Option Value) (x : Str) (st : Stmt) (ps : List Str) : Prop where
  ex : ∃ (f : Addr) (fd : FuncData), L2.Fun K x x st f fd ∧ mg x = some (.ref f) ∧ Binds K fd ps []
theorem Dn.cal {x : Str} {st : Stmt} {N ps : List Str} {k : Nat} {sp : Sp} (F : Dn K mg x st ps) (S : FnScope N ps (defScope st)) (len : ∀ vs H Q E, sp vs H Q E → vs.length = ps.length)
    (hbody : ∀ (f : Addr) (cdv : Value) (A : Around) (outer : List Env) (s : Shared) (H : Hp) (vs : List V) (Q : VK) (E : XK), Room k (A.deeper (envOfC x (defScope st) s.heap.objs.size f cdv)) → sp vs H Q E →
      ∃ t, PSs (cxOf CX0 P w K mg base N x (defScope st) f cdv A outer s H E).nox (defBody st) t ∧ t { nx := fun _ H' => Q .non H', rt := Q } (start N vs) H) : C8.Cal P w K mg base (k + 1) x sp [] := by
  obtain ⟨f, fd, F1, m, b⟩ := F.ex
  exact ⟨f, fd, ps, [], F1.ok S len (fun cdv A outer s H vs Q E hr h => hbody f cdv A outer s H vs Q E hr h), m, F1.kp, b, .nil⟩
end

theorem atI_ints {ns : List Int} {i : Int} (h0 : 0 ≤ i) (h1 : i < (ns.map V.int).length) : atI (ns.map V.int) i = some (.int (ns.getD i.toNat 0)) := by
  obtain ⟨j, rfl⟩ := Int.eq_ofNat_of_zero_le h0
  rw [List.length_map] at h1
  have h2 : j < ns.length := by omega
  refine atI_nat ?_
  rw [List.getElem?_map, List.getElem?_eq_getElem h2]
  simp [List.getD, h2]
theorem atI_get {xs : List V} {i : Int} {v : V} (h0 : 0 ≤ i) (h : xs[i.toNat]? = some v) : atI xs i = some v := by
  obtain ⟨j, rfl⟩ := Int.eq_ofNat_of_zero_le h0
  exact atI_nat h
theorem Keep.upd {a : Addr} {H H' : Hp} {o : HO} (k : Keep a H H') : Keep a H (upd H' a o) := fun b u n h => by rw [upd_ne n]; exact k b u n h
/-! ### loops -/
section
variable {c : TT} {tb : TS} {D : Ends} {σ : L2.St} {H : Hp}
theorem while_go (Pv : L2.St → Hp → Prop) (μ : L2.St → Hp → Nat) (h0 : Pv σ H) (hs : ∀ σ H, Pv σ H → c σ H fun b H1 => if b = true then (∃ N : L2.St → Hp → Prop, (∀ σ' H', N σ' H' → ∃ m', m' < μ σ H ∧ (m' = μ σ' H' ∧ Pv σ' H')) ∧
      tb { D with nx := N, ct := N, bk := D.nx } σ H1) else D.nx σ H1) : tWhile c tb D σ H := ⟨fun m σ H => m = μ σ H ∧ Pv σ H, ⟨_, rfl, h0⟩, fun m σ H h => by
  obtain ⟨e, p⟩ := h
  subst e
  exact hs σ H p⟩
theorem while_n {Pv : L2.St → Hp → Prop} {μ : L2.St → Hp → Nat} {k : Nat} (q : tb { D with nx := fun σ' H' => μ σ' H' < k ∧ Pv σ' H', ct := fun σ' H' => μ σ' H' < k ∧ Pv σ' H', bk := D.nx } σ H) :
    ∃ N : L2.St → Hp → Prop, (∀ σ' H', N σ' H' → ∃ m', m' < k ∧ (m' = μ σ' H' ∧ Pv σ' H')) ∧ tb { D with nx := N, ct := N, bk := D.nx } σ H := ⟨_, fun _ _ h => ⟨_, h.1, rfl, h.2⟩, q⟩
end
/-! ### isinstance -/
theorem w_isi {K : PySem.W.Frag} {H : Hp} {Q : VK} {x : V} {t : Value} {n : String} {b : Bool} (ty : TyX K H x t) (k : PySem.W.kitOne K t (.type n) = some b) (q : Q (.bl b) H) : rIsi K [x, .ty n] H Q := ⟨x, .ty n, t, .type n, b, rfl, .ty n, ty, k, q⟩
theorem w_isiC {K : PySem.W.Frag} {H : Hp} {Q : VK} {x : V} {t : Value} {C : Addr} {b : Bool} (ty : TyX K H x t) (k : PySem.W.kitOne K t (.ref C) = some b) (q : Q (.bl b) H) : rIsi K [x, .ref C] H Q := ⟨x, .ref C, t, .ref C, b, rfl, .own C, ty, k, q⟩
theorem w_isi2 {K : PySem.W.Frag} {H : Hp} {Q : VK} {x : V} {t : Value} {m n : String} {p : Addr} {b : Bool} (h : H p = some (.tup [.ty m, .ty n])) (ty : TyX K H x t) (k : PySem.W.kitAny K t [.type m, .type n] = some b) (q : Q (.bl b) H) : rIsiT K [x, .ref p] H Q :=
  ⟨x, p, _, t, _, b, rfl, h, .cons (.ty m) (.cons (.ty n) .nil), ty, k, q⟩
theorem ty_int {K : PySem.W.Frag} {H : Hp} (i : Int) : TyX K H (.int i) (.type "int") := .base (.int i)
def spIsInt (K : PySem.W.Frag) : Sp := fun vs H Q _ => ∃ (v : V) (t : Value) (b1 b2 : Bool), vs = [v] ∧ TyX K H v t ∧ PySem.W.kitOne K t (.type "int") = some b1 ∧ PySem.W.kitOne K t (.type "bool") = some b2 ∧ Q (.bl (b1 && !b2)) H
theorem use_isInt {K : PySem.W.Frag} {H : Hp} {Q : VK} {E : XK} {i : Int} (q : Q (.bl true) H) : spIsInt K ([.int i] ++ []) H Q E := ⟨.int i, _, true, false, rfl, ty_int i, kit_ty (by decide +kernel), kit_ty (by decide +kernel), q⟩
/-! ### numbers -/
def spRaised : Sp := fun vs H Q _ => ∃ (f p : Int) (b : Nat), vs = [.int f, .int p] ∧ 0 ≤ p ∧ p < 2 ^ 40 ∧ f.natAbs < 2 ^ b ∧ b * p.toNat + b ≤ 100000 ∧ Q (.int (f ^ p.toNat)) H
def spGcd : Sp := fun vs H Q _ => ∃ a b : Int, vs = [.int a, .int b] ∧ Q (.int (Int.gcd a b)) H
def Pr (n : Int) : Prop := 1 < n ∧ ∀ d : Int, 2 ≤ d → d * d ≤ n → n % d ≠ 0
def spPrime : Sp := fun vs H Q _ => ∃ n : Int, vs = [.int n] ∧ n < 2 ^ 60 ∧ ∀ b : Bool, (b = true ↔ Pr n) → Q (.bl b) H
theorem natAbs_pow_lt {f : Int} {b : Nat} (h : f.natAbs < 2 ^ b) (n : Nat) : (f ^ n).natAbs < 2 ^ (b * n + 1) := by
  rw [Int.natAbs_pow]
  have h1 : f.natAbs ^ n ≤ (2 ^ b) ^ n := Nat.pow_le_pow_left (Nat.le_of_lt h) n
  rw [← Nat.pow_mul] at h1
  exact Nat.lt_of_le_of_lt h1 (Nat.pow_lt_pow_right (by decide) (Nat.lt_succ_self _))
/-! ### comprehensions that leave the heap as it was -/
section
variable {J : It} {G : Hp → Prop} {te : TE} {vs : List Nat} {σ : L2.St} {H : Hp} {D : Addr} {Qd : Hp → Prop} {j : Nat}
theorem lc_pure (xs ys : List V) (w : Walk J xs.length G (YAt xs)) (hD : H D = none) (hG : ∀ H', Same H H' → G H') (hl : ys.length = xs.length) (sz : ys.length ≤ 100000)
    (wp : ∀ v, wipe ((wipe σ vs).set j v) vs = wipe σ vs)
    (step : ∀ (i : Nat) (x y : V) (H' : Hp), xs[i]? = some x → ys[i]? = some y → Same H H' → ∀ Q' : VK, (∀ H'', Same H' H'' → Q' y H'') → te ((wipe σ vs).set j (some x)) H' Q')
    (q : ∀ H', Same H H' → H' D = some (.lst ys) → Qd H') :
    ∃ W : Nat → Nat → Hp → Prop, (∃ m, W 0 m (upd H D (.lst []))) ∧ ∀ i m H, W i m H →
      (J.stop i H ∧ Qd H) ∨ (J.go i H ∧ ∃ Nx : Hp → Prop, (∀ H', Nx H' → ∃ m', m' < m ∧ W (i + 1) m' H') ∧ ∀ x H', J.yld i H x H' → gName j x (wipe σ vs) H' fun σ2 H2 => wipe σ2 vs = wipe σ vs ∧ tYes σ2 H2 fun b H3 =>
        if b = true then te σ2 H3 fun y H4 => ∃ acc, H4 D = some (.lst acc) ∧ acc.length < sizeLine ∧ Nx (upd H4 D (.lst (acc ++ [y]))) else Nx H3) := by
  refine lc_it w (fun i H' => H' D = some (.lst (ys.take i)) ∧ Same H H') ⟨upd_same, Same.new hD⟩ (fun i H' _ h => hG H' h.2) ?_ ?_
  · rintro i x H1 H' hi ⟨h1, h2⟩ ⟨rfl, hx⟩
    refine ⟨wp _, w_yes ?_⟩
    rw [if_pos rfl]
    have hi' : i < ys.length := by omega
    refine step i x ys[i] H' hx (by simp [hi']) h2 _ fun H'' h3 => ?_
    refine ⟨_, h3 _ _ h1, ?_, ?_, ?_⟩
    · rw [List.length_take]
      have : (100000 : Nat) < sizeLine := by decide
      omega
    · rw [upd_same, List.take_succ_eq_append_getElem hi']
    · exact fun b o e => by
        rw [upd_ne (ne_of_none e hD)]
        exact h3 _ _ (h2 _ _ e)
  · rintro H' ⟨h1, h2⟩
    refine q H' h2 ?_
    rw [h1, ← hl, List.take_length]
end
/-! ### a text walked -/
theorem walk_strY {z : Str} : Walk (Its z) (z.cps.toList.map fun c => V.str ⟨#[c]⟩).length (fun _ => True) (YAt (z.cps.toList.map fun c => V.str ⟨#[c]⟩)) := by
  have h := walk_str (z := z)
  have e : (z.cps.toList.map fun c => V.str ⟨#[c]⟩).length = z.cps.size := by simp
  rw [e]
  refine h.mono (fun _ h => h) (fun i H x H' hi _ y => ?_)
  obtain ⟨rfl, c, hc, rfl⟩ := y
  refine ⟨rfl, ?_⟩
  rw [List.getElem?_map, Array.getElem?_toList, hc]
  rfl
/-! ### texts -/
/-- a text's value and its letters -/
inductive TextAt (H : Hp) : V → List Int → Prop where
  | str (z : Str) (h : ∀ c ∈ z.cps.toList, 32 ≤ c ∧ c ≤ 126) (l : z.length ≤ 100000) : TextAt H (.str z) (z.cps.toList.map Int.ofNat)
  | lst (a : Addr) (ls : List Int) (h : H a = some (.lst (ls.map V.int))) (l : ls.length ≤ 100000) : TextAt H (.ref a) ls
  | tup (a : Addr) (ls : List Int) (h : H a = some (.tup (ls.map V.int))) (l : ls.length ≤ 100000) : TextAt H (.ref a) ls
theorem TextAt.same {H H' : Hp} {v : V} {ls : List Int} (t : TextAt H v ls) (s : Same H H') : TextAt H' v ls := by
  cases t with
  | str z h l => exact .str z h l
  | lst a _ h l => exact .lst a _ (s _ _ h) l
  | tup a _ h l => exact .tup a _ (s _ _ h) l
theorem TextAt.len {H : Hp} {v : V} {ls : List Int} (t : TextAt H v ls) : ls.length ≤ 100000 := by
  cases t with
  | str z h l => rw [List.length_map]; exact l
  | lst a _ h l => exact l
  | tup a _ h l => exact l
theorem lt1 {a b : Nat} : (([a] : List Nat) < [b]) ↔ a < b := by simp [List.cons_lt_cons_iff]
theorem sign_lo {c : Nat} (h : 32 ≤ c) : decide ((Str.mk #[c]).cps.toList < (Str.ofString " ").cps.toList) = false := decide_eq_false fun z => by
  have : c < 32 := lt1.mp z
  omega
theorem sign_hi {c : Nat} (h : c ≤ 126) : decide ((Str.ofString "~").cps.toList < (Str.mk #[c]).cps.toList) = false := decide_eq_false fun z => by
  have : 126 < c := lt1.mp z
  omega
theorem all_true {α : Type} (l : List α) : (l.map fun _ => true).all id = true := by
  induction l with
  | nil => rfl
  | cons a r ih => rw [List.map_cons, List.all_cons, ih]; rfl
theorem get_map {α β : Type} {f : α → β} {l : List α} {i : Nat} {y : β} (h : (l.map f)[i]? = some y) : ∃ x, l[i]? = some x ∧ f x = y := by
  rw [List.getElem?_map] at h
  cases e : l[i]? with
  | none => rw [e] at h; cases h
  | some x => rw [e] at h; exact ⟨x, rfl, Option.some.inj h⟩
def spIsText : Sp := fun vs H Q _ => ∃ (v : V) (ls : List Int), vs = [v] ∧ TextAt H v ls ∧ ∀ H', Same H H' → Q (.bl true) H'
def spRead : Sp := fun vs H Q _ => ∃ (v : V) (ls : List Int), vs = [v] ∧ TextAt H v ls ∧ ∀ H' t, Same H H' → H' t = some (.tup (ls.map V.int)) → Q (.ref t) H'
theorem kitA {K : PySem.W.Frag} {t m n : String} {b : Bool} (h : (match kitB t m with | some true => some true | some false => (match kitB t n with | some true => some true | some false => some false | none => none) | none => none) = some b) : PySem.W.kitAny K (.type t) [.type m, .type n] = some b := h
/-! ### moduli, markings, ways -/
def num (ps : List (Int × Int)) : Int := ps.foldl (fun n p => n * p.1 ^ p.2.toNat) 1
def Asc : Int → List (Int × Int) → Prop
  | _, [] => True
  | l, q :: r => l < q.1 ∧ 0 < q.2 ∧ Pr q.1 ∧ Asc q.1 r
def Small (ps : List (Int × Int)) : Prop := (∀ q ∈ ps, 0 < q.1 ∧ q.1 < 1024 ∧ 0 < q.2 ∧ q.2 ≤ 100) ∧ ps.length ≤ 64
theorem num_snoc (ps : List (Int × Int)) (q : Int × Int) : num (ps ++ [q]) = num ps * q.1 ^ q.2.toNat := by
  unfold num
  rw [List.foldl_append]
  rfl
theorem num_take {ps : List (Int × Int)} {i : Nat} {q : Int × Int} (h : ps[i]? = some q) : num (ps.take (i + 1)) = num (ps.take i) * q.1 ^ q.2.toNat := by
  obtain ⟨hi, e⟩ := List.getElem?_eq_some_iff.mp h
  rw [List.take_succ_eq_append_getElem hi, num_snoc, e]
theorem num_bound {ps : List (Int × Int)} (h : Small ps) : ∀ i, i ≤ ps.length → 0 < num (ps.take i) ∧ (num (ps.take i)).natAbs < 2 ^ (1010 * i + 1)
  | 0, _ => by
    rw [List.take_zero]
    exact ⟨by decide, by decide⟩
  | i + 1, hi => by
    have ih := num_bound h i (by omega)
    have hlt : i < ps.length := by omega
    have hq := h.1 ps[i] (List.getElem_mem hlt)
    rw [num_take (q := ps[i]) (by simp [hlt])]
    have h1 : ((ps[i].1) ^ (ps[i].2.toNat)).natAbs < 2 ^ (10 * ps[i].2.toNat + 1) := natAbs_pow_lt (b := 10) (by show ps[i].1.natAbs < 1024; omega) _
    refine ⟨Int.mul_pos ih.1 (Int.pow_pos hq.1), ?_⟩
    have h2 := wide_lt ih.2 h1
    refine Nat.lt_of_lt_of_le h2 (Nat.pow_le_pow_right (by decide) ?_)
    omega
theorem num_pos {ps : List (Int × Int)} (h : Small ps) : 0 < num ps := by
  have := (num_bound h ps.length (Nat.le_refl _)).1
  rwa [List.take_length] at this
theorem num_lt {ps : List (Int × Int)} (h : Small ps) : (num ps).natAbs < 2 ^ 70000 := by
  have := (num_bound h ps.length (Nat.le_refl _)).2
  rw [List.take_length] at this
  refine Nat.lt_of_lt_of_le this (Nat.pow_le_pow_right (by decide) ?_)
  have := h.2
  omega
theorem Asc.at_ : ∀ {l : Int} {ps : List (Int × Int)} {i : Nat} {q : Int × Int}, Asc l ps → ps[i]? = some q → ((ps.take i).getLast?.map (·.1)).getD l < q.1 ∧ 0 < q.2 ∧ Pr q.1
  | l, [], i, q, _, h => by simp at h
  | l, r :: ps, 0, q, a, h => by
    have e : r = q := by simpa using h
    subst e
    exact ⟨a.1, a.2.1, a.2.2.1⟩
  | l, r :: ps, i + 1, q, a, h => by
    have ih := Asc.at_ (i := i) a.2.2.2 (by simpa using h)
    refine ⟨?_, ih.2⟩
    have e := ih.1
    rw [List.take_succ_cons, List.getLast?_cons]
    cases hh : (ps.take i).getLast? with
    | none => rw [hh] at e; exact e
    | some z => rw [hh] at e; exact e
def Tp (H : Hp) (p : Int × Int) (t : Addr) : Prop := H t = some (.tup [.int p.1, .int p.2])
theorem paired_get {α β : Type} {R : α → β → Prop} : ∀ {xs : List α} {ys : List β} {i : Nat} {y : β}, Paired R xs ys → ys[i]? = some y → ∃ x, xs[i]? = some x ∧ R x y
  | _, _, _, _, .nil, h => by simp at h
  | _, _, 0, _, .cons r _, h => by
    have e := Option.some.inj (by simpa using h)
    subst e
    exact ⟨_, rfl, r⟩
  | _, _, i + 1, _, .cons _ t, h => by
    obtain ⟨x, h1, h2⟩ := paired_get (i := i) t (by simpa using h)
    exact ⟨x, by simpa using h1, h2⟩
theorem paired_imp {α β : Type} {R S : α → β → Prop} (h : ∀ x y, R x y → S x y) : ∀ {xs : List α} {ys : List β}, Paired R xs ys → Paired S xs ys
  | _, _, .nil => .nil
  | _, _, .cons r t => .cons (h _ _ r) (paired_imp h t)
theorem lk0 {f : Str} {v : V} {r : List (Str × V)} : List.lookup f ((f, v) :: r) = some v := by simp [List.lookup]
theorem lkS {f g : Str} {u : V} {r : List (Str × V)} (h : f ≠ g) : List.lookup f ((g, u) :: r) = List.lookup f r := by
  rw [List.lookup]
  have e : (f == g) = false := by simpa using h
  rw [e]
theorem putS {f g : Str} {u v : V} {r : List (Str × V)} (h : g ≠ f) : putF f v ((g, u) :: r) = (g, u) :: putF f v r := by
  unfold putF
  rw [if_neg h]
  cases r <;> rfl
theorem put0 {f : Str} {v : V} : putF f v [] = [(f, v)] := rfl
/-- a class whose instances are plain -/
structure ClsF (K : PySem.W.Frag) (C : Addr) : Prop where
  cl : Cls K C
  ha : PySem.W.findIn K (.ref C) "__class__" = some (some (.builtin "object.__class__"))
  hn : PySem.W.specialIn K (.builtin "object.__class__") "__get__" = some (some (.builtin "getset_descriptor.__get__"))
  htk : PySem.W.takesIn K (.builtin "object.__class__") = some true
  hm : PySem.W.mroIn K C (.type "object") = some true
theorem ClsF.ty {K : PySem.W.Frag} {C : Addr} (c : ClsF K C) {H : Hp} {a dx : Addr} {fs : List (Str × V)} (h : H a = some (.ins C dx fs)) : TyX K H (.ref a) (.ref C) := .base (.ins h c.cl c.ha c.hn c.htk c.hm)
theorem kit_own {K : PySem.W.Frag} {C : Addr} : PySem.W.kitOne K (.ref C) (.ref C) = some true := by
  unfold PySem.W.kitOne
  rw [if_pos (by simp)]
/-- the addresses of the three classes -/
structure CA where
  md : Addr
  kg : Addr
  wy : Addr
structure Kx (K : PySem.W.Frag) (mg : Str → Option Value) (c : CA) : Prop where
  md : ClsF K c.md
  kg : ClsF K c.kg
  wy : ClsF K c.wy
  mgMd : mg "Modulus" = some (.ref c.md)
  mgMk : mg "Marking" = some (.ref c.kg)
  mgWy : mg "Way" = some (.ref c.wy)
  number : NoAttr K c.md "number"
  factors : NoAttr K c.md "factors"
  low : NoAttr K c.kg "low"
  shift : NoAttr K c.kg "shift"
  lead : NoAttr K c.kg "lead"
  marking : NoAttr K c.wy "marking"
  modulus : NoAttr K c.wy "modulus"
  wnumber : NoAttr K c.wy "number"
  base : NoAttr K c.wy "base"
def mdF (n : Int) (t : Addr) : List (Str × V) := [("number", .int n), ("factors", .ref t)]
def mkF (low : Bool) (shift : Int) (lead : Bool) : List (Str × V) := [("low", .bl low), ("shift", .int shift), ("lead", .bl lead)]
def wyF (k m : Addr) (n b : Int) : List (Str × V) := [("marking", .ref k), ("modulus", .ref m), ("number", .int n), ("base", .int b)]
/-- a tuple, known to have no dict of its own -/
def TupF (H : Hp) (t : Addr) (xs : List V) : Prop := ∃ o : Obj, o.dict = none ∧ H t = some (.frz o (.tup xs))
theorem TupF.same {H H' : Hp} {t : Addr} {xs : List V} (h : TupF H t xs) (s : Same H H') : TupF H' t xs := by
  obtain ⟨o, d, e⟩ := h
  exact ⟨o, d, s _ _ e⟩
theorem TupF.sqt {K : PySem.W.Frag} {H : Hp} {t : Addr} {xs : List V} (h : TupF H t xs) : SqT K H t xs := by
  obtain ⟨o, d, e⟩ := h
  exact .inl (.inr ⟨o, e⟩)
def ModAt (c : CA) (H : Hp) (m : Addr) (ps : List (Int × Int)) : Prop := ∃ (dx t : Addr) (ts : List Addr), H m = some (.ins c.md dx (mdF (num ps) t)) ∧ TupF H t (ts.map V.ref) ∧ Paired (Tp H) ps ts ∧ Asc 0 ps ∧ Small ps
def MkAt (c : CA) (H : Hp) (k : Addr) (low : Bool) (shift : Int) (lead : Bool) : Prop := ∃ dx : Addr, H k = some (.ins c.kg dx (mkF low shift lead))
/-- how letters are added up -/
structure Sty where
  low : Bool
  shift : Int
  lead : Bool
def WayAt (c : CA) (H : Hp) (a : Addr) (b : Int) (ps : List (Int × Int)) (y : Sty) : Prop := ∃ (dx m k : Addr), H a = some (.ins c.wy dx (wyF k m (num ps) b)) ∧ ModAt c H m ps ∧ MkAt c H k y.low y.shift y.lead ∧ 0 ≤ b ∧ b < num ps
theorem ModAt.same {c : CA} {H H' : Hp} {m : Addr} {ps : List (Int × Int)} (h : ModAt c H m ps) (s : Same H H') : ModAt c H' m ps := by
  obtain ⟨dx, t, ts, h1, h2, h3, h4⟩ := h
  exact ⟨dx, t, ts, s _ _ h1, h2.same s, paired_imp (fun _ _ z => s _ _ z) h3, h4⟩
theorem MkAt.same {c : CA} {H H' : Hp} {k : Addr} {l : Bool} {s : Int} {d : Bool} (h : MkAt c H k l s d) (e : Same H H') : MkAt c H' k l s d := by
  obtain ⟨dx, h1⟩ := h
  exact ⟨dx, e _ _ h1⟩
theorem WayAt.same {c : CA} {H H' : Hp} {a : Addr} {b : Int} {ps : List (Int × Int)} {y : Sty} (h : WayAt c H a b ps y) (s : Same H H') : WayAt c H' a b ps y := by
  obtain ⟨dx, m, k, h1, h2, h3, h4⟩ := h
  exact ⟨dx, m, k, s _ _ h1, h2.same s, h3.same s, h4⟩
/-- coefficients of the sum, that of the highest power first -/
def hf (y : Sty) (ls : List Int) : List Int := (if y.lead then 1 else 0) :: (if y.low then (ls.map (· + y.shift)).reverse else ls.map (· + y.shift))
def restAt (cs : List Int) (b n : Int) : Int := cs.foldl (fun f c => (f * b + c) % n) 0
def mark (y : Sty) (b n : Int) (ls : List Int) : Int := restAt (hf y ls) b n
section
variable {σ : L2.St} {H : Hp} {D : Ends} {Q : VK} {K : PySem.W.Frag} {ta tv : TE} {f : Str} {x C dx : Addr} {fs : List (Str × V)} {v y : V}
theorem w_fldi {P : V → Prop} (h : H x = some (.ins C dx fs)) (c : Cls K C) (n : NoAttr K C f) (l : fs.lookup f = some v) (q : P v) : ∃ a C dx fs v, V.ref x = .ref a ∧ H a = some (.ins C dx fs) ∧ Cls K C ∧ NoAttr K C f ∧ fs.lookup f = some v ∧ P v := ⟨x, C, dx, fs, v, rfl, h, c, n, l, q⟩
theorem w_sfld (q : tv σ H fun y H1 => ta σ H1 fun x H2 => ∃ a C dx fs, x = .ref a ∧ H2 a = some (.ins C dx fs) ∧ Cls K C ∧ NoAttr K C f ∧ fs.length < 1000 ∧ D.nx σ (upd H2 a (.ins C dx (putF f y fs)))) : sFld K ta tv f D σ H := q
theorem w_sfldi {P : Hp → Prop} (h : H x = some (.ins C dx fs)) (c : Cls K C) (n : NoAttr K C f) (l : fs.length < 1000) (q : P (upd H x (.ins C dx (putF f y fs)))) : ∃ a C dx fs, V.ref x = .ref a ∧ H a = some (.ins C dx fs) ∧ Cls K C ∧ NoAttr K C f ∧ fs.length < 1000 ∧ P (upd H a (.ins C dx (putF f y fs))) :=
  ⟨x, C, dx, fs, rfl, h, c, n, l, q⟩
theorem w_make {sp : Sp} {dvs : List V} {E : XK} {as : TA} (q : as σ H fun vs H1 => ∀ x dx, H1 x = none → H1 dx = none → dx ≠ x → sp (.ref x :: (vs ++ dvs)) (upd (upd H1 dx (.own x)) x (.ins C dx [])) (fun v H2 => v = .non ∧ Q (.ref x) H2) E) : tMake C sp dvs E as σ H Q := q
theorem w_meth {m : Str} {sp : Sp} {dvs : List V} {E : XK} {as : TA} (q : ta σ H fun x H1 => ∃ a dx fs, x = .ref a ∧ H1 a = some (.ins C dx fs) ∧ fs.lookup m = none ∧ as σ H1 fun vs H2 => sp (x :: (vs ++ dvs)) H2 Q E) : tMeth C m sp dvs E ta as σ H Q := q
theorem w_methi {m : Str} {P : Addr → Prop} (h : H x = some (.ins C dx fs)) (l : fs.lookup m = none) (q : P x) : ∃ a dx fs, V.ref x = .ref a ∧ H a = some (.ins C dx fs) ∧ fs.lookup m = none ∧ P a := ⟨x, dx, fs, rfl, h, l, q⟩
theorem w_iEnum {K : PySem.W.Frag} {as : TA} {R : It → Hp → Prop} (q : as σ H fun vs H1 => ∃ a xs, vs = [.ref a] ∧ SqL K H1 a xs ∧ R (Ite K a) H1) : iEnum K as σ H R := q
theorem w_enumi {K : PySem.W.Frag} {a : Addr} {xs : List V} {P : Addr → Prop} (h : SqL K H a xs) (q : P a) : ∃ a' xs', [V.ref a] = [.ref a'] ∧ SqL K H a' xs' ∧ P a' := ⟨a, xs, rfl, h, q⟩
end
theorem mk_same {H H' : Hp} {x dx C : Addr} (nx : H x = none) (nd : H dx = none) (k : ∀ b o, b ≠ x → (upd (upd H dx (.own x)) x (.ins C dx [])) b = some o → H' b = some o) : Same H H' := fun b o e =>
  k b o (ne_of_none e nx) (by rw [upd_ne (ne_of_none e nx), upd_ne (ne_of_none e nd)]; exact e)
/-- __init__ of an own class by its body -/
theorem fnD_ok {P : Program} {w : World} {K : PySem.W.Frag} {mg : Str → Option Value} {base : Heap} {x qual : Str} {st : Stmt} {dvs : List V} {kws : List (Str × V)} {f : Addr} {fd : FuncData} {N ps : List Str} {k : Nat} {sp : Sp}
    (F : FunD K x qual (defArgs st) (defBody st) (defScope st) dvs kws f fd) (S : FnScope N ps (defScope st)) (len : ∀ vs H Q E, sp vs H Q E → vs.length = ps.length)
    (hbody : ∀ (cdv : Value) (A : Around) (outer : List Env) (s : Shared) (H : Hp) (vs : List V) (Q : VK) (E : XK), Room k (A.deeper (envOfC qual (defScope st) s.heap.objs.size f cdv)) → sp vs H Q E →
      ∃ t, PSs (cxOf CX0 P w K mg base N qual (defScope st) f cdv A outer s H E).nox (defBody st) t ∧ t { nx := fun _ H' => Q .non H', rt := Q } (start N vs) H) : FnOk P w K mg base CX0 (k + 1) f fd ps sp := by
  refine F.ok S len fun cdv A outer s H vs Q E hr h => ?_
  obtain ⟨t, h1, h2⟩ := hbody cdv A outer s H vs Q E hr h
  exact ⟨t, h1.nox, h2⟩
def spIsFactor : Sp := fun vs H Q _ => ∃ (t : Addr) (l p k : Int), vs = [.ref t, .int l] ∧ H t = some (.tup [.int p, .int k]) ∧ p < 2 ^ 60 ∧ ∀ b : Bool, (b = true ↔ l < p ∧ 0 < k ∧ Pr p) → Q (.bl b) H
def spModInit (c : CA) : Sp := fun vs H Q _ => ∃ (x dx l : Addr) (ts : List Addr) (ps : List (Int × Int)), vs = [.ref x, .ref l] ∧ H x = some (.ins c.md dx []) ∧ H l = some (.lst (ts.map V.ref)) ∧ Paired (Tp H) ps ts ∧ Asc 0 ps ∧ Small ps ∧
  ∀ H' t, (∀ b o, b ≠ x → H b = some o → H' b = some o) → H' x = some (.ins c.md dx (mdF (num ps) t)) → TupF H' t (ts.map V.ref) → Q .non H'
theorem use_mod {c : CA} {H : Hp} {PP : Addr → Hp → Prop} {E : XK} {l : Addr} {ts : List Addr} {ps : List (Int × Int)} (hl : H l = some (.lst (ts.map V.ref))) (hp : Paired (Tp H) ps ts) (ha : Asc 0 ps) (hs : Small ps) (q : ∀ m H', H m = none → Same H H' → ModAt c H' m ps → PP m H') :
    ∀ x dx, H x = none → H dx = none → dx ≠ x → spModInit c (.ref x :: ([.ref l] ++ [])) (upd (upd H dx (.own x)) x (.ins c.md dx [])) (fun v H2 => v = .non ∧ PP x H2) E := fun x dx nx nd ne => by
  have up : Same H (upd (upd H dx (.own x)) x (.ins c.md dx [])) := fun b o e => by rw [upd_ne (ne_of_none e nx), upd_ne (ne_of_none e nd)]; exact e
  refine ⟨x, dx, l, ts, ps, rfl, upd_same, up _ _ hl, paired_imp (fun _ _ z => up _ _ z) hp, ha, hs, fun H' t k h1 h2 => ⟨rfl, ?_⟩⟩
  have sm : Same H H' := mk_same nx nd k
  exact q x H' nx sm ⟨dx, t, ts, h1, h2, paired_imp (fun _ _ z => sm _ _ z) hp, ha, hs⟩
def spMkInit (c : CA) : Sp := fun vs H Q _ => ∃ (x dx : Addr) (l : Bool) (s : Int) (d : Bool), vs = [.ref x, .bl l, .int s, .bl d] ∧ H x = some (.ins c.kg dx []) ∧
  ∀ H', (∀ b o, b ≠ x → H b = some o → H' b = some o) → H' x = some (.ins c.kg dx (mkF l s d)) → Q .non H'
theorem use_mk {c : CA} {H : Hp} {PP : Addr → Hp → Prop} {E : XK} {l : Bool} {s : Int} {d : Bool} (q : ∀ m H', H m = none → Same H H' → MkAt c H' m l s d → PP m H') :
    ∀ x dx, H x = none → H dx = none → dx ≠ x → spMkInit c [.ref x, .bl l, .int s, .bl d] (upd (upd H dx (.own x)) x (.ins c.kg dx [])) (fun v H2 => v = .non ∧ PP x H2) E := fun x dx nx nd ne =>
  ⟨x, dx, l, s, d, rfl, upd_same, fun H' k h1 => ⟨rfl, q x H' nx (mk_same nx nd k) ⟨dx, h1⟩⟩⟩
def spHf (c : CA) : Sp := fun vs H Q _ => ∃ (k a : Addr) (y : Sty) (ls : List Int), vs = [.ref k, .ref a] ∧ MkAt c H k y.low y.shift y.lead ∧ H a = some (.tup (ls.map V.int)) ∧ ls.length ≤ 100000 ∧ ∀ H' l, Same H H' → H' l = some (.lst ((hf y ls).map V.int)) → Q (.ref l) H'
def spRestAt : Sp := fun vs H Q _ => ∃ (a : Addr) (cs : List Int) (b n : Int) (B : Nat), vs = [.ref a, .int b, .int n] ∧ H a = some (.lst (cs.map V.int)) ∧ 0 ≤ b ∧ b < n ∧ n.natAbs < 2 ^ B ∧ B ≤ 100000 ∧ Q (.int (restAt cs b n)) H
def spMkOf (c : CA) : Sp := fun vs H Q _ => ∃ (v : V) (y : Sty), vs = [v] ∧ ((v = .non ∧ y = ⟨false, 0, false⟩) ∨ ∃ k, v = .ref k ∧ MkAt c H k y.low y.shift y.lead) ∧ ∀ H' k, Same H H' → MkAt c H' k y.low y.shift y.lead → Q (.ref k) H'
def spReqMod (c : CA) : Sp := fun vs H Q _ => ∃ (m dx : Addr) (fs : List (Str × V)), vs = [.ref m] ∧ H m = some (.ins c.md dx fs) ∧ Q .non H
def spReqWay (c : CA) : Sp := fun vs H Q _ => ∃ (m dx : Addr) (fs : List (Str × V)), vs = [.ref m] ∧ H m = some (.ins c.wy dx fs) ∧ Q .non H
def spReqStock : Sp := fun vs H Q _ => ∃ n : Int, vs = [.int n] ∧ 1 ≤ n ∧ Q .non H
def spWayInit (c : CA) : Sp := fun vs H Q _ => ∃ (x dx m : Addr) (b : Int) (mv : V) (ps : List (Int × Int)) (y : Sty), vs = [.ref x, .int b, .ref m, mv] ∧ H x = some (.ins c.wy dx []) ∧ ModAt c H m ps ∧ ((mv = .non ∧ y = ⟨false, 0, false⟩) ∨ ∃ k, mv = .ref k ∧ MkAt c H k y.low y.shift y.lead) ∧
  ∀ H' k, (∀ b o, b ≠ x → H b = some o → H' b = some o) → H' x = some (.ins c.wy dx (wyF k m (num ps) (b % num ps))) → MkAt c H' k y.low y.shift y.lead → Q .non H'
theorem use_way {c : CA} {H : Hp} {PP : Addr → Hp → Prop} {E : XK} {m : Addr} {b : Int} {mv : V} {ps : List (Int × Int)} {y : Sty} (hm : ModAt c H m ps) (hk : (mv = .non ∧ y = ⟨false, 0, false⟩) ∨ ∃ k, mv = .ref k ∧ MkAt c H k y.low y.shift y.lead)
    (q : ∀ m H', H m = none → Same H H' → WayAt c H' m (b % num ps) ps y → PP m H') :
    ∀ x dx, H x = none → H dx = none → dx ≠ x → spWayInit c [.ref x, .int b, .ref m, mv] (upd (upd H dx (.own x)) x (.ins c.wy dx [])) (fun v H2 => v = .non ∧ PP x H2) E := fun x dx nx nd ne => by
  have up : Same H (upd (upd H dx (.own x)) x (.ins c.wy dx [])) := fun b o e => by rw [upd_ne (ne_of_none e nx), upd_ne (ne_of_none e nd)]; exact e
  refine ⟨x, dx, m, b, mv, ps, y, rfl, upd_same, hm.same up, ?_, fun H' k kp h1 h2 => ⟨rfl, ?_⟩⟩
  · rcases hk with h | ⟨k, e, h⟩
    · exact .inl h
    · exact .inr ⟨k, e, h.same up⟩
  · have sm : Same H H' := mk_same nx nd kp
    have hn : 0 < num ps := by
      obtain ⟨_, _, _, _, _, _, _, h⟩ := hm
      exact num_pos h
    exact q x H' nx sm ⟨dx, m, k, h1, hm.same sm, h2, Int.emod_nonneg _ (by omega), Int.emod_lt_of_pos _ hn⟩
def spOfLetters (c : CA) : Sp := fun vs H Q _ => ∃ (x a : Addr) (b : Int) (ps : List (Int × Int)) (y : Sty) (ls : List Int), vs = [.ref x, .ref a] ∧ WayAt c H x b ps y ∧ H a = some (.tup (ls.map V.int)) ∧ ls.length ≤ 100000 ∧ ∀ H', Same H H' → Q (.int (mark y b (num ps) ls)) H'
def spMarkOf (c : CA) : Sp := fun vs H Q _ => ∃ (x : Addr) (v : V) (b : Int) (ps : List (Int × Int)) (y : Sty) (ls : List Int), vs = [.ref x, v] ∧ WayAt c H x b ps y ∧ TextAt H v ls ∧ ∀ H', Same H H' → Q (.int (mark y b (num ps) ls)) H'
def spTwo (c : CA) (r : Sty → Int → Int → List Int → List Int → Bool) : Sp := fun vs H Q _ => ∃ (x : Addr) (v u : V) (b : Int) (ps : List (Int × Int)) (y : Sty) (ls ms : List Int), vs = [.ref x, v, u] ∧ WayAt c H x b ps y ∧ TextAt H v ls ∧ TextAt H u ms ∧ ∀ H', Same H H' → Q (.bl (r y b (num ps) ls ms)) H'
def rAgree (y : Sty) (b n : Int) (ls ms : List Int) : Bool := decide (mark y b n ls = mark y b n ms)
def rClash (y : Sty) (b n : Int) (ls ms : List Int) : Bool := decide (ls ≠ ms) && decide (mark y b n ls = mark y b n ms)
/-! ### calls by keyword, calls without arguments -/
section
variable {X : Cx} {k j : Nat} {x : Str} {C : Addr} {sp : Sp} {dvs : List V} {p pos : Pos} {ks : List Str} {gV : List V → List V → List V} {kws : List Keyword} {tk : TA}
theorem pe_mk0 (c : C8.Mak X.prog X.w X.K X.mg X.base k x C sp dvs) (hr : Room j X.A) (hk : k + 1 ≤ j) (hg : Gl X x) (hdb : (x == ("__debug__" : Str)) = false := by decide) : PE X (.Call (.Name x p) [] [] pos) (tMake C sp dvs L2.E0 tNil) := by
  obtain ⟨f, fd, ps, ds, M, F, hm, b, d⟩ := c.ex
  exact pe_make0 M F (hr.mono hk) hg hm b d pass0 hdb
structure MakK (P : Program) (w : World) (K : PySem.W.Frag) (mg : Str → Option Value) (base : Heap) (k : Nat) (x : Str) (C : Addr) (ks : List Str) (sp : Sp) (gV : List V → List V → List V) : Prop where
  ex : ∃ (f : Addr) (fd : FuncData) (ps : List Str) (g : List Value → List Value → List Value), Mk K C f ∧ FnOk P w K mg base L2.CX0 k f fd ps sp ∧ mg x = some (.ref C) ∧ KBn K fd ps 1 ks g gV
theorem pe_mkK0 (c : MakK X.prog X.w X.K X.mg X.base k x C ks sp gV) (hr : Room j X.A) (hk : k + 1 ≤ j) (hg : Gl X x) (hkw : PK X kws tk)
    (hall : (backToKw pos (keywordEach kws X.env)).all (·.1.isSome) = true := by rfl) (hks : (backToKw pos (keywordEach kws X.env)).filterMap (·.1) = ks := by rfl) (hdb : (x == ("__debug__" : Str)) = false := by decide)
    (hpl : ((backTo pos (starEach [] X.env)).any (·.1) || (backToKw pos (keywordEach kws X.env)).any (·.1.isNone)) = false := by rfl) :
    PE X (.Call (.Name x p) [] kws pos) (tMakeK C 0 ks.length sp gV L2.E0 tNil tk) := by
  obtain ⟨f, fd, ps, g, M, F, hm, b⟩ := c.ex
  exact pe_makeK0 M F (hr.mono hk) hg hm b pass0 hkw hall hks hdb hpl
structure CalK (P : Program) (w : World) (K : PySem.W.Frag) (mg : Str → Option Value) (base : Heap) (k : Nat) (x : Str) (ks : List Str) (sp : Sp) (gV : List V → List V → List V) : Prop where
  ex : ∃ (f : Addr) (fd : FuncData) (ps : List Str) (g : List Value → List Value → List Value), FnOk P w K mg base L2.CX0 k f fd ps sp ∧ mg x = some (.ref f) ∧ PySem.W.keepIn K (.ref f) = true ∧ KBn K fd ps 0 ks g gV
theorem pe_cK0 (c : CalK X.prog X.w X.K X.mg X.base k x ks sp gV) (hr : Room j X.A) (hk : k ≤ j) (hg : Gl X x) (hkw : PK X kws tk)
    (hall : (backToKw pos (keywordEach kws X.env)).all (·.1.isSome) = true := by rfl) (hks : (backToKw pos (keywordEach kws X.env)).filterMap (·.1) = ks := by rfl) (hdb : (x == ("__debug__" : Str)) = false := by decide)
    (hpl : ((backTo pos (starEach [] X.env)).any (·.1) || (backToKw pos (keywordEach kws X.env)).any (·.1.isNone)) = false := by rfl) :
    PE X (.Call (.Name x p) [] kws pos) (tCallN 0 ks.length sp gV L2.E0 tNil tk) := by
  obtain ⟨f, fd, ps, g, F, hm, kp, b⟩ := c.ex
  refine ⟨fun pins s σ H Q I h => ?_⟩
  refine wpAny_Call_Name_kw (ld_glob I hg hm ?_ hdb)
  refine PySem.W.callWith_KW0 (h₀ := X.base) I.ok.mod.kin kp hall ?_ hpl
  refine thn (hkw.run pos pins s σ H _ I h) fun ws s2 ⟨zs, H2, I2, rz, l1, l2, q2⟩ => ⟨I2.kIn, ?_⟩
  rw [hks]
  exact run_fnN (us := []) (vs := []) F (hr.mono hk) b pass0 I2 .nil rz rfl l2 q2
theorem w_makeK {σ : L2.St} {H : Hp} {Q : VK} {n m : Nat} {E : XK} {t tk : TA} (q : t σ H fun vs H1 => tk σ H1 fun zs H2 => vs.length = n ∧ zs.length = m ∧ ∀ x dx, H2 x = none → H2 dx = none → dx ≠ x → sp (gV (.ref x :: vs) zs) (upd (upd H2 dx (.own x)) x (.ins C dx [])) (fun v H3 => v = .non ∧ Q (.ref x) H3) E) : tMakeK C n m sp gV E t tk σ H Q := q
theorem w_callN {σ : L2.St} {H : Hp} {Q : VK} {n m : Nat} {E : XK} {t tk : TA} (q : t σ H fun vs H1 => tk σ H1 fun zs H2 => vs.length = n ∧ zs.length = m ∧ sp (gV vs zs) H2 Q E) : tCallN n m sp gV E t tk σ H Q := q
end
/-! ### lists of ints as data -/
section
variable {K : PySem.W.Frag} {H : Hp}
theorem dp_ints : ∀ ls : List Int, DpAll K H (ls.map V.int) (ls.map PyData.int)
  | [] => .nil
  | i :: r => .cons (.int i) (dp_ints r)
theorem eqv_ints : ∀ ls ms : List Int, PyData.eqvAll (ls.map PyData.int) (ms.map PyData.int) = decide (ls = ms)
  | [], [] => by simp [PyData.eqvAll]
  | [], _ :: _ => by simp [PyData.eqvAll]
  | _ :: _, [] => by simp [PyData.eqvAll]
  | i :: r, j :: t => by
    rw [List.map_cons, List.map_cons, PyData.eqvAll, eqv_ints r t, PyData.eqv]
    simp only [List.cons.injEq, Bool.decide_and]
    congr 1
theorem lay_ints : ∀ ls : List Int, PyData.canLayAll0 (ls.map PyData.int) = true
  | [] => rfl
  | i :: r => by
    rw [List.map_cons, PyData.canLayAll0, lay_ints r]
    rfl
theorem depth_ints : ∀ ls : List Int, PyData.depthAll (ls.map PyData.int) = 0
  | [] => rfl
  | i :: r => by
    rw [List.map_cons, PyData.depthAll, depth_ints r]
    rfl
theorem shaped_tup (ls : List Int) : SeqAt.shaped (.tuple (ls.map PyData.int)) = true := by
  unfold SeqAt.shaped
  rw [PyData.canLay0, lay_ints, PyData.depth, depth_ints]
  rfl
theorem shaped_lst (ls : List Int) : SeqAt.shaped (.list (ls.map PyData.int)) = true := by
  unfold SeqAt.shaped
  rw [PyData.canLay0, lay_ints, PyData.depth, depth_ints]
  rfl
theorem w_neTT {a b : Addr} {ls ms : List Int} {Q : VK} (ha : SqT K H a (ls.map V.int)) (hb : SqT K H b (ms.map V.int)) (q : Q (.bl (!decide (ls = ms))) H) : rNeD K (.ref a) (.ref b) H Q :=
  ⟨_, _, .tup ha (dp_ints ls), .tup hb (dp_ints ms), shaped_tup _, shaped_tup _, by rw [PyData.eqv, eqv_ints]; exact q⟩
theorem w_eqTT {a b : Addr} {ls ms : List Int} {Q : VK} (ha : SqT K H a (ls.map V.int)) (hb : SqT K H b (ms.map V.int)) (q : Q (.bl (decide (ls = ms))) H) : rEqD K (.ref a) (.ref b) H Q :=
  ⟨_, _, .tup ha (dp_ints ls), .tup hb (dp_ints ms), shaped_tup _, shaped_tup _, by rw [PyData.eqv, eqv_ints]; exact q⟩
theorem w_neLL {a b : Addr} {ls ms : List Int} {Q : VK} (ha : SqL K H a (ls.map V.int)) (hb : SqL K H b (ms.map V.int)) (q : Q (.bl (!decide (ls = ms))) H) : rNeD K (.ref a) (.ref b) H Q :=
  ⟨_, _, .lst ha (dp_ints ls), .lst hb (dp_ints ms), shaped_lst _, shaped_lst _, by rw [PyData.eqv, eqv_ints]; exact q⟩
theorem w_eqLL {a b : Addr} {ls ms : List Int} {Q : VK} (ha : SqL K H a (ls.map V.int)) (hb : SqL K H b (ms.map V.int)) (q : Q (.bl (decide (ls = ms))) H) : rEqD K (.ref a) (.ref b) H Q :=
  ⟨_, _, .lst ha (dp_ints ls), .lst hb (dp_ints ms), shaped_lst _, shaped_lst _, by rw [PyData.eqv, eqv_ints]; exact q⟩
theorem w_revi {x : Addr} {xs : List V} {P : Addr → Hp → Prop} (h : SqL K H x xs) (q : ∀ p, H p = none → P p (upd H p (.lst xs.reverse))) : ∃ a xs, V.ref x = .ref a ∧ SqL K H a xs ∧ ∀ p, H p = none → P p (upd H p (.lst xs.reverse)) := ⟨x, xs, rfl, h, q⟩
end
theorem mk_low {l : Bool} {s : Int} {d : Bool} : (mkF l s d).lookup ("low" : Str) = some (.bl l) := lk0
theorem mk_shift {l : Bool} {s : Int} {d : Bool} : (mkF l s d).lookup ("shift" : Str) = some (.int s) := (lkS (by decide +kernel)).trans lk0
theorem mk_lead {l : Bool} {s : Int} {d : Bool} : (mkF l s d).lookup ("lead" : Str) = some (.bl d) := (lkS (by decide +kernel)).trans ((lkS (by decide +kernel)).trans lk0)
theorem mk_no {l : Bool} {s : Int} {d : Bool} {m : Str} (h1 : m ≠ ("low" : Str)) (h2 : m ≠ ("shift" : Str)) (h3 : m ≠ ("lead" : Str)) : (mkF l s d).lookup m = none := (lkS h1).trans ((lkS h2).trans ((lkS h3).trans rfl))
theorem md_number {n : Int} {t : Addr} : (mdF n t).lookup ("number" : Str) = some (.int n) := lk0
theorem md_factors {n : Int} {t : Addr} : (mdF n t).lookup ("factors" : Str) = some (.ref t) := (lkS (by decide +kernel)).trans lk0
theorem wy_marking {k m : Addr} {n b : Int} : (wyF k m n b).lookup ("marking" : Str) = some (.ref k) := lk0
theorem wy_modulus {k m : Addr} {n b : Int} : (wyF k m n b).lookup ("modulus" : Str) = some (.ref m) := (lkS (by decide +kernel)).trans lk0
theorem wy_number {k m : Addr} {n b : Int} : (wyF k m n b).lookup ("number" : Str) = some (.int n) := (lkS (by decide +kernel)).trans ((lkS (by decide +kernel)).trans lk0)
theorem wy_base {k m : Addr} {n b : Int} : (wyF k m n b).lookup ("base" : Str) = some (.int b) := (lkS (by decide +kernel)).trans ((lkS (by decide +kernel)).trans ((lkS (by decide +kernel)).trans lk0))
theorem wy_no {k m : Addr} {n b : Int} {f : Str} (h1 : f ≠ ("marking" : Str)) (h2 : f ≠ ("modulus" : Str)) (h3 : f ≠ ("number" : Str)) (h4 : f ≠ ("base" : Str)) : (wyF k m n b).lookup f = none := (lkS h1).trans ((lkS h2).trans ((lkS h3).trans ((lkS h4).trans rfl)))
theorem rest_take {cs : List Int} {i : Nat} {v b n : Int} (h : cs[i]? = some v) : restAt (cs.take (i + 1)) b n = (restAt (cs.take i) b n * b + v) % n := by
  obtain ⟨hi, e⟩ := List.getElem?_eq_some_iff.mp h
  unfold restAt
  rw [List.take_succ_eq_append_getElem hi, List.foldl_append, e]
  rfl
theorem rest_range {b n : Int} (hn : 0 < n) : ∀ (cs : List Int), 0 ≤ restAt cs b n ∧ restAt cs b n < n := fun cs => by
  unfold restAt
  have : ∀ (cs : List Int) (a : Int), 0 ≤ a → a < n → 0 ≤ cs.foldl (fun f c => (f * b + c) % n) a ∧ cs.foldl (fun f c => (f * b + c) % n) a < n := by
    intro cs
    induction cs with
    | nil => exact fun a h1 h2 => ⟨h1, h2⟩
    | cons c r ih => exact fun a h1 h2 => ih _ (Int.emod_nonneg _ (by omega)) (Int.emod_lt_of_pos _ hn)
  exact this cs 0 (Int.le_refl _) hn
theorem map_rev (f : Int → V) (l : List Int) : (l.map f).reverse = l.reverse.map f := by rw [List.map_reverse]
theorem w_tyL {K : PySem.W.Frag} {H : Hp} {a : Addr} {xs : List V} {P : Prop} (h : SqL K H a xs) (q : P) : tyV K "list" (.ref a) H ∧ P := ⟨Or.inl ⟨rfl, _, h⟩, q⟩
theorem decI {a b : Int} : decide (V.int a = V.int b) = decide (a = b) := by
  by_cases z : a = b
  · rw [decide_eq_true z, decide_eq_true (by rw [z])]
  · rw [decide_eq_false z, decide_eq_false (fun w => z (by injection w))]
theorem w_m1 {σ : L2.St} {H : Hp} {Q : VK} {r : V → List V → Hp → VK → Prop} {to te : TE} (q : to σ H fun x H1 => (∃ a, x = .str a) ∧ te σ H1 fun y H2 => r x [y] H2 Q) : tM1 r to te σ H Q := q
theorem w_isStr {z : Str} {P : Prop} (q : P) : (∃ a, V.str z = .str a) ∧ P := ⟨⟨z, rfl⟩, q⟩
/-! ### what the purse leaves alone -/
section
variable {a b : Addr} {c : Int} {H H' : Hp} {o : HO}
theorem Purse.ne (p : Purse H a c) (h : H b = some o) (d : ∀ x y z : Int, o ≠ .lst [.int x, .int y, .int z]) : b ≠ a := fun e => by
  obtain ⟨x, y, z, h1, _⟩ := p
  rw [e, h1] at h
  exact d x y z (Option.some.inj h).symm
theorem Purse.fresh (p : Purse H a c) (h : H b = none) : b ≠ a := fun e => by
  obtain ⟨x, y, z, h1, _⟩ := p
  rw [e, h1] at h
  cases h
theorem Keep.free (k : Keep a H H') (p : Purse H' a c) (h : H' b = none) : H b = none := by
  cases e : H b with
  | none => rfl
  | some o =>
    by_cases z : b = a
    · obtain ⟨_, _, _, e2, _⟩ := p
      rw [z, e2] at h
      cases h
    · rw [k _ _ z e] at h
      cases h
theorem Keep.tup {xs : List V} (k : Keep a H H') (p : Purse H a c) (h : H b = some (.tup xs)) : H' b = some (.tup xs) := k b _ (p.ne h fun _ _ _ z => by cases z) h
theorem Keep.ins {C dx : Addr} {fs : List (Str × V)} (k : Keep a H H') (p : Purse H a c) (h : H b = some (.ins C dx fs)) : H' b = some (.ins C dx fs) := k b _ (p.ne h fun _ _ _ z => by cases z) h
/-- a list of pairs -/
def PrL (H : Hp) (l : Addr) (ps : List (Int × Int)) : Prop := ∃ ts : List Addr, H l = some (.lst (ts.map V.ref)) ∧ Paired (Tp H) ps ts
theorem refs_ne {ts : List Addr} (x y z : Int) : HO.lst (ts.map V.ref) ≠ .lst [.int x, .int y, .int z] := fun e => by
  injection e with e
  cases ts with
  | nil => cases e
  | cons t r =>
    rw [List.map_cons] at e
    injection e with e1
    cases e1
theorem PrL.keep {l : Addr} {ps : List (Int × Int)} (h : PrL H l ps) (p : Purse H a c) (k : Keep a H H') : PrL H' l ps := by
  obtain ⟨ts, h1, h2⟩ := h
  exact ⟨ts, k l _ (p.ne h1 refs_ne) h1, paired_imp (fun _ _ z => k.tup p z) h2⟩
theorem PrL.same {l : Addr} {ps : List (Int × Int)} (h : PrL H l ps) (s : Same H H') : PrL H' l ps := by
  obtain ⟨ts, h1, h2⟩ := h
  exact ⟨ts, s _ _ h1, paired_imp (fun _ _ z => s _ _ z) h2⟩
theorem ModAt.keep {ca : CA} {m : Addr} {ps : List (Int × Int)} (h : ModAt ca H m ps) (p : Purse H a c) (k : Keep a H H') : ModAt ca H' m ps := by
  obtain ⟨dx, t, ts, h1, h2, h3, h4⟩ := h
  exact ⟨dx, t, ts, k.ins p h1, (by obtain ⟨o, d, e⟩ := h2; exact ⟨o, d, k t _ (p.ne e (fun _ _ _ w => by cases w)) e⟩), paired_imp (fun _ _ z => k.tup p z) h3, h4⟩
theorem MkAt.keep {ca : CA} {m : Addr} {l : Bool} {s : Int} {d : Bool} (h : MkAt ca H m l s d) (p : Purse H a c) (k : Keep a H H') : MkAt ca H' m l s d := by
  obtain ⟨dx, h1⟩ := h
  exact ⟨dx, k.ins p h1⟩
theorem WayAt.keep {ca : CA} {m : Addr} {b : Int} {ps : List (Int × Int)} {y : Sty} (h : WayAt ca H m b ps y) (p : Purse H a c) (k : Keep a H H') : WayAt ca H' m b ps y := by
  obtain ⟨dx, m1, k1, h1, h2, h3, h4⟩ := h
  exact ⟨dx, m1, k1, k.ins p h1, h2.keep p k, h3.keep p k, h4⟩
theorem Keep.new (p : Purse H a c) {q : Addr} (n : H q = none) : Keep a H (L2.upd H q o) := .of (Same.new n)
end
theorem Asc.snoc : ∀ {l : Int} {ps : List (Int × Int)} {q : Int × Int}, Asc l ps → (ps.getLast?.map (·.1)).getD l < q.1 → 0 < q.2 → Pr q.1 → Asc l (ps ++ [q])
  | l, [], q, _, h1, h2, h3 => ⟨h1, h2, h3, trivial⟩
  | l, r :: ps, q, a, h1, h2, h3 => by
    refine ⟨a.1, a.2.1, a.2.2.1, Asc.snoc a.2.2.2 ?_ h2 h3⟩
    rw [List.getLast?_cons] at h1
    cases hh : ps.getLast? with
    | none => rw [hh] at h1; exact h1
    | some z => rw [hh] at h1; exact h1
instance (n : Int) : Decidable (∀ d : Int, 2 ≤ d → d * d ≤ n → n % d ≠ 0) := 
  if h : ∀ k : Fin 64, (2 ≤ k.val ∧ (k.val : Int) * k.val ≤ n) → n % (k.val : Int) ≠ 0 then
    if h2 : n < 4096 then .isTrue (fun d h3 h4 => by
      have hd : d < 64 := by
        refine Int.not_le.mp fun z => ?_
        have := Int.mul_le_mul z z (by decide) (by omega)
        omega
      have e : ((d.toNat : Nat) : Int) = d := Int.toNat_of_nonneg (by omega)
      have := h ⟨d.toNat, by omega⟩ ⟨by show 2 ≤ d.toNat; omega, by show ((d.toNat : Nat) : Int) * ((d.toNat : Nat) : Int) ≤ n; rw [e]; exact h4⟩
      rwa [show (((⟨d.toNat, by omega⟩ : Fin 64).val : Nat) : Int) = d from e] at this)
    else if h5 : ∀ k : Fin n.toNat, (2 ≤ k.val ∧ (k.val : Int) * k.val ≤ n) → n % (k.val : Int) ≠ 0 then .isTrue (fun d h3 h4 => by
      have hd : d < n := by
        refine Int.not_le.mp fun z => ?_
        have : n * 2 ≤ d * d := Int.mul_le_mul z h3 (by decide) (by omega)
        omega
      have e : ((d.toNat : Nat) : Int) = d := Int.toNat_of_nonneg (by omega)
      have := h5 ⟨d.toNat, by omega⟩ ⟨by show 2 ≤ d.toNat; omega, by show ((d.toNat : Nat) : Int) * ((d.toNat : Nat) : Int) ≤ n; rw [e]; exact h4⟩
      rwa [show (((⟨d.toNat, by omega⟩ : Fin n.toNat).val : Nat) : Int) = d from e] at this)
    else .isFalse fun z => h5 fun k hk => z k.val (by omega) hk.2
  else .isFalse fun z => h fun k hk => z k.val (by omega) hk.2
instance (n : Int) : Decidable (Pr n) := inferInstanceAs (Decidable (_ ∧ _))
def PL : List Int := [2, 3, 5, 7, 11, 13, 97, 101, 499, 991, 997]
def KL : List Int := [12, 5, 3, 3, 2, 2, 2, 2, 2, 8, 12]
theorem PL_pr : ∀ i : Fin 11, Pr (PL.getD i.val 0) ∧ 0 < PL.getD i.val 0 ∧ PL.getD i.val 0 < 1024 ∧ PL.getD i.val 0 < PL.getD (i.val + 1) 10000 ∧ PL.getD i.val 0 = PL.getD i.val 10000 := by decide +kernel
theorem KL_pr : ∀ i : Fin 11, 0 < KL.getD i.val 0 ∧ KL.getD i.val 0 ≤ 12 := by decide +kernel
theorem prN {p : Int} (h : Pr p) (d : Nat) (hd : d ∣ p.natAbs) : d = 1 ∨ d = p.natAbs := by
  obtain ⟨e, he⟩ := hd
  have hp := h.1
  have h0 : p = ((d * e : Nat) : Int) := by omega
  by_cases d1 : d = 1
  · exact .inl d1
  by_cases e1 : e = 1
  · right; rw [he, e1, Nat.mul_one]
  exfalso
  have d0 : d ≠ 0 := fun z => by rw [z, Nat.zero_mul] at he; omega
  have e0 : e ≠ 0 := fun z => by rw [z, Nat.mul_zero] at he; omega
  by_cases c : d ≤ e
  · refine h.2 d (by omega) ?_ ?_
    · rw [h0]
      have : d * d ≤ d * e := Nat.mul_le_mul_left d c
      exact_mod_cast this
    · rw [h0, Int.natCast_mul]
      exact Int.mul_emod_right _ _
  · refine h.2 e (by omega) ?_ ?_
    · rw [h0]
      have : e * e ≤ d * e := Nat.mul_le_mul_right e (by omega)
      exact_mod_cast this
    · rw [h0, Int.natCast_mul]
      exact Int.mul_emod_left _ _
theorem cop_or {p : Int} (h : Pr p) (b : Nat) : p.natAbs ∣ b ∨ Nat.Coprime b p.natAbs := by
  rcases prN h _ (Nat.gcd_dvd_right b p.natAbs) with e | e
  · exact .inr e
  · left
    have := Nat.gcd_dvd_left b p.natAbs
    rwa [e] at this
def numN (ps : List (Int × Int)) : Nat := ps.foldl (fun n p => n * p.1.natAbs ^ p.2.toNat) 1
theorem numN_fold (ps : List (Int × Int)) : ∀ a : Nat, ps.foldl (fun n p => n * p.1.natAbs ^ p.2.toNat) a = a * numN ps := by
  unfold numN
  induction ps with
  | nil => intro a; simp
  | cons q r ih =>
    intro a
    rw [List.foldl_cons, List.foldl_cons, ih, ih (1 * _), Nat.one_mul, Nat.mul_assoc]
theorem numN_cons (q : Int × Int) (ps : List (Int × Int)) : numN (q :: ps) = q.1.natAbs ^ q.2.toNat * numN ps := by
  show List.foldl _ _ _ = _
  rw [List.foldl_cons, numN_fold, Nat.one_mul]
theorem num_fold (ps : List (Int × Int)) : ∀ a : Int, ps.foldl (fun n p => n * p.1 ^ p.2.toNat) a = a * num ps := by
  unfold num
  induction ps with
  | nil => intro a; simp
  | cons q r ih =>
    intro a
    rw [List.foldl_cons, List.foldl_cons, ih, ih (1 * _), Int.one_mul, Int.mul_assoc]
theorem num_cons (q : Int × Int) (ps : List (Int × Int)) : num (q :: ps) = q.1 ^ q.2.toNat * num ps := by
  show List.foldl _ _ _ = _
  rw [List.foldl_cons, num_fold, Int.one_mul]
theorem num_cast : ∀ {l : Int} {ps : List (Int × Int)}, 0 ≤ l → Asc l ps → num ps = (numN ps : Int)
  | _, [], _, _ => rfl
  | l, q :: r, h0, a => by
    have h1 := a.1
    rw [num_cons, numN_cons, num_cast (l := q.1) (by omega) a.2.2.2, Int.natCast_mul, Int.natCast_pow, Int.natAbs_of_nonneg (by omega)]
theorem Asc.lt : ∀ {l : Int} {ps : List (Int × Int)}, Asc l ps → ∀ q ∈ ps, l < q.1 ∧ 0 < q.2 ∧ Pr q.1
  | _, [], _, q, h => by cases h
  | l, r :: ps, a, q, h => by
    rcases List.mem_cons.mp h with e | e
    · rw [e]; exact ⟨a.1, a.2.1, a.2.2.1⟩
    · have := Asc.lt a.2.2.2 q e
      exact ⟨Int.lt_trans a.1 this.1, this.2⟩
theorem cop_num {p : Int} (hp : Pr p) (k : Nat) : ∀ {ps : List (Int × Int)}, (∀ q ∈ ps, p < q.1 ∧ 0 < q.2 ∧ Pr q.1) → Nat.Coprime (p.natAbs ^ k) (numN ps)
  | [], _ => Nat.coprime_one_right _
  | q :: r, h => by
    rw [numN_cons]
    refine Nat.Coprime.mul_right (Nat.Coprime.pow _ _ ?_) (cop_num hp k fun q hq => h q (List.mem_cons_of_mem _ hq))
    have hq := h q (List.mem_cons_self ..)
    have hp1 := hp.1
    rcases cop_or hq.2.2 p.natAbs with z | z
    · exfalso
      have := Nat.le_of_dvd (by omega) z
      omega
    · exact z
theorem gcd_stab {b S e : Nat} (he : S ≤ e) : ∀ {l : Int} {ps : List (Int × Int)}, Asc l ps → (∀ q ∈ ps, q.2.toNat ≤ S) → Nat.gcd (b ^ e) (numN ps) = Nat.gcd (b ^ S) (numN ps)
  | _, [], _, _ => by
    show Nat.gcd _ 1 = Nat.gcd _ 1
    rw [Nat.gcd_one_right, Nat.gcd_one_right]
  | l, q :: r, a, h => by
    have hk := h q (List.mem_cons_self ..)
    have hc : Nat.Coprime (q.1.natAbs ^ q.2.toNat) (numN r) := cop_num a.2.2.1 _ (Asc.lt a.2.2.2)
    rw [numN_cons, Nat.Coprime.gcd_mul _ hc, Nat.Coprime.gcd_mul _ hc, gcd_stab he a.2.2.2 fun q hq => h q (List.mem_cons_of_mem _ hq)]
    congr 1
    rcases cop_or a.2.2.1 b with z | z
    · have h1 : ∀ m, q.2.toNat ≤ m → q.1.natAbs ^ q.2.toNat ∣ b ^ m := fun m hm => Nat.dvd_trans (Nat.pow_dvd_pow _ hm) ((Nat.pow_dvd_pow_iff (by have := a.2.1; omega)).mpr z)
      rw [Nat.gcd_eq_right (h1 e (by omega)), Nat.gcd_eq_right (h1 S hk)]
    · rw [(Nat.Coprime.pow e q.2.toNat z), (Nat.Coprime.pow S q.2.toNat z)]
/-- a step that a number hides -/
theorem miss_iff {n x A : Nat} (hn : 0 < n) : (∃ s, 1 ≤ s ∧ s < A ∧ n ∣ s * x) ↔ n / Nat.gcd x n < A := by
  have hg : 0 < Nat.gcd x n := Nat.gcd_pos_of_pos_right _ hn
  have hgn := Nat.gcd_dvd_right x n
  have hgx := Nat.gcd_dvd_left x n
  constructor
  · rintro ⟨s, s1, s2, h⟩
    have h1 : n / Nat.gcd x n ∣ s := by
      have hc : Nat.Coprime (n / Nat.gcd x n) (x / Nat.gcd x n) := (Nat.coprime_div_gcd_div_gcd hg).symm
      refine hc.dvd_of_dvd_mul_right ?_
      obtain ⟨t, ht⟩ := h
      refine ⟨t, ?_⟩
      have e1 : n / Nat.gcd x n * Nat.gcd x n = n := Nat.div_mul_cancel hgn
      have e2 : x / Nat.gcd x n * Nat.gcd x n = x := Nat.div_mul_cancel hgx
      refine Nat.eq_of_mul_eq_mul_right hg ?_
      rw [Nat.mul_assoc, e2, ht, Nat.mul_right_comm, e1]
    exact Nat.lt_of_le_of_lt (Nat.le_of_dvd (by omega) h1) s2
  · intro h
    refine ⟨n / Nat.gcd x n, Nat.div_pos (Nat.le_of_dvd hn hgn) hg, h, ?_⟩
    obtain ⟨t, ht⟩ := hgx
    refine ⟨t, ?_⟩
    have e1 : n / Nat.gcd x n * Nat.gcd x n = n := Nat.div_mul_cancel hgn
    calc n / Nat.gcd x n * x = n / Nat.gcd x n * (Nat.gcd x n * t) := by rw [← ht]
      _ = n * t := by rw [← Nat.mul_assoc, e1]
/-- the first of the places below N at which P holds -/
def Fst (P : Nat → Prop) (N : Nat) : Option Nat → Prop
  | none => ∀ e, e < N → ¬ P e
  | some e => e < N ∧ P e ∧ ∀ j, j < e → ¬ P j
theorem Fst.same {P P' : Nat → Prop} {N M S : Nat} {r r' : Option Nat} (h : Fst P N r) (h' : Fst P' M r') (e : ∀ j, P j ↔ P' j) (st : ∀ j, S ≤ j → P j → P S) (hN : S < N) (hM : S < M) : r = r' := by
  have low : ∀ j, P j → ∃ i, i ≤ S ∧ i ≤ j ∧ P i := fun j hj => by
    by_cases c : S ≤ j
    · exact ⟨S, Nat.le_refl _, c, st j c hj⟩
    · exact ⟨j, by omega, Nat.le_refl _, hj⟩
  cases r with
  | none =>
    cases r' with
    | none => rfl
    | some e' =>
      obtain ⟨i, h1, h2, h3⟩ := low e' ((e e').mpr h'.2.1)
      exact absurd h3 (h i (by omega))
  | some e1 =>
    cases r' with
    | none =>
      obtain ⟨i, h1, h2, h3⟩ := low e1 h.2.1
      exact absurd ((e i).mp h3) (h' i (by omega))
    | some e2 =>
      have a1 : ¬ e1 < e2 := fun z => h'.2.2 e1 z ((e e1).mp h.2.1)
      have a2 : ¬ e2 < e1 := fun z => h.2.2 e2 z ((e e2).mpr h'.2.1)
      have : e1 = e2 := by omega
      rw [this]
theorem max_pow {S0 : Nat} : ∀ {l : Int} {ps : List (Int × Int)}, 0 ≤ l → Asc l ps → (∀ q ∈ ps, q.2.toNat ≤ S0) → ∃ S, S ≤ S0 ∧ (∀ q ∈ ps, q.2.toNat ≤ S) ∧ 2 ^ S ≤ numN ps ∧ 0 < numN ps
  | _, [], _, _, _ => ⟨0, Nat.zero_le _, (fun q h => by cases h), Nat.le_refl _, Nat.zero_lt_one⟩
  | l, q :: r, h0, a, h => by
    have h1 := a.1
    obtain ⟨S, b1, b2, b3, b4⟩ := max_pow (S0 := S0) (l := q.1) (ps := r) (by omega) a.2.2.2 fun z hz => h z (List.mem_cons_of_mem _ hz)
    have hp := a.2.2.1.1
    have hq : 2 ^ q.2.toNat ≤ q.1.natAbs ^ q.2.toNat := Nat.pow_le_pow_left (by omega) _
    have hq0 : 0 < q.1.natAbs ^ q.2.toNat := Nat.lt_of_lt_of_le (Nat.pow_pos (by decide)) hq
    refine ⟨max S q.2.toNat, Nat.max_le.mpr ⟨b1, h q (List.mem_cons_self ..)⟩, fun z hz => ?_, ?_, ?_⟩
    · rcases List.mem_cons.mp hz with e | e
      · rw [e]; exact Nat.le_max_right _ _
      · exact Nat.le_trans (b2 z e) (Nat.le_max_left _ _)
    · rw [numN_cons]
      by_cases c : S ≤ q.2.toNat
      · rw [Nat.max_eq_right c]
        exact Nat.le_trans hq (Nat.le_mul_of_pos_right _ b4)
      · rw [Nat.max_eq_left (by omega)]
        exact Nat.le_trans b3 (Nat.le_mul_of_pos_left _ hq0)
    · rw [numN_cons]
      exact Nat.mul_pos hq0 b4
/-! ### comprehensions with a test, and such as draw -/
section
variable {J : It} {G : Hp → Prop} {tt : TT} {te : TE} {vs : List Nat} {σ : L2.St} {H : Hp} {D : Addr} {Qd : Hp → Prop} {j : Nat}
theorem lc_filt (xs : List V) (p : V → Bool) (f : V → V) (w : Walk J xs.length G (YAt xs)) (hD : H D = none) (hG : ∀ H', Same H H' → G H') (sz : xs.length ≤ 100000)
    (wp : ∀ v, wipe ((wipe σ vs).set j v) vs = wipe σ vs)
    (tst : ∀ (i : Nat) (x : V) (H' : Hp), xs[i]? = some x → Same H H' → ∀ Q' : Bool → Hp → Prop, (∀ H'', Same H' H'' → Q' (p x) H'') → tt ((wipe σ vs).set j (some x)) H' Q')
    (step : ∀ (i : Nat) (x : V) (H' : Hp), xs[i]? = some x → p x = true → Same H H' → ∀ Q' : VK, (∀ H'', Same H' H'' → Q' (f x) H'') → te ((wipe σ vs).set j (some x)) H' Q')
    (q : ∀ H', Same H H' → H' D = some (.lst ((xs.filter p).map f)) → Qd H') :
    ∃ W : Nat → Nat → Hp → Prop, (∃ m, W 0 m (upd H D (.lst []))) ∧ ∀ i m H, W i m H →
      (J.stop i H ∧ Qd H) ∨ (J.go i H ∧ ∃ Nx : Hp → Prop, (∀ H', Nx H' → ∃ m', m' < m ∧ W (i + 1) m' H') ∧ ∀ x H', J.yld i H x H' → gName j x (wipe σ vs) H' fun σ2 H2 => wipe σ2 vs = wipe σ vs ∧ tt σ2 H2 fun b H3 =>
        if b = true then te σ2 H3 fun y H4 => ∃ acc, H4 D = some (.lst acc) ∧ acc.length < sizeLine ∧ Nx (upd H4 D (.lst (acc ++ [y]))) else Nx H3) := by
  refine lc_it w (fun i H' => H' D = some (.lst (((xs.take i).filter p).map f)) ∧ Same H H') ⟨upd_same, Same.new hD⟩ (fun i H' _ h => hG H' h.2) ?_ ?_
  · rintro i x H1 H' hi ⟨h1, h2⟩ ⟨rfl, hx⟩
    refine ⟨wp _, ?_⟩
    have e : xs[i] = x := by rw [List.getElem?_eq_getElem hi] at hx; exact Option.some.inj hx
    have tk : xs.take (i + 1) = xs.take i ++ [x] := by rw [List.take_succ_eq_append_getElem hi, e]
    refine tst i x H' hx h2 _ fun H2 s2 => ?_
    by_cases hp : p x = true
    · rw [hp]
      refine iteT ?_
      refine step i x H2 hx hp (h2.trans s2) _ fun H3 s3 => ?_
      refine ⟨_, s3 _ _ (s2 _ _ h1), ?_, ?_, ?_⟩
      · rw [List.length_map]
        have h5 := List.length_filter_le p (xs.take i)
        rw [List.length_take] at h5
        have : (100000 : Nat) < sizeLine := by decide
        omega
      · rw [upd_same, tk, List.filter_append, List.map_append, List.filter_cons, if_pos hp]
        rfl
      · exact fun b o e => by
          rw [upd_ne (ne_of_none e hD)]
          exact s3 _ _ (s2 _ _ (h2 _ _ e))
    · have hp' : p x = false := by simpa using hp
      rw [hp']
      refine iteF ?_
      refine ⟨?_, h2.trans s2⟩
      rw [s2 _ _ h1, tk, List.filter_append, List.map_append, List.filter_cons, if_neg hp]
      simp
  · rintro H' ⟨h1, h2⟩
    refine q H' h2 ?_
    rw [h1, List.take_length]
/-- each turn draws: ints that R speaks of, the purse counted up by n a turn -/
theorem lc_draws (xs : List V) (a : Addr) (c n : Int) (R : Int → Prop) (w : Walk J xs.length G (YAt xs)) (pu : Purse H a c) (hD : H D = none) (hG : ∀ H', Keep a H H' → G H') (sz : xs.length ≤ 100000)
    (wp : ∀ v, wipe ((wipe σ vs).set j v) vs = wipe σ vs)
    (step : ∀ (i : Nat) (x : V) (H' : Hp), xs[i]? = some x → Keep a H H' → Purse H' a (c + n * i) → ∀ Q' : VK, (∀ (y : Int) (H'' : Hp), R y → Keep a H' H'' → Purse H'' a (c + n * ((i + 1 : Nat) : Int)) → Q' (.int y) H'') → te ((wipe σ vs).set j (some x)) H' Q')
    (q : ∀ (H' : Hp) (ys : List Int), ys.length = xs.length → (∀ y ∈ ys, R y) → H' D = some (.lst (ys.map V.int)) → Keep a H H' → Purse H' a (c + n * xs.length) → Qd H') :
    ∃ W : Nat → Nat → Hp → Prop, (∃ m, W 0 m (upd H D (.lst []))) ∧ ∀ i m H, W i m H →
      (J.stop i H ∧ Qd H) ∨ (J.go i H ∧ ∃ Nx : Hp → Prop, (∀ H', Nx H' → ∃ m', m' < m ∧ W (i + 1) m' H') ∧ ∀ x H', J.yld i H x H' → gName j x (wipe σ vs) H' fun σ2 H2 => wipe σ2 vs = wipe σ vs ∧ tYes σ2 H2 fun b H3 =>
        if b = true then te σ2 H3 fun y H4 => ∃ acc, H4 D = some (.lst acc) ∧ acc.length < sizeLine ∧ Nx (upd H4 D (.lst (acc ++ [y]))) else Nx H3) := by
  have nD : D ≠ a := pu.fresh hD
  refine lc_it w (fun i H' => ∃ ys : List Int, ys.length = i ∧ (∀ y ∈ ys, R y) ∧ H' D = some (.lst (ys.map V.int)) ∧ Keep a H H' ∧ Purse H' a (c + n * i)) ⟨[], rfl, (fun y h => by cases h), upd_same, .of (Same.new hD), (pu.same (Same.new hD)).le (by simp)⟩ (fun i H' _ h => by obtain ⟨_, _, _, _, k, _⟩ := h; exact hG H' k) ?_ ?_
  · rintro i x H1 H' hi ⟨ys, h1, h2, h3, h4, h5⟩ ⟨rfl, hx⟩
    refine ⟨wp _, w_yes ?_⟩
    rw [if_pos rfl]
    refine step i x H' hx h4 h5 _ fun y H2 r k2 p2 => ?_
    refine ⟨_, k2.at_ nD h3, ?_, ys ++ [y], ?_, ?_, ?_, ?_, ?_⟩
    · rw [List.length_map]
      have : (100000 : Nat) < sizeLine := by decide
      omega
    · rw [List.length_append, h1]
      rfl
    · intro z hz
      rcases List.mem_append.mp hz with e | e
      · exact h2 z e
      · have : z = y := by simpa using e
        rw [this]; exact r
    · rw [upd_same, List.map_append]
      rfl
    · intro b o nb hb
      rw [upd_ne (ne_of_none hb hD)]
      exact k2 _ _ nb (h4 _ _ nb hb)
    · obtain ⟨x1, y1, z1, e, r1⟩ := p2
      exact ⟨x1, y1, z1, by rw [upd_ne nD.symm]; exact e, r1⟩
  · rintro H' ⟨ys, h1, h2, h3, h4, h5⟩
    exact q H' ys h1 h2 h3 h4 h5
end
theorem walk_rangeY {lo : Int} {n : Nat} : Walk (Itr lo n) ((List.range n).map fun i : Nat => V.int (lo + i)).length (fun _ => True) (YAt ((List.range n).map fun i : Nat => V.int (lo + i))) := by
  have h := walk_range (lo := lo) (n := n)
  have e : ((List.range n).map fun i : Nat => V.int (lo + i)).length = n := by simp
  rw [e]
  refine h.mono (fun _ h => h) (fun i H x H' hi _ y => ?_)
  obtain ⟨rfl, rfl⟩ := y
  refine ⟨rfl, ?_⟩
  rw [List.getElem?_map, List.getElem?_range hi]
  rfl
/-! ### sums, and a letter exchanged -/
def hv (cs : List Int) (b : Int) : Int := cs.foldl (fun f c => f * b + c) 0
theorem hv_fold (cs : List Int) (b : Int) : ∀ a : Int, cs.foldl (fun f c => f * b + c) a = a * b ^ cs.length + hv cs b := by
  unfold hv
  induction cs with
  | nil => intro a; simp
  | cons c r ih =>
    intro a
    rw [List.foldl_cons, List.foldl_cons, ih, ih (0 * b + c), List.length_cons, Int.pow_succ, Int.zero_mul, Int.zero_add, Int.add_mul, Int.mul_assoc, Int.mul_comm b]
    omega
theorem hv_cons (c : Int) (cs : List Int) (b : Int) : hv (c :: cs) b = c * b ^ cs.length + hv cs b := by
  show List.foldl _ _ _ = _
  rw [List.foldl_cons, hv_fold, Int.zero_mul, Int.zero_add]
theorem rest_hv (cs : List Int) (b n : Int) : restAt cs b n = hv cs b % n := by
  unfold restAt hv
  have : ∀ (cs : List Int) (a a' : Int), a % n = a' % n → (cs.foldl (fun f c => (f * b + c) % n) a) % n = (cs.foldl (fun f c => f * b + c) a') % n := by
    intro cs
    induction cs with
    | nil => exact fun a a' h => h
    | cons c r ih =>
      intro a a' h
      rw [List.foldl_cons, List.foldl_cons]
      refine ih _ _ ?_
      rw [Int.emod_emod_of_dvd _ (Int.dvd_refl n), Int.add_emod, Int.mul_emod, h, ← Int.mul_emod, ← Int.add_emod]
  cases cs with
  | nil => simp
  | cons c r =>
    have h := this (c :: r) 0 0 rfl
    rw [← h]
    have h2 : ∀ (cs : List Int) (a : Int), a % n = a → (cs.foldl (fun f c => (f * b + c) % n) a) % n = cs.foldl (fun f c => (f * b + c) % n) a := by
      intro cs
      induction cs with
      | nil => exact fun a h => h
      | cons c r ih => exact fun a h => ih _ (Int.emod_emod_of_dvd _ (Int.dvd_refl n))
    exact (h2 (c :: r) 0 (by simp)).symm
/-! ### promises of the law's own drawing -/
def spMixed : Sp := fun vs H Q _ => ∃ a b : Int, vs = [.int a, .int b] ∧ 0 ≤ a ∧ a < 2 ^ 31 ∧ 0 ≤ b ∧ b < 2 ^ 60 ∧ ∀ r : Int, 0 ≤ r → r < 2 ^ 31 → Q (.int r) H
def spPurse (K : PySem.W.Frag) : Sp := fun vs H Q _ => ∃ (a : Addr) (ns : List Int) (i : Int), vs = [.ref a, .int i] ∧ SqL K H a (ns.map V.int) ∧ 0 ≤ i ∧ i < 2 ^ 40 ∧
  ∀ p H', H p = none → Same H H' → Purse H' p (1000 * i) → Q (.ref p) H'
def spDraw : Sp := fun vs H Q _ => ∃ (a : Addr) (n c : Int), vs = [.ref a, .int n] ∧ 0 < n ∧ n < 2 ^ 60 ∧ c < 2 ^ 50 ∧ Purse H a c ∧
  ∀ r H', 0 ≤ r → r < n → Keep a H H' → Purse H' a (c + 1) → Q (.int r) H'
theorem use_draw {H : Hp} {Q : VK} {E : XK} {a : Addr} {n c : Int} (p : Purse H a c) (n0 : 0 < n) (n1 : n < 2 ^ 60) (hc : c < 2 ^ 50) (q : ∀ r H', 0 ≤ r → r < n → Keep a H H' → Purse H' a (c + 1) → Q (.int r) H') :
    spDraw ([.ref a, .int n] ++ []) H Q E := ⟨a, n, c, rfl, n0, n1, hc, p, q⟩
def spGreat : Sp := fun vs H Q _ => ∃ (a : Addr) (n c : Int), vs = [.ref a, .int n] ∧ 0 ≤ n ∧ n < 1000 ∧ c < 2 ^ 49 ∧ Purse H a c ∧
  ∀ r H', 0 ≤ r → r < 10 ^ n.toNat → Keep a H H' → Purse H' a (c + n) → Q (.int r) H'
theorem use_great {H : Hp} {Q : VK} {E : XK} {a : Addr} {n c : Int} (p : Purse H a c) (n0 : 0 ≤ n) (n1 : n < 1000) (hc : c < 2 ^ 49) (q : ∀ r H', 0 ≤ r → r < 10 ^ n.toNat → Keep a H H' → Purse H' a (c + n) → Q (.int r) H') :
    spGreat ([.ref a, .int n] ++ []) H Q E := ⟨a, n, c, rfl, n0, n1, hc, p, q⟩

def spPairs : Sp := fun vs H Q _ => ∃ (a : Addr) (n c : Int), vs = [.ref a, .int n] ∧ 0 ≤ n ∧ n ≤ 11 ∧ c < 2 ^ 48 ∧ Purse H a c ∧
  ∀ l H' ps, H l = none → Keep a H H' → Purse H' a (c + 22) → PrL H' l ps → Asc 0 ps → Small ps → (ps.length : Int) ≤ n → (∀ q ∈ ps, q.2 ≤ 12) → Q (.ref l) H'
theorem use_pairs {H : Hp} {Q : VK} {E : XK} {a : Addr} {n c : Int} (p : Purse H a c) (n0 : 0 ≤ n) (n1 : n ≤ 11) (hc : c < 2 ^ 48)
    (q : ∀ l H' ps, H l = none → Keep a H H' → Purse H' a (c + 22) → PrL H' l ps → Asc 0 ps → Small ps → (ps.length : Int) ≤ n → (∀ q ∈ ps, q.2 ≤ 12) → Q (.ref l) H') : spPairs ([.ref a, .int n] ++ []) H Q E := ⟨a, n, c, rfl, n0, n1, hc, p, q⟩
def spSize : Sp := fun vs H Q _ => ∃ (l : Addr) (ps : List (Int × Int)), vs = [.ref l] ∧ PrL H l ps ∧ Small ps ∧ Q (.int (num ps)) H
def spStyle : Sp := fun vs H Q _ => ∃ (a : Addr) (c : Int), vs = [.ref a] ∧ c < 2 ^ 48 ∧ Purse H a c ∧
  ∀ p H' (y : Sty), H p = none → Keep a H H' → Purse H' a (c + 34) → H' p = some (.lst [.bl y.low, .int y.shift, .bl y.lead]) → y.shift.natAbs < 10 ^ 31 → Q (.ref p) H'
def spMarking (ca : CA) : Sp := fun vs H Q _ => ∃ (g : Addr) (y : Sty), vs = [.ref g] ∧ H g = some (.lst [.bl y.low, .int y.shift, .bl y.lead]) ∧ ∀ k H', H k = none → Same H H' → MkAt ca H' k y.low y.shift y.lead → Q (.ref k) H'
def spRoot : Sp := fun vs H Q _ => ∃ (a : Addr) (n c : Int), vs = [.ref a, .int n] ∧ 0 < n ∧ c < 2 ^ 48 ∧ Purse H a c ∧
  ∀ (r : Int) H', r.natAbs ≤ n.natAbs + 10 ^ 40 → Keep a H H' → Purse H' a (c + 43) → Q (.int r) H'
/-! ### the slots kept as a plain list -/
theorem w_st {t : TS} {N : List Str} {vs : List V} {σ' : L2.St} {D : Ends} {H : Hp} (h : L2.start N vs = σ') (q : t D σ' H) : t D (L2.start N vs) H := by rw [h]; exact q
theorem w_setN {te : TE} {i : Nat} {σ : L2.St} {σ' : V → L2.St} {D : Ends} {H : Hp} (h : ∀ x, σ.set i (some x) = σ' x) (q : te σ H fun x H1 => D.nx (σ' x) H1) : tAsg te (gName i) D σ H := by
  have e : (fun x H1 => D.nx (σ' x) H1) = fun x H1 => gName i x σ H1 D.nx := by
    funext x H1
    rw [← h x]
    rfl
  show te σ H fun x H1 => gName i x σ H1 D.nx
  rw [← e]
  exact q
theorem w_nxD {D : Ends} {σ : L2.St} {H : Hp} (q : D.nx σ H) : D.nx σ H := q
theorem w_rtD {D : Ends} {v : V} {H : Hp} (q : D.rt v H) : D.rt v H := q
theorem w_ctD {D : Ends} {σ : L2.St} {H : Hp} (q : D.ct σ H) : D.ct σ H := q
theorem w_bkD {D : Ends} {σ : L2.St} {H : Hp} (q : D.bk σ H) : D.bk σ H := q
end Bc

namespace Bc
open PySem PySem.Spec PyProof.Rows L2
/-! ### slices of ints, the law's own promise -/
theorem take_min {α : Type} (xs : List α) (j : Nat) : xs.take (min j xs.length) = xs.take j := by
  by_cases h : j ≤ xs.length
  · rw [Nat.min_eq_left h]
  · rw [Nat.min_eq_right (by omega), List.take_length, List.take_of_length_le (by omega)]
theorem drop_min {α : Type} (xs : List α) (j : Nat) : xs.drop (min j xs.length) = xs.drop j := by
  by_cases h : j ≤ xs.length
  · rw [Nat.min_eq_left h]
  · rw [Nat.min_eq_right (by omega), List.drop_length, List.drop_of_length_le (by omega)]
theorem cut_to (ls : List Int) (j : Nat) : cutV (ls.map V.int) none (some (j : Int)) = (ls.take j).map V.int := by
  unfold cutV
  rw [HT.sIx_none, HT.sIx_nat, List.drop_zero, Nat.sub_zero, take_min, List.map_take]
theorem cut_from (ls : List Int) (j : Nat) : cutV (ls.map V.int) (some (j : Int)) none = (ls.drop j).map V.int := by
  unfold cutV
  rw [HT.sIx_none, HT.sIx_nat, drop_min, List.map_drop, List.take_of_length_le]
  rw [List.length_drop, List.length_map]
  by_cases h : j ≤ ls.length
  · rw [Nat.min_eq_left h]; exact Nat.le_refl _
  · omega
theorem sz {n : Nat} (h : n ≤ 100000) : n ≤ sizeLine := Nat.le_trans h (by decide)
theorem map3 (a b c : List Int) : a.map V.int ++ b.map V.int ++ c.map V.int = (a ++ b ++ c).map V.int := by rw [List.map_append, List.map_append]
theorem vals_rev : ∀ {zs : List V} {ws : List Value}, Vals zs ws → Vals zs.reverse ws.reverse
  | _, _, .nil => .nil
  | _, _, .cons r t => by
    rw [List.reverse_cons, List.reverse_cons]
    exact Vals.append (vals_rev t) (.cons r .nil)
theorem Keep.toSame {p : Addr} {H H' : Hp} (n : H p = none) (k : Keep p H H') : Same H H' := fun b o h => k b o (fun e => by rw [e, n] at h; cases h) h
theorem small1 {p k : Int} (h : 0 < p ∧ p < 1024 ∧ 0 < k ∧ k ≤ 100) : Small [(p, k)] := ⟨fun q hq => by
  have : q = (p, k) := by simpa using hq
  rw [this]; exact h, by show 1 ≤ 64; decide⟩
def spLaw (K : PySem.W.Frag) : Sp := fun vs H Q _ => ∃ (a : Addr) (ns : List Int), vs = [.ref a] ∧ SqL K H a (ns.map V.int) ∧ ns.length ≤ 63 ∧ ∀ H', Q (.bl true) H'

end Bc
namespace Bc
open PySem PySem.Spec PyProof.Rows L2
/-! ### texts that are drawn -/
section
variable {J : It} {G : Hp → Prop} {te : TE} {vs : List Nat} {σ : L2.St} {H : Hp} {D : Addr} {Qd : Hp → Prop} {j : Nat}
theorem lc_drawsV (xs : List V) (a : Addr) (c n : Int) (R : V → Prop) (w : Walk J xs.length G (YAt xs)) (pu : Purse H a c) (hD : H D = none) (hG : ∀ H', Keep a H H' → G H') (sz : xs.length ≤ 100000)
    (wp : ∀ v, wipe ((wipe σ vs).set j v) vs = wipe σ vs)
    (step : ∀ (i : Nat) (x : V) (H' : Hp), xs[i]? = some x → Keep a H H' → Purse H' a (c + n * i) → ∀ Q' : VK, (∀ (y : V) (H'' : Hp), R y → Keep a H' H'' → Purse H'' a (c + n * ((i + 1 : Nat) : Int)) → Q' y H'') → te ((wipe σ vs).set j (some x)) H' Q')
    (q : ∀ (H' : Hp) (ys : List V), ys.length = xs.length → (∀ y ∈ ys, R y) → H' D = some (.lst ys) → Keep a H H' → Purse H' a (c + n * xs.length) → Qd H') :
    ∃ W : Nat → Nat → Hp → Prop, (∃ m, W 0 m (upd H D (.lst []))) ∧ ∀ i m H, W i m H →
      (J.stop i H ∧ Qd H) ∨ (J.go i H ∧ ∃ Nx : Hp → Prop, (∀ H', Nx H' → ∃ m', m' < m ∧ W (i + 1) m' H') ∧ ∀ x H', J.yld i H x H' → gName j x (wipe σ vs) H' fun σ2 H2 => wipe σ2 vs = wipe σ vs ∧ tYes σ2 H2 fun b H3 =>
        if b = true then te σ2 H3 fun y H4 => ∃ acc, H4 D = some (.lst acc) ∧ acc.length < sizeLine ∧ Nx (upd H4 D (.lst (acc ++ [y]))) else Nx H3) := by
  have nD : D ≠ a := pu.fresh hD
  refine lc_it w (fun i H' => ∃ ys : List V, ys.length = i ∧ (∀ y ∈ ys, R y) ∧ H' D = some (.lst ys) ∧ Keep a H H' ∧ Purse H' a (c + n * i)) ⟨[], rfl, (fun y h => by cases h), upd_same, .of (Same.new hD), (pu.same (Same.new hD)).le (by simp)⟩ (fun i H' _ h => by obtain ⟨_, _, _, _, k, _⟩ := h; exact hG H' k) ?_ ?_
  · rintro i x H1 H' hi ⟨ys, h1, h2, h3, h4, h5⟩ ⟨rfl, hx⟩
    refine ⟨wp _, w_yes ?_⟩
    rw [if_pos rfl]
    refine step i x H' hx h4 h5 _ fun y H2 r k2 p2 => ?_
    refine ⟨_, k2.at_ nD h3, ?_, ys ++ [y], ?_, ?_, ?_, ?_, ?_⟩
    · have : (100000 : Nat) < sizeLine := by decide
      omega
    · rw [List.length_append, h1]
      rfl
    · intro z hz
      rcases List.mem_append.mp hz with e | e
      · exact h2 z e
      · have : z = y := by simpa using e
        rw [this]; exact r
    · rw [upd_same]
    · intro b o nb hb
      rw [upd_ne (ne_of_none hb hD)]
      exact k2 _ _ nb (h4 _ _ nb hb)
    · obtain ⟨x1, y1, z1, e, r1⟩ := p2
      exact ⟨x1, y1, z1, by rw [upd_ne nD.symm]; exact e, r1⟩
  · rintro H' ⟨ys, h1, h2, h3, h4, h5⟩
    exact q H' ys h1 h2 h3 h4 h5
end
/-- a written text of plain signs -/
def Plain (z : Str) : Prop := ∀ c ∈ z.cps.toList, 32 ≤ c ∧ c ≤ 126
instance (z : Str) : Decidable (Plain z) := inferInstanceAs (Decidable (∀ c ∈ z.cps.toList, _))
theorem signs_of : ∀ {ys : List V}, (∀ y ∈ ys, ∃ c : Nat, (32 ≤ c ∧ c ≤ 126) ∧ y = .str ⟨#[c]⟩) → ∃ cs : List Nat, (∀ c ∈ cs, 32 ≤ c ∧ c ≤ 126) ∧ ys = (cs.map fun c => (⟨#[c]⟩ : Str)).map V.str
  | [], _ => ⟨[], (fun c h => by cases h), rfl⟩
  | y :: r, h => by
    obtain ⟨c, hc, e⟩ := h y (List.mem_cons_self ..)
    obtain ⟨cs, h1, h2⟩ := signs_of (ys := r) fun z hz => h z (List.mem_cons_of_mem _ hz)
    refine ⟨c :: cs, fun d hd => ?_, by rw [e, h2]; rfl⟩
    rcases List.mem_cons.mp hd with z | z
    · rw [z]; exact hc
    · exact h1 d z
theorem joinL_nil : ∀ cs : List Nat, TL.joinL [] (cs.map fun c => [c]) = cs
  | [] => rfl
  | [c] => rfl
  | c :: d :: r => by
    show [c] ++ ([] ++ TL.joinL [] ((d :: r).map fun c => [c])) = _
    rw [joinL_nil (d :: r)]
    rfl
theorem join_signs (cs : List Nat) : (Txt.join (Str.ofString "") (cs.map fun c => (⟨#[c]⟩ : Str))).cps.toList = cs := by
  rw [TL.join_eq]
  have h := TL.tl_join (Str.ofString "") (cs.map fun c => (⟨#[c]⟩ : Str))
  rw [List.map_map] at h
  exact h.trans (joinL_nil cs)
def spSigns : Sp := fun vs H Q _ => ∃ (a : Addr) (n c : Int), vs = [.ref a, .int n] ∧ 0 ≤ n ∧ n ≤ 1000 ∧ c < 2 ^ 48 ∧ Purse H a c ∧
  ∀ (z : Str) H', Keep a H H' → Purse H' a (c + 1 + n) → Plain z → (z.length : Int) = n → Q (.str z) H'
def spLetter : Sp := fun vs H Q _ => ∃ (a : Addr) (c : Int), vs = [.ref a] ∧ c < 2 ^ 48 ∧ Purse H a c ∧ ∀ (x : Int) H', Keep a H H' → Purse H' a (c + 34) → x.natAbs < 10 ^ 31 → Q (.int x) H'
theorem use_letter {H : Hp} {Q : VK} {E : XK} {a : Addr} {c : Int} (p : Purse H a c) (hc : c < 2 ^ 48) (q : ∀ (x : Int) H', Keep a H H' → Purse H' a (c + 34) → x.natAbs < 10 ^ 31 → Q (.int x) H') : spLetter ([.ref a] ++ []) H Q E := ⟨a, c, rfl, hc, p, q⟩
def NotAt (a : Addr) : V → Prop
  | .ref p => p ≠ a
  | _ => True
theorem TextAt.keep {a : Addr} {H H' : Hp} {v : V} {ls : List Int} (t : TextAt H v ls) (n : NotAt a v) (k : Keep a H H') : TextAt H' v ls := by
  cases t with
  | str z h l => exact .str z h l
  | lst p _ h l => exact .lst p _ (k _ _ n h) l
  | tup p _ h l => exact .tup p _ (k _ _ n h) l
def spText : Sp := fun vs H Q _ => ∃ (a : Addr) (n c : Int), vs = [.ref a, .int n] ∧ 0 ≤ n ∧ n ≤ 1000 ∧ c < 2 ^ 47 ∧ Purse H a c ∧
  ∀ (v : V) (ls : List Int) H', Keep a H H' → Purse H' a (c + 2 + 34 * (n + 1)) → TextAt H' v ls → NotAt a v → (ls.length : Int) ≤ n → (∀ l ∈ ls, l.natAbs < 10 ^ 31) → Q v H'
theorem use_text {H : Hp} {Q : VK} {E : XK} {a : Addr} {n c : Int} (p : Purse H a c) (n0 : 0 ≤ n) (n1 : n ≤ 1000) (hc : c < 2 ^ 47) (q : ∀ (v : V) (ls : List Int) H', Keep a H H' → Purse H' a (c + 2 + 34 * (n + 1)) → TextAt H' v ls → NotAt a v → (ls.length : Int) ≤ n → (∀ l ∈ ls, l.natAbs < 10 ^ 31) → Q v H') :
    spText ([.ref a, .int n] ++ []) H Q E := ⟨a, n, c, rfl, n0, n1, hc, p, q⟩
def spLetters : Sp := fun vs H Q _ => ∃ (v : V) (ls : List Int), vs = [v] ∧ TextAt H v ls ∧ ∀ l H', H l = none → Same H H' → H' l = some (.lst (ls.map V.int)) → Q (.ref l) H'
theorem mem_ints {cs : List Nat} {l : Int} (hc : ∀ c ∈ cs, 32 ≤ c ∧ c ≤ 126) (h : l ∈ cs.map Int.ofNat) : l.natAbs < 10 ^ 31 := by
  obtain ⟨c, h1, rfl⟩ := List.mem_map.mp h
  have := hc c h1
  show c < 10 ^ 31
  omega

end Bc
namespace Bc
open PySem PySem.Spec PyProof.Rows L2
/-! ### instances that are called, ways compared -/
section
variable {X : Cx} {k j : Nat} {C : Addr} {sp : Sp} {tf : TE} {t : TA} {fe e : Expr} {es : List Expr} {pos : Pos}
structure CalO (P : Program) (w : World) (K : PySem.W.Frag) (mg : Str → Option Value) (base : Heap) (k : Nat) (C : Addr) (sp : Sp) : Prop where
  ex : ∃ g : Addr, StX.CallO K C g ∧ FnR P w K mg base L2.CX0 k g sp
def tCO (C : Addr) (sp : Sp) (E : XK) (tf : TE) (t : TA) : TE := fun σ H Q => tf σ H fun y H1 => ∃ a, y = V.ref a ∧ t σ H1 fun vs H2 => ((∃ dx vs, SlX.Slt H2 a C dx vs) ∨ ∃ dx fs, H2 a = some (.ins C dx fs)) ∧ sp (V.ref a :: vs) H2 Q E
theorem pe_cO (hf : PE X fe tf) (c : CalO X.prog X.w X.K X.mg X.base k C sp) (hr : Room j X.A) (hk : k ≤ j) (ha : PA X (e :: es) t)
    (ht : eval (.Call fe (e :: es) [] pos) X.env = (do callWith pos (← eval fe X.env) [] (backTo pos (starEach (e :: es) X.env)) (backToKw pos (keywordEach [] X.env))) := by rfl)
    (he : starEach (e :: es) X.env = (false, eval e X.env) :: starEach es X.env := by rfl) (hpl : (backTo pos (starEach es X.env)).any (·.1) = false := by rfl) : PE X (.Call fe (e :: es) [] pos) (tCO C sp L2.E0 tf t) := by
  obtain ⟨g, c1, F⟩ := c.ex
  exact StX.pe_callO hf c1 F (hr.mono hk) pass0 ha ht he hpl
theorem w_cO {σ : L2.St} {H : Hp} {Q : VK} {E : XK} (q : tf σ H fun y H1 => ∃ a, y = V.ref a ∧ t σ H1 fun vs H2 => ((∃ dx vs, SlX.Slt H2 a C dx vs) ∨ ∃ dx fs, H2 a = some (.ins C dx fs)) ∧ sp (V.ref a :: vs) H2 Q E) : tCO C sp E tf t σ H Q := q
theorem w_insC {H : Hp} {a dx : Addr} {fs : List (Str × V)} {P : Prop} (h : H a = some (.ins C dx fs)) (q : P) : ((∃ dx vs, SlX.Slt H a C dx vs) ∨ ∃ dx fs, H a = some (.ins C dx fs)) ∧ P := ⟨.inr ⟨dx, fs, h⟩, q⟩
end
def plainS (y : Sty) (b n : Int) : Int := (y.shift + (if y.lead then b - 1 else 0)) % n
def spShift (c : CA) : Sp := fun vs H Q _ => ∃ (x : Addr) (b : Int) (ps : List (Int × Int)) (y : Sty), vs = [.ref x] ∧ WayAt c H x b ps y ∧ Q (.int (plainS y b (num ps))) H
def spLike (c : CA) : Sp := fun vs H Q _ => ∃ (x x' : Addr) (b b' : Int) (ps ps' : List (Int × Int)) (y y' : Sty), vs = [.ref x, .ref x'] ∧ WayAt c H x b ps y ∧ WayAt c H x' b' ps' y' ∧ y.low = y'.low ∧ Q .non H
def rParts (b n s b' n' s' : Int) : Bool := decide (n % n' = 0) && decide ((b - b') % n' = 0) && decide ((s - s') % n' = 0)
def spParts (c : CA) : Sp := fun vs H Q _ => ∃ (x x' : Addr) (b b' : Int) (ps ps' : List (Int × Int)) (y y' : Sty), vs = [.ref x, .ref x'] ∧ WayAt c H x b ps y ∧ WayAt c H x' b' ps' y' ∧ y.low = y'.low ∧ Q (.bl (rParts b (num ps) (plainS y b (num ps)) b' (num ps') (plainS y' b' (num ps')))) H
def rPartsL (low low' : Bool) (b n b' n' : Int) : Bool := decide (n % n' = 0) && (if low = low' then decide ((b - b') % n' = 0) else decide ((b * b' - 1) % n' = 0))
def spPartsL (c : CA) : Sp := fun vs H Q _ => ∃ (x x' : Addr) (b b' : Int) (ps ps' : List (Int × Int)) (y y' : Sty), vs = [.ref x, .ref x'] ∧ WayAt c H x b ps y ∧ WayAt c H x' b' ps' y' ∧ Q (.bl (rPartsL y.low y'.low b (num ps) b' (num ps'))) H
theorem WayAt.pos {c : CA} {H : Hp} {x : Addr} {b : Int} {ps : List (Int × Int)} {y : Sty} (h : WayAt c H x b ps y) : 0 < num ps := by
  obtain ⟨_, _, _, _, _, _, h1, h2⟩ := h
  omega
theorem decB {a b : Bool} : decide (V.bl a = V.bl b) = decide (a = b) := by cases a <;> cases b <;> rfl

end Bc
namespace Bc
open PySem PySem.Spec PyProof.Rows L2
/-! ### k96: sums turned about -/
theorem hv_app (u v : List Int) (b : Int) : hv (u ++ v) b = hv u b * b ^ v.length + hv v b := by
  show List.foldl _ _ _ = _
  rw [List.foldl_append, hv_fold]
  rfl
/-- 1 + b + .. -/
def geo (b : Int) (n : Nat) : Int := hv (List.replicate n 1) b
theorem geo_succ (b : Int) (n : Nat) : geo b (n + 1) = b ^ n + geo b n := by
  unfold geo
  rw [List.replicate_succ, hv_cons, List.length_replicate, Int.one_mul]
theorem geo_mul (b : Int) : ∀ n : Nat, (b - 1) * geo b n = b ^ n - 1
  | 0 => by simp [geo, hv]
  | n + 1 => by
    rw [geo_succ, Int.pow_succ, Int.mul_add, geo_mul b n]
    grind
theorem hv_map (s b : Int) : ∀ ls : List Int, hv (ls.map (· + s)) b = hv ls b + s * geo b ls.length
  | [] => by simp [geo, hv]
  | l :: r => by
    rw [List.map_cons, hv_cons, hv_cons, hv_map s b r, List.length_map, List.length_cons, geo_succ]
    grind
/-- the mark, by the sum -/
theorem mark_hv (y : Sty) (b n : Int) (ls : List Int) : mark y b n ls = ((if y.lead then 1 else 0) * b ^ ls.length + hv (if y.low then ls.reverse else ls) b + y.shift * geo b ls.length) % n := by
  unfold mark hf
  rw [rest_hv, hv_cons]
  by_cases h : y.low = true
  · rw [if_pos h, if_pos h, ← List.map_reverse, hv_map, List.length_map, List.length_reverse, Int.add_assoc]
  · rw [if_neg h, if_neg h, hv_map, List.length_map, Int.add_assoc]
theorem emod_of {n x y : Int} (k : Int) (h : x = y + n * k) : x % n = y % n := by
  rw [h, Int.add_mul_emod_self_left]
theorem plain_mark (y : Sty) (b n : Int) (ls : List Int) : (mark ⟨y.low, plainS y b n, false⟩ b n ls + (if y.lead then 1 else 0)) % n = mark y b n ls := by
  rw [mark_hv, mark_hv, Int.emod_add_emod]
  unfold plainS
  have h := geo_mul b ls.length
  generalize b ^ ls.length = p at h ⊢
  generalize hv (if y.low = true then ls.reverse else ls) b = z
  generalize geo b ls.length = g at h ⊢
  by_cases hl : y.lead = true
  · simp only [hl, if_true, Bool.false_eq_true, if_false]
    refine emod_of (-((y.shift + (b - 1)) / n) * g) ?_
    rw [Int.emod_def]
    generalize (y.shift + (b - 1)) / n = q
    grind
  · have hl' : y.lead = false := by simpa using hl
    simp only [hl', if_true, Bool.false_eq_true, if_false]
    refine emod_of (-((y.shift + 0) / n) * g) ?_
    rw [Int.emod_def]
    generalize (y.shift + 0) / n = q
    grind
theorem hv_mod (b n : Int) : ∀ cs : List Int, hv cs (b % n) % n = hv cs b % n := fun cs => by
  have h : ∀ (cs : List Int) (a a' : Int), a % n = a' % n → (cs.foldl (fun f c => f * (b % n) + c) a) % n = (cs.foldl (fun f c => f * b + c) a') % n := by
    intro cs
    induction cs with
    | nil => exact fun a a' h => h
    | cons c r ih =>
      intro a a' h
      rw [List.foldl_cons, List.foldl_cons]
      refine ih _ _ ?_
      rw [Int.add_emod, Int.mul_emod, h, Int.emod_emod_of_dvd _ (Int.dvd_refl n), ← Int.mul_emod, ← Int.add_emod]
  exact h cs 0 0 rfl
/-- the difference of two lists of one length -/
def sub2 (ls ms : List Int) : List Int := List.zipWith (· - ·) ls ms
theorem hv_sub (b : Int) : ∀ {ls ms : List Int}, ls.length = ms.length → hv (sub2 ls ms) b = hv ls b - hv ms b
  | [], [], _ => by simp [sub2, hv]
  | [], _ :: _, h => by cases h
  | _ :: _, [], h => by cases h
  | l :: r, m :: t, h => by
    have h' : r.length = t.length := by simpa using h
    have e : sub2 (l :: r) (m :: t) = (l - m) :: sub2 r t := rfl
    have el : (sub2 r t).length = r.length := by unfold sub2; rw [List.length_zipWith]; omega
    rw [e, hv_cons, hv_cons, hv_cons, hv_sub b h', el, ← h']
    grind
theorem sub2_rev : ∀ {ls ms : List Int}, ls.length = ms.length → sub2 ls.reverse ms.reverse = (sub2 ls ms).reverse := fun {ls ms} h => by
  unfold sub2
  rw [List.reverse_zipWith h]
/-- two texts of one length agree just if the number divides the sum of their difference -/
theorem agree_iff {y : Sty} {b n : Int} {ls ms : List Int} (hl : ls.length = ms.length) : mark y b n ls = mark y b n ms ↔ n ∣ hv (if y.low then (sub2 ls ms).reverse else sub2 ls ms) b := by
  rw [mark_hv, mark_hv, Int.emod_eq_emod_iff_emod_sub_eq_zero, ← Int.dvd_iff_emod_eq_zero]
  have e : hv (if y.low then (sub2 ls ms).reverse else sub2 ls ms) b = hv (if y.low then ls.reverse else ls) b - hv (if y.low then ms.reverse else ms) b := by
    by_cases h : y.low = true
    · rw [if_pos h, if_pos h, if_pos h, ← sub2_rev hl, hv_sub b (by simpa using hl)]
    · rw [if_neg h, if_neg h, if_neg h, hv_sub b hl]
  rw [e, hl]
  have e2 : ∀ p q r s g : Int, p + q + s - (p + r + s) = q - r := fun p q r s g => by omega
  rw [e2 _ _ _ _ 0]
/-- read from the other end by an inverse -/
theorem hv_turn {b c n u : Int} (h : b * c = 1 + n * u) : ∀ ds : List Int, ∃ k, hv ds.reverse c * b ^ ds.length = hv ds b * b + n * k
  | [] => ⟨0, by simp [hv]⟩
  | d :: r => by
    obtain ⟨k, hk⟩ := hv_turn h r
    refine ⟨hv r.reverse c * b ^ r.length * u + k, ?_⟩
    have e : hv [d] c = d := by simp [hv]
    rw [List.reverse_cons, hv_app, e, hv_cons d r b]
    show (hv r.reverse c * c ^ 1 + d) * b ^ (r.length + 1) = _
    rw [Int.pow_succ b r.length]
    generalize hv r.reverse c = x at hk ⊢
    generalize b ^ r.length = p at hk ⊢
    generalize hv r b = z at hk ⊢
    grind
theorem turn_dvd {b c n u : Int} (h : b * c = 1 + n * u) (ds : List Int) : n ∣ hv ds.reverse c ↔ n ∣ hv ds b := by
  obtain ⟨k, hk⟩ := hv_turn h ds
  have hp : ∀ m : Nat, ∃ v, b ^ m * c ^ m = 1 + n * v := fun m => by
    induction m with
    | zero => exact ⟨0, by simp⟩
    | succ m ih =>
      obtain ⟨v, hv⟩ := ih
      refine ⟨v + u + n * u * v, ?_⟩
      rw [Int.pow_succ, Int.pow_succ]
      generalize b ^ m = p at hv ⊢
      generalize c ^ m = q at hv ⊢
      grind
  constructor
  · rintro ⟨t, ht⟩
    refine ⟨t * b ^ ds.length * c - k * c - hv ds b * u, ?_⟩
    rw [ht] at hk
    generalize hv ds b = z at hk ⊢
    generalize b ^ ds.length = p at hk ⊢
    grind
  · rintro ⟨t, ht⟩
    obtain ⟨v, hv'⟩ := hp ds.length
    refine ⟨(t * b + k) * c ^ ds.length - hv ds.reverse c * v, ?_⟩
    rw [ht] at hk
    generalize hv ds.reverse c = z at hk ⊢
    generalize b ^ ds.length = p at hk hv' ⊢
    generalize c ^ ds.length = q at hv' ⊢
    grind

def spInv : Sp := fun vs H Q _ => ∃ (r n : Int) (B : Nat), vs = [.int r, .int n] ∧ 0 < n ∧ n.natAbs < 2 ^ B ∧ B ≤ 8000 ∧ (∀ (i u : Int) H', Same H H' → 0 ≤ i → i < n → r * i = 1 + n * u → Q (.int i) H') ∧ (∀ H', Same H H' → (∀ i u : Int, r * i ≠ 1 + n * u) → Q .non H')
/-- the two rows of the search for an inverse -/
def InvRow (r n one two f l : Int) : Prop := (one ≤ n ∧ two ≤ n) ∧ 0 < one ∧ 0 ≤ two ∧ (∃ u, f * r = one + n * u) ∧ (∃ v, l * r = two + n * v) ∧ Int.gcd one two = Int.gcd r n ∧ ∃ s F L : Int, (s = 1 ∨ s = -1) ∧ f = -s * F ∧ l = s * L ∧ 0 ≤ F ∧ 0 ≤ L ∧ L * one + F * two = n
theorem InvRow.start {r n : Int} (hn : 0 < n) : InvRow r n n (r % n) 0 1 := by
  have hlt := Int.emod_lt_of_pos r hn
  refine ⟨⟨by omega, by omega⟩, hn, Int.emod_nonneg _ (by omega), ⟨-1, by omega⟩, ⟨r / n, ?_⟩, ?_, 1, 0, 1, .inl rfl, rfl, rfl, by decide, by decide, by omega⟩
  · have := Int.emod_add_mul_ediv r n
    omega
  · have h := Int.gcd_mul_left_add_left n (r % n) (r / n)
    rw [Int.mul_ediv_add_emod] at h
    rw [Int.gcd_comm, h]
theorem InvRow.step {r n one two f l : Int} (h : InvRow r n one two f l) (h2 : two ≠ 0) : InvRow r n two (one - one / two * two) l (f - one / two * l) := by
  obtain ⟨a0, a1, a2, ⟨u, a3⟩, ⟨v, a4⟩, a5, s, F, L, a6, a7, a8, a9, a10, a11⟩ := h
  have hlt := Int.emod_lt_of_pos one (show 0 < two by omega)
  have e : one - one / two * two = one % two := by rw [Int.emod_def, Int.mul_comm]
  have hm := Int.emod_nonneg one h2
  have hq : 0 ≤ one / two := Int.ediv_nonneg (by omega) a2
  refine ⟨⟨by omega, by omega⟩, by omega, by omega, ⟨v, a4⟩, ⟨u - one / two * v, ?_⟩, ?_, -s, L, F + one / two * L, ?_, ?_, ?_, a10, ?_, ?_⟩
  · generalize one / two = t
    grind
  · rw [e, ← a5]
    have h6 := Int.gcd_mul_left_add_right two (one % two) (one / two)
    rw [Int.mul_ediv_add_emod] at h6
    rw [← h6, Int.gcd_comm]
  · omega
  · rw [a8]; grind
  · rw [a7, a8]
    generalize one / two = t
    grind
  · have := Int.mul_nonneg hq a10
    omega
  · generalize one / two = t
    grind
theorem InvRow.small {r n one two f l : Int} (h : InvRow r n one two f l) : l.natAbs ≤ n.natAbs := by
  obtain ⟨_, a1, a2, _, _, _, s, F, L, a6, a7, a8, a9, a10, a11⟩ := h
  have h1 : L ≤ L * one := by
    have := Int.mul_le_mul_of_nonneg_left (show 1 ≤ one by omega) a10
    omega
  have h2 : 0 ≤ F * two := Int.mul_nonneg a9 a2
  rcases a6 with rfl | rfl <;> omega
theorem InvRow.ends {r n one f l : Int} (h : InvRow r n one 0 f l) : (one = 1 → ∃ u, r * (f % n) = 1 + n * u) ∧ (one ≠ 1 → ∀ i u : Int, r * i ≠ 1 + n * u) := by
  obtain ⟨_, a1, _, ⟨u, a3⟩, _, a5, _⟩ := h
  constructor
  · intro e
    refine ⟨u - r * (f / n), ?_⟩
    rw [Int.emod_def]
    generalize f / n = q
    grind
  · intro e i u z
    rw [Int.gcd_zero] at a5
    have h1 : (Int.gcd r n : Int) ∣ 1 := by
      have d1 : (Int.gcd r n : Int) ∣ r * i := Int.dvd_trans (Int.gcd_dvd_left r n) (Int.dvd_mul_right _ _)
      have d2 : (Int.gcd r n : Int) ∣ n * u := Int.dvd_trans (Int.gcd_dvd_right r n) (Int.dvd_mul_right _ _)
      have := Int.dvd_sub d1 d2
      rwa [z, show 1 + n * u - n * u = 1 by omega] at this
    have h2 := Int.le_of_dvd (by decide) h1
    omega
def spNear : Sp := fun vs H Q _ => ∃ (a l : Addr) (ls : List Int) (r n c : Int), vs = [.ref a, .ref l, .int r, .int n] ∧ l ≠ a ∧ H l = some (.lst (ls.map V.int)) ∧ ls.length ≤ 1000 ∧ c < 2 ^ 47 ∧ Purse H a c ∧
  ∀ (m : Addr) (ms : List Int) H', H m = none → Keep a H H' → Purse H' a (c + 5) → H' m = some (.lst (ms.map V.int)) → ms.length = ls.length → hv ms r = hv ls r → Q (.ref m) H'
theorem near_hv {ls : List Int} {j : Nat} (h : j + 1 < ls.length) (s r : Int) : hv (ls.take j ++ [ls.getD j 0 + s, ls.getD (j + 1) 0 - s * r] ++ ls.drop (j + 2)) r = hv ls r := by
  have e : ls = ls.take j ++ [ls.getD j 0, ls.getD (j + 1) 0] ++ ls.drop (j + 2) := by
    have h1 : ls.getD j 0 = ls[j] := by simp [List.getD, h, show j < ls.length by omega]
    have h2 : ls.getD (j + 1) 0 = ls[j + 1] := by simp [List.getD, h]
    rw [h1, h2, List.append_assoc]
    show ls = ls.take j ++ (ls[j] :: ls[j + 1] :: ls.drop (j + 2))
    rw [← List.drop_eq_getElem_cons h, ← List.drop_eq_getElem_cons (show j < ls.length by omega), List.take_append_drop]
  conv => rhs; rw [e]
  rw [hv_app, hv_app, hv_app, hv_app]
  have e3 : ∀ x y : Int, hv [x, y] r = x * r + y := fun x y => by simp [hv]
  rw [e3, e3]
  generalize hv (ls.take j) r = z
  generalize hv (ls.drop (j + 2)) r = w
  generalize r ^ (ls.drop (j + 2)).length = p
  show (z * r ^ 2 + _) * p + w = (z * r ^ 2 + _) * p + w
  generalize r ^ 2 = q
  grind
def spRight : Sp := fun vs H Q _ => ∃ (a : Addr) (c : Int), vs = [.ref a] ∧ c < 2 ^ 46 ∧ Purse H a c ∧ ∀ H', Keep a H H' → Purse H' a (c + 10000) → Q (.bl true) H'
theorem cut3 (x y z : V) : cutV [x, y, z] (some 1) none = [y, z] := by
  have h := HT.sIx_nat 3 0 1
  unfold cutV
  rw [HT.sIx_none, show HT.sIx [x, y, z].length 0 (some 1) = min 1 3 from h]
  rfl
theorem three_ne (l : Bool) (s : Int) (d : Bool) (x y z : Int) : HO.lst [.bl l, .int s, .bl d] ≠ .lst [.int x, .int y, .int z] := fun e => by cases e
theorem bound3 {ps : List (Int × Int)} (hs : Small ps) (hl : (ps.length : Int) ≤ 3) : (num ps).natAbs < 2 ^ 3031 := by
  have h := (num_bound hs ps.length (Nat.le_refl _)).2
  rw [List.take_length] at h
  exact Nat.lt_of_lt_of_le h (Nat.pow_le_pow_right (by decide) (by omega))
theorem mark_rev1 (s : Int) (d : Bool) (b n : Int) (ls : List Int) : mark ⟨true, s, d⟩ b n ls.reverse = mark ⟨false, s, d⟩ b n ls := by
  unfold mark hf
  simp only [if_true, Bool.false_eq_true, if_false]
  rw [← List.map_reverse, List.reverse_reverse]
theorem mark_rev2 (s : Int) (d : Bool) (b n : Int) (ls : List Int) : mark ⟨false, s, d⟩ b n ls.reverse = mark ⟨true, s, d⟩ b n ls := by
  unfold mark hf
  simp only [if_true, Bool.false_eq_true, if_false]
  rw [List.map_reverse]
theorem plainS_plain (y : Sty) (l : Bool) (b n : Int) : plainS ⟨l, plainS y b n, false⟩ b n = plainS y b n := by
  unfold plainS
  simp only [Bool.false_eq_true, if_false]
  rw [Int.add_zero, Int.emod_emod_of_dvd _ (Int.dvd_refl n)]
theorem parts_self (b n s : Int) : rParts b n s b n s = true := by
  unfold rParts
  simp
theorem partsL_no {r n : Int} (h : ∀ i u : Int, r * i ≠ 1 + n * u) : rPartsL false true (r % n) n (r % n) n = false := by
  unfold rPartsL
  rw [if_neg (by decide)]
  have : ¬ (r % n * (r % n) - 1) % n = 0 := fun z => by
    obtain ⟨k, hk⟩ := Int.dvd_of_emod_eq_zero z
    refine h (r % n) (k + r / n * (r % n)) ?_
    have e := Int.emod_add_mul_ediv r n
    generalize r / n = q at e ⊢
    generalize r % n = m at e hk ⊢
    grind
  rw [decide_eq_false this, Bool.and_false]
theorem prod_mod {r n i u : Int} (h : r * i = 1 + n * u) : ∃ v, r % n * (i % n) = 1 + n * v := by
  refine ⟨u - r / n * i - i / n * r + n * (r / n) * (i / n), ?_⟩
  rw [Int.emod_def, Int.emod_def]
  generalize r / n = q
  generalize i / n = t
  grind
theorem partsL_yes {r n i u : Int} (h : r * i = 1 + n * u) : rPartsL false true (r % n) n (i % n) n = true ∧ rPartsL true false (i % n) n (r % n) n = true := by
  obtain ⟨v, hv⟩ := prod_mod h
  unfold rPartsL
  rw [if_neg (by decide), if_neg (by decide), Int.mul_comm (i % n), hv, show 1 + n * v - 1 = n * v by omega]
  simp
theorem agree_turn {r n i u s : Int} {d d' : Bool} {ls ms : List Int} (h : r * i = 1 + n * u) (hl : ls.length = ms.length) : rAgree ⟨false, s, d⟩ (r % n) n ls ms = rAgree ⟨true, s, d'⟩ (i % n) n ls ms := by
  obtain ⟨v, hv⟩ := prod_mod h
  unfold rAgree
  have h1 := agree_iff (y := ⟨false, s, d⟩) (b := r % n) (n := n) hl
  have h2 := agree_iff (y := ⟨true, s, d'⟩) (b := i % n) (n := n) hl
  simp only [if_true, Bool.false_eq_true, if_false] at h1 h2
  rw [turn_dvd hv] at h2
  exact decide_eq_decide.mpr (h1.trans h2.symm)
theorem agree_near {r n s : Int} {d : Bool} {ls ms : List Int} (hl : ms.length = ls.length) (hv' : hv ms r = hv ls r) : rAgree ⟨false, s, d⟩ (r % n) n ls ms = true := by
  unfold rAgree
  refine decide_eq_true ?_
  rw [agree_iff hl.symm]
  simp only [Bool.false_eq_true, if_false]
  rw [hv_sub _ hl.symm, Int.dvd_iff_emod_eq_zero, Int.sub_emod, hv_mod, hv_mod, hv', ← Int.sub_emod, Int.sub_self]
  rfl
theorem w_revx {K : PySem.W.Frag} {H : Hp} {x : Addr} {xs : List V} {P : Addr → List V → Prop} (h : SqL K H x xs) (q : ∀ p, H p = none → P p xs) : ∃ a xs, V.ref x = .ref a ∧ SqL K H a xs ∧ ∀ p, H p = none → P p xs := ⟨x, xs, rfl, h, q⟩

end Bc
namespace Bc
open PySem PySem.Spec PyProof.Rows L2
/-! ### pieces of texts: sums that are not reduced -/
def ld (y : Sty) : Int := if y.lead then 1 else 0
def Sm (y : Sty) (b : Int) (ls : List Int) : Int := ld y * b ^ ls.length + hv (if y.low then ls.reverse else ls) b + y.shift * geo b ls.length
theorem mark_Sm (y : Sty) (b n : Int) (ls : List Int) : mark y b n ls = Sm y b ls % n := mark_hv y b n ls
theorem geo_add (b : Int) (m : Nat) : ∀ k : Nat, geo b (k + m) = geo b k * b ^ m + geo b m
  | 0 => by rw [Nat.zero_add]; simp [geo, hv]
  | k + 1 => by
    rw [Nat.add_right_comm, geo_succ, geo_succ, geo_add b m k, Int.pow_add]
    grind
theorem geo_add2 (b : Int) (k m : Nat) : geo b (k + m) = geo b k + b ^ k * geo b m := by
  rw [Nat.add_comm, geo_add]
  grind
theorem Sm_high {y : Sty} (h : y.low = false) (b : Int) (u v : List Int) : Sm y b (u ++ v) = (Sm y b u - ld y) * b ^ v.length + Sm y b v := by
  unfold Sm
  rw [h]
  simp only [Bool.false_eq_true, if_false]
  rw [List.length_append, hv_app, geo_add, Int.pow_add]
  generalize b ^ u.length = p
  generalize b ^ v.length = q
  grind
theorem Sm_low {y : Sty} (h : y.low = true) (b : Int) (u v : List Int) : Sm y b (u ++ v) = Sm y b u + b ^ u.length * (Sm y b v - ld y) := by
  unfold Sm
  rw [h]
  simp only [if_true]
  rw [List.length_append, List.reverse_append, hv_app, geo_add2, Int.pow_add, List.length_reverse]
  generalize b ^ u.length = p
  generalize b ^ v.length = q
  grind
theorem cg {n x y : Int} : x % n = y % n ↔ ∃ k, x = y + n * k := by
  rw [Int.emod_eq_emod_iff_emod_sub_eq_zero, ← Int.dvd_iff_emod_eq_zero]
  constructor
  · rintro ⟨k, hk⟩
    exact ⟨k, by omega⟩
  · rintro ⟨k, hk⟩
    exact ⟨k, by omega⟩
theorem self_mod (n x : Int) : ∃ k, x % n = x + n * k := ⟨-(x / n), by rw [Int.emod_def]; grind⟩
/-- what joined reckons -/
theorem join_high {y : Sty} (h : y.low = false) (b n : Int) (u v : List Int) : (b ^ v.length % n * (mark y b n u - ld y) + mark y b n v) % n = mark y b n (u ++ v) := by
  rw [mark_Sm, mark_Sm, mark_Sm, Sm_high h, cg]
  obtain ⟨k1, e1⟩ := self_mod n (b ^ v.length)
  obtain ⟨k2, e2⟩ := self_mod n (Sm y b u)
  obtain ⟨k3, e3⟩ := self_mod n (Sm y b v)
  rw [e1, e2, e3]
  generalize b ^ v.length = q
  generalize Sm y b u = su
  generalize Sm y b v = sv
  exact ⟨q * k2 + k1 * (su - ld y) + n * k1 * k2 + k3, by grind⟩
theorem join_low {y : Sty} (h : y.low = true) (b n : Int) (u v : List Int) : (mark y b n u + b ^ u.length % n * (mark y b n v - ld y)) % n = mark y b n (u ++ v) := by
  rw [mark_Sm, mark_Sm, mark_Sm, Sm_low h, cg]
  obtain ⟨k1, e1⟩ := self_mod n (b ^ u.length)
  obtain ⟨k2, e2⟩ := self_mod n (Sm y b v)
  obtain ⟨k3, e3⟩ := self_mod n (Sm y b u)
  rw [e1, e2, e3]
  generalize b ^ u.length = q
  generalize Sm y b u = su
  generalize Sm y b v = sv
  exact ⟨q * k2 + k1 * (sv - ld y) + n * k1 * k2 + k3, by grind⟩
/-- the right part of a high one, the left part of a low one -/
theorem right_high {y : Sty} (h : y.low = false) (b n : Int) (u v : List Int) : (mark y b n (u ++ v) - b ^ v.length % n * (mark y b n u - ld y)) % n = mark y b n v := by
  rw [mark_Sm, mark_Sm, mark_Sm, Sm_high h, cg]
  obtain ⟨k1, e1⟩ := self_mod n (b ^ v.length)
  obtain ⟨k2, e2⟩ := self_mod n (Sm y b u)
  obtain ⟨k3, e3⟩ := self_mod n ((Sm y b u - ld y) * b ^ v.length + Sm y b v)
  rw [e1, e2, e3]
  generalize b ^ v.length = q
  generalize Sm y b u = su
  generalize Sm y b v = sv
  exact ⟨k3 - q * k2 - k1 * (su - ld y) - n * k1 * k2, by grind⟩
theorem left_low {y : Sty} (h : y.low = true) (b n : Int) (u v : List Int) : (mark y b n (u ++ v) - b ^ u.length % n * (mark y b n v - ld y)) % n = mark y b n u := by
  rw [mark_Sm, mark_Sm, mark_Sm, Sm_low h, cg]
  obtain ⟨k1, e1⟩ := self_mod n (b ^ u.length)
  obtain ⟨k2, e2⟩ := self_mod n (Sm y b v)
  obtain ⟨k3, e3⟩ := self_mod n (Sm y b u + b ^ u.length * (Sm y b v - ld y))
  rw [e1, e2, e3]
  generalize b ^ u.length = q
  generalize Sm y b u = su
  generalize Sm y b v = sv
  exact ⟨k3 - q * k2 - k1 * (sv - ld y) - n * k1 * k2, by grind⟩
/-- powers by halves -/
def spPower : Sp := fun vs H Q _ => ∃ (b e n : Int) (B : Nat), vs = [.int b, .int e, .int n] ∧ 0 ≤ e ∧ e < 2 ^ 60 ∧ 0 < n ∧ n.natAbs < 2 ^ B ∧ B ≤ 100000 ∧ Q (.int (b ^ e.toNat % n)) H
theorem half_pow (f : Int) (x : Int) (h : 0 < x) : f ^ x.toNat = (if x % 2 = 1 then f else 1) * (f * f) ^ (x / 2).toNat := by
  have e : x.toNat = (x / 2).toNat + (x / 2).toNat + (x % 2).toNat := by omega
  have h2 : x % 2 = 0 ∨ x % 2 = 1 := by omega
  have hm : ∀ k : Nat, (f * f) ^ k = f ^ k * f ^ k := fun k => by
    induction k with
    | zero => simp
    | succ k ih => rw [Int.pow_succ, Int.pow_succ, ih]; grind
  rw [hm]
  rcases h2 with h2 | h2
  · rw [if_neg (by omega), e, h2, Int.pow_add, Int.pow_add]
    simp
  · rw [if_pos h2, e, h2, Int.pow_add, Int.pow_add]
    show f ^ _ * f ^ _ * f ^ 1 = _
    grind
def spReqMark (c : CA) : Sp := fun vs H Q _ => ∃ (x : Addr) (m b : Int) (ps : List (Int × Int)) (y : Sty), vs = [.ref x, .int m] ∧ WayAt c H x b ps y ∧ 0 ≤ m ∧ m < num ps ∧ Q .non H
def spReqLen : Sp := fun vs H Q _ => ∃ n : Int, vs = [.int n] ∧ 0 ≤ n ∧ Q .non H
def spReqPlace : Sp := fun vs H Q _ => ∃ n f l : Int, vs = [.int n, .int f, .int l] ∧ f ≤ n ∧ n ≤ l ∧ Q .non H
def spReqLetter : Sp := fun vs H Q _ => ∃ n : Int, vs = [.int n] ∧ Q .non H
def spReqPieces (c : CA) : Sp := fun vs H Q _ => ∃ (x : Addr) (m k i j b : Int) (ps : List (Int × Int)) (y : Sty), vs = [.ref x, .int m, .int k, .int i, .int j] ∧ WayAt c H x b ps y ∧ (0 ≤ m ∧ m < num ps) ∧ (0 ≤ k ∧ k < num ps) ∧ 0 ≤ i ∧ 0 ≤ j ∧ Q .non H
def spWeight (c : CA) : Sp := fun vs H Q _ => ∃ (x : Addr) (e b : Int) (ps : List (Int × Int)) (y : Sty), vs = [.ref x, .int e] ∧ WayAt c H x b ps y ∧ 0 ≤ e ∧ e < 2 ^ 60 ∧ Q (.int (b ^ e.toNat % num ps)) H
/-- joined, right_of, left_of, changed, rolled: two texts and what is told -/
def spJoined (c : CA) : Sp := fun vs H Q _ => ∃ (x : Addr) (b : Int) (ps : List (Int × Int)) (y : Sty) (u v : List Int), vs = [.ref x, .int (mark y b (num ps) u), .int (mark y b (num ps) v), .int u.length, .int v.length] ∧ WayAt c H x b ps y ∧ u.length < 2 ^ 40 ∧ v.length < 2 ^ 40 ∧ Q (.int (mark y b (num ps) (u ++ v))) H
theorem mark_range {y : Sty} {b n : Int} (hn : 0 < n) (ls : List Int) : 0 ≤ mark y b n ls ∧ mark y b n ls < n := rest_range hn _
theorem ld_int (y : Sty) : (if y.lead = true then (1 : Int) else 0) = ld y := rfl
theorem pow_mod_range {b n : Int} (hn : 0 < n) (e : Nat) : 0 ≤ b ^ e % n ∧ b ^ e % n < n := ⟨Int.emod_nonneg _ (by omega), Int.emod_lt_of_pos _ hn⟩
theorem ld_range (y : Sty) : 0 ≤ ld y ∧ ld y ≤ 1 := by unfold ld; split <;> omega
theorem WayAt.bits {c : CA} {H : Hp} {x : Addr} {b : Int} {ps : List (Int × Int)} {y : Sty} (h : WayAt c H x b ps y) : (num ps).natAbs < 2 ^ 70000 := by
  obtain ⟨_, _, _, _, ⟨_, _, _, _, _, _, _, hs⟩, _⟩ := h
  exact num_lt hs

end Bc
namespace Bc
open PySem PySem.Spec PyProof.Rows L2
/-! ### heaps by chains: what is known below the purse -/
def rm (a : Addr) (H : Hp) : Hp := fun b => if b = a then none else H b
section
variable {a b p : Addr} {c d : Int} {H H' X : Hp} {o : HO} {Q : VK} {ca : CA} {K : PySem.W.Frag}
theorem rm_le : Same (rm a H) H := fun b o h => by
  unfold rm at h
  by_cases e : b = a
  · rw [if_pos e] at h; cases h
  · rwa [if_neg e] at h
theorem rm_of (n : b ≠ a) (h : H b = some o) : rm a H b = some o := by
  unfold rm
  rw [if_neg n]; exact h
theorem rm_none (h : H b = none) : rm a H b = none := by
  unfold rm
  by_cases e : b = a
  · rw [if_pos e]
  · rw [if_neg e]; exact h
theorem rm_self : rm a H a = none := by
  unfold rm
  rw [if_pos rfl]
theorem Keep.rm (k : Keep a H H') : Same (rm a H) (rm a H') := fun b o h => by
  by_cases e : b = a
  · rw [e, rm_self] at h; cases h
  · exact rm_of e (k b o e (rm_le _ _ h))
theorem _root_.L2.Same.rm (s : Same H H') : Same (rm a H) (rm a H') := Keep.rm (.of s)
theorem Keep.ofR (s : Same (Bc.rm a H) (Bc.rm a H')) : Keep a H H' := fun b o n h => rm_le _ _ (s b o (rm_of n h))
theorem rm_new (n : H a = none) (s : Same (Bc.rm a H) X) : Same H X := fun b o h => s b o (rm_of (fun e => by rw [e, n] at h; cases h) h)
theorem rm_in (n : X a = none) (s : Same X H) : Same X (rm a H) := fun b o h => rm_of (fun e => by rw [e, n] at h; cases h) (s b o h)
theorem rm_upd (n : p ≠ a) : rm a (upd H p o) = upd (rm a H) p o := by
  funext b
  by_cases e : b = a
  · rw [e, rm_self, upd_ne n.symm, rm_self]
  · by_cases e2 : b = p
    · rw [e2, upd_same, rm_of n upd_same]
    · rw [upd_ne e2]
      unfold rm
      rw [if_neg e, if_neg e, upd_ne e2]
theorem rm_updS : rm a (upd H a o) = rm a H := by
  funext b
  by_cases e : b = a
  · rw [e, rm_self, rm_self]
  · unfold rm
    rw [if_neg e, if_neg e, upd_ne e]
theorem rm_free (n : H a = none) : rm a H = H := by
  funext b
  by_cases e : b = a
  · rw [e, rm_self, n]
  · unfold rm
    rw [if_neg e]
theorem rm_comm : rm a (rm b H) = rm b (rm a H) := by
  funext x
  unfold rm
  by_cases e : x = a
  · rw [if_pos e]
    by_cases e2 : x = b
    · rw [if_pos e2]
    · rw [if_neg e2, if_pos e]
  · rw [if_neg e]
    by_cases e2 : x = b
    · rw [if_pos e2, if_pos e2]
    · rw [if_neg e2, if_neg e2, if_neg e]
theorem same_rm (s : Same X (rm a H)) : Same X H := s.trans rm_le
theorem hpL (h : X b = some o) (s : Same X H) : H b = some o := s _ _ h
theorem al (q : ∀ p H', H p = none → Same H H' → H' p = some o → atV Q (.ref p) H') : ∀ p, H p = none → atV Q (.ref p) (upd H p o) := fun p n => q p _ n (Same.new n) upd_same
theorem alR (pu : Purse H a c) (q : ∀ p H', Same (rm a H) (rm a H') → Purse H' a c → rm a H' p = some o → rm a H p = none → atV Q (.ref p) H') : ∀ p, H p = none → atV Q (.ref p) (upd H p o) := fun p n =>
  q p _ (Same.new n).rm (pu.same (Same.new n)) (rm_of (pu.fresh n) upd_same) (rm_none n)
theorem PrL.rm {l : Addr} {ps : List (Int × Int)} (h : PrL H l ps) (pu : Purse H a c) : PrL (rm a H) l ps := by
  obtain ⟨ts, h1, h2⟩ := h
  exact ⟨ts, rm_of (pu.ne h1 refs_ne) h1, paired_imp (fun _ _ z => rm_of (pu.ne z fun _ _ _ w => by cases w) z) h2⟩
theorem ModAt.rm {m : Addr} {ps : List (Int × Int)} (h : ModAt ca H m ps) (pu : Purse H a c) : ModAt ca (rm a H) m ps := by
  obtain ⟨dx, t, ts, h1, h2, h3, h4⟩ := h
  exact ⟨dx, t, ts, rm_of (pu.ne h1 fun _ _ _ w => by cases w) h1, (by obtain ⟨o, d, e⟩ := h2; exact ⟨o, d, rm_of (pu.ne e fun _ _ _ w => by cases w) e⟩), paired_imp (fun _ _ z => rm_of (pu.ne z fun _ _ _ w => by cases w) z) h3, h4⟩
theorem MkAt.rm {m : Addr} {l : Bool} {s : Int} {e : Bool} (h : MkAt ca H m l s e) (pu : Purse H a c) : MkAt ca (rm a H) m l s e := by
  obtain ⟨dx, h1⟩ := h
  exact ⟨dx, rm_of (pu.ne h1 fun _ _ _ w => by cases w) h1⟩
theorem WayAt.rm {m : Addr} {b : Int} {ps : List (Int × Int)} {y : Sty} (h : WayAt ca H m b ps y) (pu : Purse H a c) : WayAt ca (rm a H) m b ps y := by
  obtain ⟨dx, m1, k1, h1, h2, h3, h4⟩ := h
  exact ⟨dx, m1, k1, rm_of (pu.ne h1 fun _ _ _ w => by cases w) h1, h2.rm pu, h3.rm pu, h4⟩
theorem TextAt.rm {v : V} {ls : List Int} (t : TextAt H v ls) (n : NotAt a v) : TextAt (rm a H) v ls := by
  cases t with
  | str z h l => exact .str z h l
  | lst p _ h l => exact .lst p _ (rm_of n h) l
  | tup p _ h l => exact .tup p _ (rm_of n h) l
/-! fields -/
variable {x m k : Addr} {bb : Int} {ps : List (Int × Int)} {y : Sty} {mg : Str → Option Value} {P : V → Prop}
theorem w_wbase (X : Kx K mg ca) (h : WayAt ca H x bb ps y) (q : P (.int bb)) : ∃ a C dx fs v, V.ref x = .ref a ∧ H a = some (.ins C dx fs) ∧ Cls K C ∧ NoAttr K C "base" ∧ fs.lookup ("base" : Str) = some v ∧ P v := by
  obtain ⟨dx, m, k, hx, _⟩ := h
  exact w_fldi hx X.wy.cl X.base wy_base q
theorem w_wnum (X : Kx K mg ca) (h : WayAt ca H x bb ps y) (q : P (.int (num ps))) : ∃ a C dx fs v, V.ref x = .ref a ∧ H a = some (.ins C dx fs) ∧ Cls K C ∧ NoAttr K C "number" ∧ fs.lookup ("number" : Str) = some v ∧ P v := by
  obtain ⟨dx, m, k, hx, _⟩ := h
  exact w_fldi hx X.wy.cl X.wnumber wy_number q
theorem w_wmark (X : Kx K mg ca) (h : WayAt ca H x bb ps y) (q : ∀ k, MkAt ca H k y.low y.shift y.lead → P (.ref k)) : ∃ a C dx fs v, V.ref x = .ref a ∧ H a = some (.ins C dx fs) ∧ Cls K C ∧ NoAttr K C "marking" ∧ fs.lookup ("marking" : Str) = some v ∧ P v := by
  obtain ⟨dx, m, k, hx, hm, hk, _⟩ := h
  exact w_fldi hx X.wy.cl X.marking wy_marking (q k hk)
theorem w_wmod (X : Kx K mg ca) (h : WayAt ca H x bb ps y) (q : ∀ m, ModAt ca H m ps → P (.ref m)) : ∃ a C dx fs v, V.ref x = .ref a ∧ H a = some (.ins C dx fs) ∧ Cls K C ∧ NoAttr K C "modulus" ∧ fs.lookup ("modulus" : Str) = some v ∧ P v := by
  obtain ⟨dx, m, k, hx, hm, hk, _⟩ := h
  exact w_fldi hx X.wy.cl X.modulus wy_modulus (q m hm)
theorem w_mnum (X : Kx K mg ca) (h : ModAt ca H m ps) (q : P (.int (num ps))) : ∃ a C dx fs v, V.ref m = .ref a ∧ H a = some (.ins C dx fs) ∧ Cls K C ∧ NoAttr K C "number" ∧ fs.lookup ("number" : Str) = some v ∧ P v := by
  obtain ⟨dx, t, ts, hx, _⟩ := h
  exact w_fldi hx X.md.cl X.number md_number q
theorem w_mfac (X : Kx K mg ca) (h : ModAt ca H m ps) (q : ∀ t ts, TupF H t (ts.map V.ref) → Paired (Tp H) ps ts → P (.ref t)) : ∃ a C dx fs v, V.ref m = .ref a ∧ H a = some (.ins C dx fs) ∧ Cls K C ∧ NoAttr K C "factors" ∧ fs.lookup ("factors" : Str) = some v ∧ P v := by
  obtain ⟨dx, t, ts, hx, h1, h2, _⟩ := h
  exact w_fldi hx X.md.cl X.factors md_factors (q t ts h1 h2)
theorem w_klow (X : Kx K mg ca) {l e : Bool} {s : Int} (h : MkAt ca H k l s e) (q : P (.bl l)) : ∃ a C dx fs v, V.ref k = .ref a ∧ H a = some (.ins C dx fs) ∧ Cls K C ∧ NoAttr K C "low" ∧ fs.lookup ("low" : Str) = some v ∧ P v := by
  obtain ⟨dx, hx⟩ := h
  exact w_fldi hx X.kg.cl X.low mk_low q
theorem w_kshift (X : Kx K mg ca) {l e : Bool} {s : Int} (h : MkAt ca H k l s e) (q : P (.int s)) : ∃ a C dx fs v, V.ref k = .ref a ∧ H a = some (.ins C dx fs) ∧ Cls K C ∧ NoAttr K C "shift" ∧ fs.lookup ("shift" : Str) = some v ∧ P v := by
  obtain ⟨dx, hx⟩ := h
  exact w_fldi hx X.kg.cl X.shift mk_shift q
theorem w_klead (X : Kx K mg ca) {l e : Bool} {s : Int} (h : MkAt ca H k l s e) (q : P (.bl e)) : ∃ a C dx fs v, V.ref k = .ref a ∧ H a = some (.ins C dx fs) ∧ Cls K C ∧ NoAttr K C "lead" ∧ fs.lookup ("lead" : Str) = some v ∧ P v := by
  obtain ⟨dx, hx⟩ := h
  exact w_fldi hx X.kg.cl X.lead mk_lead q
/-! calls, below the purse -/
variable {E : XK} {n : Int} {l g : Addr} {PP : Addr → Hp → Prop}
theorem use_drawR (pu : Purse H a c) (n0 : 0 < n) (n1 : n < 2 ^ 60) (hc : c < 2 ^ 50) (q : ∀ r H', 0 ≤ r → r < n → Same (rm a H) (rm a H') → Purse H' a (c + 1) → Q (.int r) H') : spDraw ([.ref a, .int n] ++ []) H Q E :=
  use_draw pu n0 n1 hc fun r H' h0 h1 k p => q r H' h0 h1 k.rm p
theorem use_greatR (pu : Purse H a c) (n0 : 0 ≤ n) (n1 : n < 1000) (hc : c < 2 ^ 49) (q : ∀ r H', 0 ≤ r → r < 10 ^ n.toNat → Same (rm a H) (rm a H') → Purse H' a (c + n) → Q (.int r) H') : spGreat ([.ref a, .int n] ++ []) H Q E :=
  use_great pu n0 n1 hc fun r H' h0 h1 k p => q r H' h0 h1 k.rm p
theorem use_pairsR (pu : Purse H a c) (n0 : 0 ≤ n) (n1 : n ≤ 11) (hc : c < 2 ^ 48)
    (q : ∀ l H' ps, Same (rm a H) (rm a H') → Purse H' a (c + 22) → PrL (rm a H') l ps → Asc 0 ps → Small ps → (ps.length : Int) ≤ n → (∀ q ∈ ps, q.2 ≤ 12) → Q (.ref l) H') : spPairs ([.ref a, .int n] ++ []) H Q E :=
  use_pairs pu n0 n1 hc fun l H' ps _ k p h => q l H' ps k.rm p (h.rm p)
theorem use_sizeR (h : PrL H l ps) (hs : Small ps) (q : Q (.int (num ps)) H) : spSize ([.ref l] ++ []) H Q E := ⟨l, ps, rfl, h, hs, q⟩
theorem use_styleR (pu : Purse H a c) (hc : c < 2 ^ 48) (q : ∀ p H' (y : Sty), Same (rm a H) (rm a H') → Purse H' a (c + 34) → rm a H' p = some (.lst [.bl y.low, .int y.shift, .bl y.lead]) → y.shift.natAbs < 10 ^ 31 → Q (.ref p) H') : spStyle ([.ref a] ++ []) H Q E :=
  ⟨a, c, rfl, hc, pu, fun p H' y _ k p2 h => q p H' y k.rm p2 (rm_of (p2.ne h (fun _ _ _ w => by cases w)) h)⟩
theorem use_markingR (pu : Purse H a c) (h : H g = some (.lst [.bl y.low, .int y.shift, .bl y.lead])) (q : ∀ k H', Same (rm a H) (rm a H') → Purse H' a c → MkAt ca (rm a H') k y.low y.shift y.lead → Q (.ref k) H') : spMarking ca ([.ref g] ++ []) H Q E :=
  ⟨g, y, rfl, h, fun k H' _ s hk => q k H' s.rm (pu.same s) (hk.rm (pu.same s))⟩
theorem use_rootR (pu : Purse H a c) (n0 : 0 < n) (hc : c < 2 ^ 48) (q : ∀ (r : Int) H', r.natAbs ≤ n.natAbs + 10 ^ 40 → Same (rm a H) (rm a H') → Purse H' a (c + 43) → Q (.int r) H') : spRoot ([.ref a, .int n] ++ []) H Q E :=
  ⟨a, n, c, rfl, n0, hc, pu, fun r H' h k p => q r H' h k.rm p⟩
theorem use_letterR (pu : Purse H a c) (hc : c < 2 ^ 48) (q : ∀ (x : Int) H', Same (rm a H) (rm a H') → Purse H' a (c + 34) → x.natAbs < 10 ^ 31 → Q (.int x) H') : spLetter ([.ref a] ++ []) H Q E :=
  use_letter pu hc fun x H' k p h => q x H' k.rm p h
theorem use_textR (pu : Purse H a c) (n0 : 0 ≤ n) (n1 : n ≤ 1000) (hc : c < 2 ^ 47) (q : ∀ (v : V) (ls : List Int) H', Same (rm a H) (rm a H') → Purse H' a (c + 2 + 34 * (n + 1)) → TextAt (rm a H') v ls → (ls.length : Int) ≤ n → (∀ l ∈ ls, l.natAbs < 10 ^ 31) → Q v H') :
    spText ([.ref a, .int n] ++ []) H Q E := use_text pu n0 n1 hc fun v ls H' k p t na h1 h2 => q v ls H' k.rm p (t.rm na) h1 h2
theorem use_lettersR {v : V} {ls : List Int} (pu : Purse H a c) (t : TextAt H v ls) (q : ∀ l H', Same (rm a H) (rm a H') → Purse H' a c → rm a H' l = some (.lst (ls.map V.int)) → Q (.ref l) H') : spLetters ([v] ++ []) H Q E :=
  ⟨v, ls, rfl, t, fun l H' nl s h => q l H' s.rm (pu.same s) (rm_of (pu.fresh nl) h)⟩
theorem use_modR (pu : Purse H a c) (hl : PrL H l ps) (ha : Asc 0 ps) (hs : Small ps) (q : ∀ m H', Same (rm a H) (rm a H') → Purse H' a c → ModAt ca (rm a H') m ps → PP m H') :
    ∀ x dx, H x = none → H dx = none → dx ≠ x → spModInit ca (.ref x :: ([.ref l] ++ [])) (upd (upd H dx (.own x)) x (.ins ca.md dx [])) (fun v H2 => v = .non ∧ PP x H2) E := by
  obtain ⟨ts, h1, h2⟩ := hl
  exact use_mod h1 h2 ha hs fun m H' _ s hm => q m H' s.rm (pu.same s) (hm.rm (pu.same s))
theorem use_modS (hl : PrL H l ps) (ha : Asc 0 ps) (hs : Small ps) (q : ∀ m H', Same H H' → ModAt ca H' m ps → PP m H') :
    ∀ x dx, H x = none → H dx = none → dx ≠ x → spModInit ca (.ref x :: ([.ref l] ++ [])) (upd (upd H dx (.own x)) x (.ins ca.md dx [])) (fun v H2 => v = .non ∧ PP x H2) E := by
  obtain ⟨ts, h1, h2⟩ := hl
  exact use_mod h1 h2 ha hs fun m H' _ s hm => q m H' s hm
theorem use_wayR (pu : Purse H a c) (hm : ModAt ca H m ps) (hk : MkAt ca H k y.low y.shift y.lead) (q : ∀ x H', Same (rm a H) (rm a H') → Purse H' a c → WayAt ca (rm a H') x (bb % num ps) ps y → PP x H') :
    ∀ x dx, H x = none → H dx = none → dx ≠ x → spWayInit ca [.ref x, .int bb, .ref m, .ref k] (upd (upd H dx (.own x)) x (.ins ca.wy dx [])) (fun v H2 => v = .non ∧ PP x H2) E :=
  use_way hm (.inr ⟨k, rfl, hk⟩) fun x H' _ s hw => q x H' s.rm (pu.same s) (hw.rm (pu.same s))
theorem use_wayN (hm : ModAt ca H m ps) (q : ∀ x H', Same H H' → WayAt ca H' x (bb % num ps) ps ⟨false, 0, false⟩ → PP x H') :
    ∀ x dx, H x = none → H dx = none → dx ≠ x → spWayInit ca [.ref x, .int bb, .ref m, .non] (upd (upd H dx (.own x)) x (.ins ca.wy dx [])) (fun v H2 => v = .non ∧ PP x H2) E :=
  use_way hm (.inl ⟨rfl, rfl⟩) fun x H' _ s hw => q x H' s hw
theorem w_insW {P : Prop} (h : WayAt ca H x bb ps y) (q : P) : ((∃ dx vs, SlX.Slt H x ca.wy dx vs) ∨ ∃ dx fs, H x = some (.ins ca.wy dx fs)) ∧ P := by
  obtain ⟨dx, m, k, hx, _⟩ := h
  exact w_insC hx q
theorem use_markR {v : V} {ls : List Int} (pu : Purse H a c) (h : WayAt ca H x bb ps y) (t : TextAt H v ls) (q : ∀ H', Same (rm a H) (rm a H') → Purse H' a c → Q (.int (mark y bb (num ps) ls)) H') : spMarkOf ca [.ref x, v] H Q E :=
  ⟨x, v, bb, ps, y, ls, rfl, h, t, fun H' s => q H' s.rm (pu.same s)⟩
theorem use_mark {v : V} {ls : List Int} (h : WayAt ca H x bb ps y) (t : TextAt H v ls) (q : ∀ H', Same H H' → Q (.int (mark y bb (num ps) ls)) H') : spMarkOf ca [.ref x, v] H Q E :=
  ⟨x, v, bb, ps, y, ls, rfl, h, t, q⟩
theorem use_reqway (h : WayAt ca H x bb ps y) (q : Q .non H) : spReqWay ca ([.ref x] ++ []) H Q E := by
  obtain ⟨dx, m, k, hx, _⟩ := h
  exact ⟨x, dx, _, rfl, hx, q⟩
end


end Bc
namespace Bc
open PySem PySem.Spec PyProof.Rows L2
/-! ### a letter exchanged, a text rolled -/
theorem hv_set (x b : Int) : ∀ {ls : List Int} {i : Nat} {o : Int}, ls[i]? = some o → hv (ls.set i x) b = hv ls b + (x - o) * b ^ (ls.length - 1 - i)
  | [], i, o, h => by simp at h
  | c :: r, 0, o, h => by
    have e : c = o := by simpa using h
    subst e
    rw [List.set_cons_zero, hv_cons, hv_cons, List.length_cons, Nat.add_sub_cancel, Nat.sub_zero]
    grind
  | c :: r, i + 1, o, h => by
    have h2 : r[i]? = some o := by simpa using h
    rw [List.set_cons_succ, hv_cons, hv_cons, hv_set x b h2, List.length_set, List.length_cons, show r.length + 1 - 1 - (i + 1) = r.length - 1 - i by omega]
    grind
theorem hv_setR (x b : Int) : ∀ {ls : List Int} {i : Nat} {o : Int}, ls[i]? = some o → hv (ls.set i x).reverse b = hv ls.reverse b + (x - o) * b ^ i
  | [], i, o, h => by simp at h
  | c :: r, 0, o, h => by
    have e : c = o := by simpa using h
    subst e
    rw [List.set_cons_zero, List.reverse_cons, List.reverse_cons, hv_app, hv_app]
    simp [hv]
    grind
  | c :: r, i + 1, o, h => by
    have h2 : r[i]? = some o := by simpa using h
    rw [List.set_cons_succ, List.reverse_cons, List.reverse_cons, hv_app, hv_app, hv_setR x b h2, Int.pow_succ]
    simp [hv]
    grind
def exN (y : Sty) (len i : Nat) : Nat := if y.low then i else len - 1 - i
theorem Sm_set {y : Sty} (b x : Int) {ls : List Int} {i : Nat} {o : Int} (h : ls[i]? = some o) : Sm y b (ls.set i x) = Sm y b ls + (x - o) * b ^ exN y ls.length i := by
  unfold Sm exN
  rw [List.length_set]
  cases hl : y.low with
  | true =>
    simp only [if_true]
    rw [hv_setR x b h]
    grind
  | false =>
    simp only [Bool.false_eq_true, if_false]
    rw [hv_set x b h]
    grind
theorem changed_eq {y : Sty} (b n x : Int) {ls : List Int} {i : Nat} {o : Int} (h : ls[i]? = some o) : (mark y b n ls + (x - o) * (b ^ exN y ls.length i % n)) % n = mark y b n (ls.set i x) := by
  rw [mark_Sm, mark_Sm, Sm_set b x h, cg]
  obtain ⟨k1, e1⟩ := self_mod n (b ^ exN y ls.length i)
  obtain ⟨k2, e2⟩ := self_mod n (Sm y b ls)
  rw [e1, e2]
  generalize b ^ exN y ls.length i = q
  generalize Sm y b ls = su
  exact ⟨k2 + (x - o) * k1, by grind⟩
theorem Sm_one (y : Sty) (b x : Int) : Sm y b [x] = ld y * b + x + y.shift := by
  unfold Sm
  have e : hv (if y.low = true then [x].reverse else [x]) b = x := by split <;> simp [hv]
  rw [e]
  simp [geo, hv, Int.pow_succ]
theorem roll_high {y : Sty} (h : y.low = false) (b n o x : Int) (t : List Int) : ((mark y b n (o :: t) - ld y * (b ^ (t.length + 1) % n) - (o + y.shift) * (b ^ t.length % n)) * b + (x + y.shift) + ld y * (b ^ (t.length + 1) % n)) % n = mark y b n (t ++ [x]) := by
  rw [mark_Sm, mark_Sm, Sm_high h, show o :: t = [o] ++ t from rfl, Sm_high h, Sm_one, Sm_one, cg]
  obtain ⟨k1, e1⟩ := self_mod n (b ^ (t.length + 1))
  obtain ⟨k2, e2⟩ := self_mod n (b ^ t.length)
  obtain ⟨k3, e3⟩ := self_mod n ((ld y * b + o + y.shift - ld y) * b ^ t.length + Sm y b t)
  rw [e1, e2, e3, Int.pow_succ, show ([x] : List Int).length = 1 from rfl, Int.pow_succ, Int.pow_zero]
  generalize b ^ t.length = q
  generalize Sm y b t = su
  exact ⟨(k3 - ld y * k1 - (o + y.shift) * k2) * b + ld y * k1, by grind⟩
/-! ### sums that the laws reckon -/
theorem hv_take {cs : List Int} {i : Nat} {v b : Int} (h : cs[i]? = some v) : hv (cs.take (i + 1)) b = hv (cs.take i) b * b + v := by
  obtain ⟨hi, e⟩ := List.getElem?_eq_some_iff.mp h
  unfold hv
  rw [List.take_succ_eq_append_getElem hi, List.foldl_append, e]
  rfl
theorem hv_bits {R : Nat} {r : Int} (hr : r.natAbs < 2 ^ R) : ∀ {cs : List Int}, (∀ c ∈ cs, c.natAbs < 2 ^ R) → ∀ i, (hv (cs.take i) r).natAbs < 2 ^ (R * i)
  | cs, h, 0 => by simp [hv]
  | cs, h, i + 1 => by
    have ih := hv_bits hr h i
    by_cases hi : i < cs.length
    · rw [hv_take (List.getElem?_eq_getElem hi)]
      have hc := h _ (List.getElem_mem hi)
      have h1 := Int.natAbs_add_le (hv (cs.take i) r * r) cs[i]
      rw [Int.natAbs_mul] at h1
      have h2 : (hv (cs.take i) r).natAbs * r.natAbs ≤ (2 ^ (R * i) - 1) * 2 ^ R := Nat.mul_le_mul (by omega) (by omega)
      have h3 : (2 ^ (R * i) - 1) * 2 ^ R = 2 ^ (R * i) * 2 ^ R - 2 ^ R := by rw [Nat.sub_mul, Nat.one_mul]
      have h4 : 2 ^ R ≤ 2 ^ (R * i) * 2 ^ R := Nat.le_mul_of_pos_left _ (Nat.pow_pos (by decide))
      rw [Nat.mul_succ, Nat.pow_add]
      omega
    · rw [List.take_of_length_le (by omega)] at ih ⊢
      exact Nat.lt_of_lt_of_le ih (Nat.pow_le_pow_right (by decide) (Nat.mul_le_mul_left _ (by omega)))
theorem mark_sum {y : Sty} {r n : Int} (ls : List Int) : hv (hf y ls) r % n = mark y (r % n) n ls := by
  unfold mark
  rw [rest_hv, hv_mod]
theorem ten31 {x : Int} (h : x.natAbs < 10 ^ 31) : x.natAbs < 2 ^ 103 := Nat.lt_trans h (by decide)
theorem hf_bits {y : Sty} {ls : List Int} {R : Nat} (hR : 105 ≤ R) (h : ∀ l ∈ ls, l.natAbs < 10 ^ 31) (hs : y.shift.natAbs < 10 ^ 31) : ∀ c ∈ hf y ls, c.natAbs < 2 ^ R := by
  have h1 : ∀ l ∈ ls.map (· + y.shift), l.natAbs < 2 ^ R := fun l hl => by
    obtain ⟨x, hx, rfl⟩ := List.mem_map.mp hl
    have a1 := h x hx
    have a2 := Int.natAbs_add_le x y.shift
    have a3 : (10 : Nat) ^ 31 + 10 ^ 31 < 2 ^ 105 := by decide
    have a4 : (2 : Nat) ^ 105 ≤ 2 ^ R := Nat.pow_le_pow_right (by decide) hR
    show (x + y.shift).natAbs < _
    omega
  intro c hc
  unfold hf at hc
  rcases List.mem_cons.mp hc with e | e
  · have a4 : (2 : Nat) ^ 105 ≤ 2 ^ R := Nat.pow_le_pow_right (by decide) hR
    have a5 : (1 : Nat) < 2 ^ 105 := by decide
    rw [e]
    split <;> omega
  · split at e
    · exact h1 c (List.mem_reverse.mp e)
    · exact h1 c e
def spSum : Sp := fun vs H Q _ => ∃ (l g : Addr) (r : Int) (ls : List Int) (y : Sty), vs = [.ref l, .int r, .ref g] ∧ H l = some (.lst (ls.map V.int)) ∧ H g = some (.lst [.bl y.low, .int y.shift, .bl y.lead]) ∧ ls.length ≤ 150 ∧ r.natAbs < 2 ^ 4000 ∧ (∀ x ∈ ls, x.natAbs < 10 ^ 31) ∧ y.shift.natAbs < 10 ^ 31 ∧ ∀ H', Same H H' → Q (.int (hv (hf y ls) r)) H'
def spRightOf (c : CA) : Sp := fun vs H Q _ => ∃ (x : Addr) (b : Int) (ps : List (Int × Int)) (y : Sty) (u v : List Int), vs = [.ref x, .int (mark y b (num ps) (u ++ v)), .int (mark y b (num ps) u), .int u.length, .int v.length] ∧ WayAt c H x b ps y ∧ y.low = false ∧ u.length < 2 ^ 40 ∧ v.length < 2 ^ 40 ∧ ∀ H', Same H H' → Q (.int (mark y b (num ps) v)) H'
def spLeftOf (c : CA) : Sp := fun vs H Q _ => ∃ (x : Addr) (b : Int) (ps : List (Int × Int)) (y : Sty) (u v : List Int), vs = [.ref x, .int (mark y b (num ps) (u ++ v)), .int (mark y b (num ps) v), .int u.length, .int v.length] ∧ WayAt c H x b ps y ∧ y.low = true ∧ u.length < 2 ^ 40 ∧ v.length < 2 ^ 40 ∧ ∀ H', Same H H' → Q (.int (mark y b (num ps) u)) H'
def spChanged (c : CA) : Sp := fun vs H Q _ => ∃ (x : Addr) (b o z : Int) (i : Nat) (ps : List (Int × Int)) (y : Sty) (ls : List Int), vs = [.ref x, .int (mark y b (num ps) ls), .int ls.length, .int i, .int o, .int z] ∧ WayAt c H x b ps y ∧ ls.length < 2 ^ 40 ∧ ls[i]? = some o ∧ o.natAbs < 2 ^ 1000 ∧ z.natAbs < 2 ^ 1000 ∧ Q (.int (mark y b (num ps) (ls.set i z))) H
def spRolledH (c : CA) : Sp := fun vs H Q _ => ∃ (x : Addr) (b o z : Int) (ps : List (Int × Int)) (y : Sty) (t : List Int), vs = [.ref x, .int (mark y b (num ps) (o :: t)), .int ((o :: t).length : Nat), .int o, .int z] ∧ WayAt c H x b ps y ∧ y.low = false ∧ t.length < 2 ^ 40 ∧ o.natAbs < 2 ^ 1000 ∧ z.natAbs < 2 ^ 1000 ∧ y.shift.natAbs < 2 ^ 1000 ∧ Q (.int (mark y b (num ps) (t ++ [z]))) H

end Bc
namespace Bc
open PySem PySem.Spec PyProof.Rows L2

/-! ### lists of a range, pop, comprehensions by a relation -/
section
variable {σ : L2.St} {H : Hp} {Q : VK} {ta tb : TE} {tr : L2.St → Hp → (Int → Int → Hp → Prop) → Prop} {R : Int → Int → Hp → Prop} {i j : Int} {P : Prop}
theorem w_lstRg (q : tr σ H fun a b H1 => RgOk a b ∧ ∀ q, H1 q = none → atV Q (.ref q) (upd H1 q (.lst (rgV a b)))) : tLstRg tr σ H Q := q
theorem w_rg1 (q : ta σ H fun x H1 => ∃ n, x = .int n ∧ R 0 n H1) : tRg1 ta σ H R := q
theorem w_rg2 (q : ta σ H fun x H1 => tb σ H1 fun y H2 => ∃ i j, x = .int i ∧ y = .int j ∧ R i j H2) : tRg2 ta tb σ H R := q
theorem w_rg2i {P : Int → Int → Prop} (q : P i j) : ∃ a b, V.int i = .int a ∧ V.int j = .int b ∧ P a b := ⟨i, j, rfl, rfl, q⟩
theorem w_rgok (h : -(2 ^ 62) ≤ i ∧ i < 2 ^ 62 ∧ -(2 ^ 62) ≤ j ∧ j < 2 ^ 62 ∧ (j - i).toNat ≤ 2 ^ 24) (q : P) : RgOk i j ∧ P := ⟨h, q⟩
theorem w_popAt {l : Addr} {xs : List V} {k : Nat} {y : V} (h : H l = some (.lst xs)) (h0 : 0 ≤ i) (hk : i.toNat = k) (e : xs[k]? = some y) (h1 : i < 2 ^ 60) (q : Q y (upd H l (.lst (xs.eraseIdx k)))) : rPopAt (.ref l) [.int i] H Q := by
  refine ⟨l, xs, i, k, y, rfl, rfl, h, by omega, by omega, ?_, e, q⟩
  have hk2 : k < xs.length := (List.getElem?_eq_some_iff.mp e).1
  have h3 := atI_get (xs := xs) (v := y) h0 (by rw [hk]; exact e)
  obtain ⟨n, rfl⟩ := Int.eq_ofNat_of_zero_le h0
  have : n = k := by omega
  subst this
  unfold seqIndex?
  simp
  omega
end
section
variable {J : It} {G : Hp → Prop} {te : TE} {vs : List Nat} {σ : L2.St} {H : Hp} {D a : Addr} {c : Int} {Qd : Hp → Prop} {j : Nat}
/-- what is made of each item, by a relation that new things leave alone; the turns may draw -/
theorem lc_relR (xs : List V) (n : Int) (R : V → V → Hp → Prop) (mono : ∀ x y G G', Same G G' → R x y G → R x y G') (w : Walk J xs.length G (YAt xs)) (pu : Purse H a c) (hD : H D = none) (hG : ∀ H', Same (rm a H) (rm a H') → G H') (sz : xs.length ≤ 100000)
    (wp : ∀ v, wipe ((wipe σ vs).set j v) vs = wipe σ vs)
    (step : ∀ (i : Nat) (x : V) (H' : Hp), xs[i]? = some x → Same (rm a H) (rm a H') → Purse H' a (c + n * i) → (∃ acc, rm a H' D = some (.lst acc)) → ∀ Q' : VK, (∀ (y : V) (H'' : Hp), Same (rm a H') (rm a H'') → Purse H'' a (c + n * ((i + 1 : Nat) : Int)) → R x y (rm D (rm a H'')) → Q' y H'') → te ((wipe σ vs).set j (some x)) H' Q')
    (q : ∀ (H' : Hp) (ys : List V), Same (rm a H) (rm a H') → Purse H' a (c + n * xs.length) → rm a H' D = some (.lst ys) → Paired (fun x y => R x y (rm a H')) xs ys → Qd H') :
    ∃ W : Nat → Nat → Hp → Prop, (∃ m, W 0 m (upd H D (.lst []))) ∧ ∀ i m H, W i m H →
      (J.stop i H ∧ Qd H) ∨ (J.go i H ∧ ∃ Nx : Hp → Prop, (∀ H', Nx H' → ∃ m', m' < m ∧ W (i + 1) m' H') ∧ ∀ x H', J.yld i H x H' → gName j x (wipe σ vs) H' fun σ2 H2 => wipe σ2 vs = wipe σ vs ∧ tYes σ2 H2 fun b H3 =>
        if b = true then te σ2 H3 fun y H4 => ∃ acc, H4 D = some (.lst acc) ∧ acc.length < sizeLine ∧ Nx (upd H4 D (.lst (acc ++ [y]))) else Nx H3) := by
  have nD : D ≠ a := pu.fresh hD
  refine lc_it w (fun i H' => ∃ ys : List V, Same (rm a H) (rm D (rm a H')) ∧ Purse H' a (c + n * i) ∧ rm a H' D = some (.lst ys) ∧ Paired (fun x y => R x y (rm D (rm a H'))) (xs.take i) ys) ⟨[], ?_, (pu.same (Same.new hD)).le (by simp), rm_of nD upd_same, .nil⟩ (fun i H' _ h => by obtain ⟨_, k, _⟩ := h; exact hG H' (k.trans rm_le)) ?_ ?_
  · rw [rm_upd nD, rm_updS]
    exact rm_in (rm_none hD) (Same.refl _)
  · rintro i x H1 H' hi ⟨ys, h1, h2, h3, h4⟩ ⟨rfl, hx⟩
    refine ⟨wp _, w_yes ?_⟩
    rw [if_pos rfl]
    have el := h4.length
    rw [List.length_take] at el
    refine step i x H' hx (h1.trans rm_le) h2 ⟨_, h3⟩ _ fun y H2 s2 p2 r => ?_
    have e : xs[i] = x := by rw [List.getElem?_eq_getElem hi] at hx; exact Option.some.inj hx
    refine ⟨ys, rm_le _ _ (s2 _ _ h3), ?_, ys ++ [y], ?_, ?_, ?_, ?_⟩
    · have : (100000 : Nat) < sizeLine := by decide
      omega
    · rw [rm_upd nD, rm_updS]
      exact h1.trans s2.rm
    · obtain ⟨x1, y1, z1, e1, r1⟩ := p2
      exact ⟨x1, y1, z1, by rw [upd_ne nD.symm]; exact e1, r1⟩
    · exact rm_of nD upd_same
    · rw [rm_upd nD, rm_updS, List.take_succ_eq_append_getElem hi, e]
      exact Paired.snoc (paired_imp (fun _ _ z => mono _ _ _ _ s2.rm z) h4) r
  · rintro H' ⟨ys, h1, h2, h3, h4⟩
    rw [List.take_length] at h4
    exact q H' ys (h1.trans rm_le) h2 h3 (paired_imp (fun _ _ z => mono _ _ _ _ rm_le z) h4)
end
theorem Paired.snoc' {α β : Type} {R : α → β → Prop} {xs : List α} {ys : List β} {x : α} {y : β} (h : Paired R xs ys) (r : R x y) : Paired R (xs ++ [x]) (ys ++ [y]) := Paired.snoc h r

theorem w_methW {ca : CA} {H : Hp} {x : Addr} {bb : Int} {ps : List (Int × Int)} {y : Sty} {m : Str} {P : Addr → Prop} (h : WayAt ca H x bb ps y) (l : m ≠ ("marking" : Str) ∧ m ≠ ("modulus" : Str) ∧ m ≠ ("number" : Str) ∧ m ≠ ("base" : Str)) (q : P x) : ∃ a dx fs, V.ref x = .ref a ∧ H a = some (.ins ca.wy dx fs) ∧ fs.lookup m = none ∧ P a := by
  obtain ⟨dx, mm, k, hx, _⟩ := h
  exact w_methi hx (wy_no l.1 l.2.1 l.2.2.1 l.2.2.2) q

section
variable {c : TT} {tb : TS} {D : Ends} {σ : L2.St} {H : Hp}
theorem while_m (Pv : Nat → L2.St → Hp → Prop) (m : Nat) (h0 : Pv m σ H) (hs : ∀ m σ H, Pv m σ H → c σ H fun b H1 => if b = true then (∃ N : L2.St → Hp → Prop, (∀ σ' H', N σ' H' → ∃ m', m' < m ∧ Pv m' σ' H') ∧
      tb { D with nx := N, ct := N, bk := D.nx } σ H1) else D.nx σ H1) : tWhile c tb D σ H := ⟨Pv, ⟨m, h0⟩, hs⟩
theorem while_nm {Pv : Nat → L2.St → Hp → Prop} {m : Nat} (q : tb { D with nx := fun σ' H' => ∃ m', m' < m ∧ Pv m' σ' H', ct := fun σ' H' => ∃ m', m' < m ∧ Pv m' σ' H', bk := D.nx } σ H) :
    ∃ N : L2.St → Hp → Prop, (∀ σ' H', N σ' H' → ∃ m', m' < m ∧ Pv m' σ' H') ∧ tb { D with nx := N, ct := N, bk := D.nx } σ H := ⟨_, fun _ _ h => h, q⟩
end

section
variable {J : It} {G : Hp → Prop} {te : TE} {vs : List Nat} {σ : L2.St} {H : Hp} {D a : Addr} {c : Int} {Qd : Hp → Prop} {j : Nat}
theorem lc_drawsR (xs : List V) (n : Int) (R : Int → Prop) (w : Walk J xs.length G (YAt xs)) (pu : Purse H a c) (hD : H D = none) (hG : ∀ H', Same (rm a H) (rm a H') → G H') (sz : xs.length ≤ 100000)
    (wp : ∀ v, wipe ((wipe σ vs).set j v) vs = wipe σ vs)
    (step : ∀ (i : Nat) (x : V) (H' : Hp), xs[i]? = some x → Same (rm a H) (rm a H') → Purse H' a (c + n * i) → ∀ Q' : VK, (∀ (y : Int) (H'' : Hp), R y → Same (rm a H') (rm a H'') → Purse H'' a (c + n * ((i + 1 : Nat) : Int)) → Q' (.int y) H'') → te ((wipe σ vs).set j (some x)) H' Q')
    (q : ∀ (H' : Hp) (ys : List Int), ys.length = xs.length → (∀ y ∈ ys, R y) → rm a H' D = some (.lst (ys.map V.int)) → Same (rm a H) (rm a H') → Purse H' a (c + n * xs.length) → Qd H') :
    ∃ W : Nat → Nat → Hp → Prop, (∃ m, W 0 m (upd H D (.lst []))) ∧ ∀ i m H, W i m H →
      (J.stop i H ∧ Qd H) ∨ (J.go i H ∧ ∃ Nx : Hp → Prop, (∀ H', Nx H' → ∃ m', m' < m ∧ W (i + 1) m' H') ∧ ∀ x H', J.yld i H x H' → gName j x (wipe σ vs) H' fun σ2 H2 => wipe σ2 vs = wipe σ vs ∧ tYes σ2 H2 fun b H3 =>
        if b = true then te σ2 H3 fun y H4 => ∃ acc, H4 D = some (.lst acc) ∧ acc.length < sizeLine ∧ Nx (upd H4 D (.lst (acc ++ [y]))) else Nx H3) :=
  lc_draws xs a c n R w pu hD (fun H' k => hG H' k.rm) sz wp (fun i x H' hx k p Q' q' => step i x H' hx k.rm p Q' fun y H'' r s p' => q' y H'' r (Keep.ofR s) p')
    fun H' ys h1 h2 h3 k p => q H' ys h1 h2 (rm_of (pu.fresh hD) h3) k.rm p
end

theorem w_unl {K : PySem.W.Frag} {H : Hp} {σ : L2.St} {tg : TGs} {p : Addr} {xs : List V} {k : Nat} {Qs : L2.St → Hp → Prop} (h : SqL K H p xs) (l : xs.length = k) (q : tg xs σ H Qs) : gUnl K k tg (.ref p) σ H Qs := ⟨p, xs, rfl, h, l, q⟩

end Bc
namespace Bc
open PySem PySem.Spec PyProof.Rows L2
/-! ### pieces: lists of lists -/
def LL (H : Hp) (r : Addr) (cuts : List (List Int)) : Prop := ∃ as : List Addr, H r = some (.lst (as.map V.ref)) ∧ Paired (fun c p => H p = some (.lst (c.map V.int))) cuts as
def PM (y : Sty) (b n : Int) (H : Hp) (r : Addr) (us : List (List Int)) : Prop := ∃ qs : List Addr, H r = some (.lst (qs.map V.ref)) ∧ Paired (fun c q => H q = some (.lst [.int (mark y b n c), .int c.length])) us qs
theorem LL.same {H H' : Hp} {r : Addr} {cuts : List (List Int)} (h : LL H r cuts) (s : Same H H') : LL H' r cuts := by
  obtain ⟨as, h1, h2⟩ := h
  exact ⟨as, s _ _ h1, paired_imp (fun _ _ z => s _ _ z) h2⟩
theorem PM.same {y : Sty} {b n : Int} {H H' : Hp} {r : Addr} {us : List (List Int)} (h : PM y b n H r us) (s : Same H H') : PM y b n H' r us := by
  obtain ⟨as, h1, h2⟩ := h
  exact ⟨as, s _ _ h1, paired_imp (fun _ _ z => s _ _ z) h2⟩
section
variable {a p : Addr} {c : Int} {H : Hp} {Q : VK} {v : V} {xs : List V}
theorem w_appendR (pu : Purse H a c) (h : rm a H p = some (.lst xs)) (l : xs.length < sizeLine) (q : ∀ H', Same (rm p (rm a H)) (rm p (rm a H')) → Purse H' a c → rm a H' p = some (.lst (xs ++ [v])) → Q .non H') : rAppend (.ref p) [v] H Q := by
  have np : p ≠ a := fun e => by rw [e, rm_self] at h; cases h
  refine w_append (rm_le _ _ h) l (q _ ?_ ?_ ?_)
  · rw [rm_upd np, rm_updS]
    exact Same.refl _
  · obtain ⟨x1, y1, z1, e1, r1⟩ := pu
    exact ⟨x1, y1, z1, by rw [upd_ne np.symm]; exact e1, r1⟩
  · exact rm_of np upd_same
end
theorem ints_inj {a b : List Int} (h : a.map V.int = b.map V.int) : a = b := by
  induction a generalizing b with
  | nil => cases b with | nil => rfl | cons => cases h
  | cons x r ih => cases b with
    | nil => cases h
    | cons z t =>
      injection h with h1 h2
      injection h1 with h1
      rw [h1, ih h2]
theorem paired_take {α β : Type} {R : α → β → Prop} : ∀ {xs : List α} {ys : List β} (k : Nat), Paired R xs ys → Paired R (xs.take k) (ys.take k)
  | _, _, 0, _ => .nil
  | _, _, _ + 1, .nil => .nil
  | _, _, k + 1, .cons r t => .cons r (paired_take k t)
theorem paired_drop {α β : Type} {R : α → β → Prop} : ∀ {xs : List α} {ys : List β} (k : Nat), Paired R xs ys → Paired R (xs.drop k) (ys.drop k)
  | _, _, 0, h => h
  | _, _, _ + 1, .nil => .nil
  | _, _, k + 1, .cons _ t => paired_drop k t
theorem paired_app {α β : Type} {R : α → β → Prop} : ∀ {xs xs' : List α} {ys ys' : List β}, Paired R xs ys → Paired R xs' ys' → Paired R (xs ++ xs') (ys ++ ys')
  | _, _, _, _, .nil, h => h
  | _, _, _, _, .cons r t, h => .cons r (paired_app t h)
theorem paired_get2 {α β : Type} {R : α → β → Prop} : ∀ {xs : List α} {ys : List β} {i : Nat} {x : α}, Paired R xs ys → xs[i]? = some x → ∃ y, ys[i]? = some y ∧ R x y
  | _, _, _, _, .nil, h => by simp at h
  | _, _, 0, _, .cons r _, h => by
    have e := Option.some.inj (by simpa using h)
    subst e
    exact ⟨_, rfl, r⟩
  | _, _, i + 1, _, .cons _ t, h => by
    obtain ⟨x, h1, h2⟩ := paired_get2 (i := i) t (by simpa using h)
    exact ⟨x, by simpa using h1, h2⟩
theorem flat3 {us : List (List Int)} {k : Nat} {x z : List Int} (h1 : us[k]? = some x) (h2 : us[k + 1]? = some z) : (us.take k ++ [x ++ z] ++ us.drop (k + 2)).flatten = us.flatten := by
  obtain ⟨l1, e1⟩ := List.getElem?_eq_some_iff.mp h1
  obtain ⟨l2, e2⟩ := List.getElem?_eq_some_iff.mp h2
  have : us = us.take k ++ (x :: z :: us.drop (k + 2)) := by
    rw [← e1, ← e2, List.getElem_cons_drop l2, List.getElem_cons_drop l1, List.take_append_drop]
  conv => rhs; rw [this]
  simp [List.flatten_append]
theorem cut_to' {α : Type} (f : α → V) (ls : List α) (j : Nat) : cutV (ls.map f) none (some (j : Int)) = (ls.take j).map f := by
  unfold cutV
  rw [HT.sIx_none, HT.sIx_nat, List.drop_zero, Nat.sub_zero, take_min, List.map_take]
theorem cut_from' {α : Type} (f : α → V) (ls : List α) (j : Nat) : cutV (ls.map f) (some (j : Int)) none = (ls.drop j).map f := by
  unfold cutV
  rw [HT.sIx_none, HT.sIx_nat, drop_min, List.map_drop, List.take_of_length_le]
  rw [List.length_drop, List.length_map]
  by_cases h : j ≤ ls.length
  · rw [Nat.min_eq_left h]; exact Nat.le_refl _
  · omega
theorem atI_map {α : Type} {f : α → V} {ls : List α} {i : Int} {x : α} (h0 : 0 ≤ i) (h : ls[i.toNat]? = some x) : atI (ls.map f) i = some (f x) := atI_get h0 (by rw [List.getElem?_map, h]; rfl)
/-- the marks of pieces made by a comprehension -/
theorem marks_of {y : Sty} {b n : Int} {H0 G : Hp} : ∀ {cuts : List (List Int)} {as : List Addr} {ys : List V}, Paired (fun c p => H0 p = some (.lst (c.map V.int))) cuts as →
    Paired (fun x z => ∃ p cut q, x = V.ref p ∧ H0 p = some (.lst (cut.map V.int)) ∧ z = V.ref q ∧ G q = some (.lst [.int (mark y b n cut), .int (cut.length : Nat)])) (as.map V.ref) ys →
    ∃ qs : List Addr, ys = qs.map V.ref ∧ Paired (fun c q => G q = some (.lst [.int (mark y b n c), .int c.length])) cuts qs
  | _, _, _, .nil, h => by cases h; exact ⟨[], rfl, .nil⟩
  | _, _, _, .cons r t, h => by
    cases h with
    | cons r2 t2 =>
      obtain ⟨p, cut, q, e1, h1, rfl, h2⟩ := r2
      injection e1 with e1
      subst e1
      rw [r] at h1
      injection h1 with h1
      injection h1 with h1
      have := ints_inj h1
      subst this
      obtain ⟨qs, rfl, hq⟩ := marks_of t t2
      exact ⟨q :: qs, rfl, .cons h2 hq⟩
def spCut : Sp := fun vs H Q _ => ∃ (a l : Addr) (c : Int) (ls : List Int), vs = [.ref a, .ref l] ∧ c < 2 ^ 47 ∧ Purse H a c ∧ rm a H l = some (.lst (ls.map V.int)) ∧ ls.length ≤ 1000 ∧
  ∀ r H' cuts, Same (rm a H) (rm a H') → Purse H' a (c + 9) → LL (rm a H') r cuts → cuts.flatten = ls → 0 < cuts.length → cuts.length ≤ 8 → Q (.ref r) H'
def spOne (ca : CA) : Sp := fun vs H Q _ => ∃ (a x r : Addr) (b c : Int) (ps : List (Int × Int)) (y : Sty) (cuts : List (List Int)), vs = [.ref a, .ref x, .ref r] ∧ c < 2 ^ 47 ∧ Purse H a c ∧ WayAt ca (rm a H) x b ps y ∧ LL (rm a H) r cuts ∧ 0 < cuts.length ∧ cuts.length ≤ 8 ∧ cuts.flatten.length ≤ 1000 ∧
  ∀ p H', Same (rm a H) (rm a H') → Purse H' a (c + 8) → rm a H' p = some (.lst [.int (mark y b (num ps) cuts.flatten), .int cuts.flatten.length]) → Q (.ref p) H'
def spBack (ca : CA) : Sp := fun vs H Q _ => ∃ (a x l g : Addr) (b c : Int) (ps : List (Int × Int)) (y : Sty) (ls : List Int), vs = [.ref a, .ref x, .ref l, .ref g] ∧ c < 2 ^ 47 ∧ Purse H a c ∧ WayAt ca (rm a H) x b ps y ∧ rm a H l = some (.lst (ls.map V.int)) ∧ rm a H g = some (.lst [.bl y.low, .int y.shift, .bl y.lead]) ∧ ls.length ≤ 1000 ∧
  ∀ H', Same (rm a H) (rm a H') → Purse H' a (c + 1) → Q (.bl true) H'
def spRepl (ca : CA) : Sp := fun vs H Q _ => ∃ (a x l m : Addr) (b c : Int) (ps : List (Int × Int)) (y : Sty) (ls ms : List Int), vs = [.ref a, .ref x, .ref l, .ref m] ∧ c < 2 ^ 47 ∧ Purse H a c ∧ WayAt ca (rm a H) x b ps y ∧ rm a H l = some (.lst (ls.map V.int)) ∧ rm a H m = some (.lst (ms.map V.int)) ∧ ls.length ≤ 1000 ∧ ms.length = ls.length ∧
  (∀ z ∈ ls, z.natAbs < 2 ^ 1000) ∧ (∀ z ∈ ms, z.natAbs < 2 ^ 1000) ∧ ∀ H', Same (rm a H) (rm a H') → Purse H' a (c + ls.length) → Q (.int (mark y b (num ps) ms)) H'
/-- letters exchanged one by one, those of ord still to come -/
def Mix (ls ms cur : List Int) (ord : List Nat) : Prop := cur.length = ls.length ∧ ord.Nodup ∧ ∀ i, i < ls.length → cur[i]? = if i ∈ ord then ls[i]? else ms[i]?
theorem Mix.step {ls ms cur : List Int} {ord : List Nat} {k i : Nat} {z : Int} (h : Mix ls ms cur ord) (hk : ord[k]? = some i) (hz : ms[i]? = some z) : Mix ls ms (cur.set i z) (ord.eraseIdx k) := by
  obtain ⟨h1, h2, h3⟩ := h
  refine ⟨by rw [List.length_set]; exact h1, h2.eraseIdx k, fun j hj => ?_⟩
  obtain ⟨hk1, hk2⟩ := List.getElem?_eq_some_iff.mp hk
  by_cases e : i = j
  · subst e
    have hn : i ∉ ord.eraseIdx k := by
      intro hm
      rw [List.mem_eraseIdx_iff_getElem] at hm
      obtain ⟨m, hm1, hm2, hm3⟩ := hm
      have := (List.getElem_inj h2).mp (hm3.trans hk2.symm)
      omega
    rw [if_neg hn, List.getElem?_set_self (by omega), hz]
  · rw [List.getElem?_set_ne e, h3 j hj]
    have : j ∈ ord.eraseIdx k ↔ j ∈ ord := by
      constructor
      · exact fun z => List.mem_of_mem_eraseIdx z
      · intro z
        rw [List.mem_eraseIdx_iff_getElem]
        obtain ⟨m, hm, em⟩ := List.getElem_of_mem z
        exact ⟨m, hm, fun q => e (by rw [← em, ← hk2]; congr 1; exact q.symm), em⟩
    by_cases q : j ∈ ord
    · rw [if_pos q, if_pos (this.mpr q)]
    · rw [if_neg q, if_neg (fun w => q (this.mp w))]
theorem Mix.done {ls ms cur : List Int} (h : Mix ls ms cur []) (e : ms.length = ls.length) : cur = ms := by
  refine List.ext_getElem? fun i => ?_
  by_cases hi : i < ls.length
  · rw [h.2.2 i hi]; simp
  · rw [List.getElem?_eq_none (by have := h.1; omega), List.getElem?_eq_none (by omega)]

theorem w_popAtR {a p : Addr} {c i : Int} {H : Hp} {Q : VK} {xs : List V} {k : Nat} {y : V} (pu : Purse H a c) (h : rm a H p = some (.lst xs)) (h0 : 0 ≤ i) (hk : i.toNat = k) (e : xs[k]? = some y) (h1 : i < 2 ^ 60) (q : ∀ H', Same (rm p (rm a H)) (rm p (rm a H')) → Purse H' a c → rm a H' p = some (.lst (xs.eraseIdx k)) → Q y H') : rPopAt (.ref p) [.int i] H Q := by
  have np : p ≠ a := fun e => by rw [e, rm_self] at h; cases h
  refine w_popAt (rm_le _ _ h) h0 hk e h1 (q _ ?_ ?_ ?_)
  · rw [rm_upd np, rm_updS]
    exact Same.refl _
  · obtain ⟨x1, y1, z1, e1, r1⟩ := pu
    exact ⟨x1, y1, z1, by rw [upd_ne np.symm]; exact e1, r1⟩
  · exact rm_of np upd_same

theorem map_eraseIdx {α β : Type} (f : α → β) : ∀ (l : List α) (k : Nat), (l.map f).eraseIdx k = (l.eraseIdx k).map f
  | [], k => by simp
  | a :: r, 0 => rfl
  | a :: r, k + 1 => by simp [List.eraseIdx, map_eraseIdx f r k]

end Bc
namespace Bc
open PySem PySem.Spec PyProof.Rows L2
/-! ### errors: made, raised, caught -/
/-- __init__ of an error with one field -/
def spErr (C : Addr) (f : Str) : Sp := fun vs H Q _ => ∃ (a : Addr) (v : V), vs = [.ref a, v] ∧ H a = some (exo a C none) ∧ ∀ dx, H dx = none → dx ≠ a → Q .non (upd (upd H dx (exd dx [(f, v)])) a (exo a C (some dx)))
structure Err (P : Program) (w : World) (K : PySem.W.Frag) (mg : Str → Option Value) (base : Heap) (k : Nat) (x : Str) (C : Addr) (f : Str) : Prop where
  ex : ∃ (fI : Addr) (fd : FuncData) (ps : List Str), OexC K C ∧ PySem.W.findIn K (.ref C) "__init__" = some (some (.ref fI)) ∧ PySem.W.typeIn K (.ref fI) = some (.type "function") ∧ FnOk P w K mg base L2.CX0 k fI fd ps (spErr C f) ∧ Binds K fd ps [] ∧ mg x = some (.ref C)
/-- what is known of an error that is caught -/
structure ErrC (K : PySem.W.Frag) (mg : Str → Option Value) (x : Str) (C : Addr) (f : Str) : Prop where
  gC : mg x = some (.ref C)
  xf : XfC K C
  no : PySem.W.findIn K (.ref C) f = some none
  te : PySem.W.exmOne K (.ref C) (.ref C) = some true
section
variable {X : Cx} {k j : Nat} {x f : Str} {C : Addr} {sp : Sp} {dvs : List V} {p pos pos2 : Pos} {e : Expr} {es : List Expr} {ta t : TA} {W : WX}
theorem ps_rse (c : Err X.prog X.w X.K X.mg X.base k x C f) (hc : X.calm = true) (hr : Room j X.A) (hk : k + 1 ≤ j) (tk : Takes X W) (hg : Gl X x) (ha : PA X (e :: es) ta)
    (hdb : (x == ("__debug__" : Str)) = false := by decide) (he : starEach (e :: es) X.env = (false, eval e X.env) :: starEach es X.env := by rfl) (hpl : (backTo pos (starEach es X.env)).any (·.1) = false := by rfl) :
    PS X (.Raise (some (.Call (.Name x p) (e :: es) [] pos)) none pos2) (fun _ σ H => tMkO C (spErr C f) [] ta σ H fun cls d H' => W cls d σ H') := by
  obtain ⟨fI, fd, ps, T, iC, tI, F, b, hm⟩ := c.ex
  exact ps_raise hc tk (pmk_oex T iC tI F (hr.mono hk) b .nil (fun _ _ _ _ _ _ _ h => h.elim) hg hm ha hdb he hpl)
theorem w_mkO {σ : L2.St} {H : Hp} {Q : XK} {dvs : List V} (q : ta σ H fun vs H1 => vs.length ≤ 1000 ∧ ∀ a, H1 a = none → sp (.ref a :: (vs ++ dvs)) (upd H1 a (exo a C none))
  (fun v H2 => v = .non ∧ ∃ (d : Addr) (fs : List (Str × V)), H2 a = some (exo a C (some d)) ∧ H2 d = some (exd d fs) ∧ H1 d = none ∧ Q (.ref C) (some d) (upd (del H2 a) d (.xd fs))) (fun _ _ _ => False)) : tMkO C sp dvs ta σ H Q := q
/-- the error flies: its dict is new, what stood stands -/
theorem w_fly {H : Hp} {E : XK} {E' : XK} {v : V} (q : ∀ d H2, H d = none → Same H H2 → H2 d = some (.xd [(f, v)]) → E (.ref C) (some d) H2) : [v].length ≤ 1000 ∧ ∀ a, H a = none → spErr C f (.ref a :: ([v] ++ [])) (upd H a (exo a C none))
    (fun u H2 => u = .non ∧ ∃ (d : Addr) (fs : List (Str × V)), H2 a = some (exo a C (some d)) ∧ H2 d = some (exd d fs) ∧ H d = none ∧ E (.ref C) (some d) (upd (del H2 a) d (.xd fs))) E' :=
  ⟨by show 1 ≤ 1000; decide, fun a na => ⟨a, v, rfl, upd_same, fun dx nd ne => ⟨rfl, dx, _, upd_same, by rw [upd_ne ne, upd_same], by rw [upd_ne ne] at nd; exact nd, q dx _ (by rw [upd_ne ne] at nd; exact nd) (fun b o h => by
    have nb : b ≠ a := ne_of_none h na
    have nb2 : b ≠ dx := ne_of_none h (by rw [upd_ne ne] at nd; exact nd)
    rw [upd_ne nb2, del_ne nb, upd_ne nb, upd_ne nb2, upd_ne nb]
    exact h) upd_same⟩⟩⟩
/-- a def that may raise -/
structure CalX (P : Program) (w : World) (K : PySem.W.Frag) (mg : Str → Option Value) (base : Heap) (k : Nat) (x : Str) (sp : Sp) (dvs : List V) : Prop where
  ex : ∃ (f : Addr) (fd : FuncData) (ps : List Str) (ds : List Value), FnOk P w K mg base (L2.CX P w) k f fd ps sp ∧ mg x = some (.ref f) ∧ PySem.W.keepIn K (.ref f) = true ∧ Binds K fd ps ds ∧ Vals dvs ds
theorem pe_cX (c : CalX X.prog X.w X.K X.mg X.base k x sp dvs) (hr : Room j X.A) (hk : k ≤ j) (hg : Gl X x) (tk : Takes X W) (ha : PA X (e :: es) t)
    (hdb : (x == ("__debug__" : Str)) = false := by decide) (he : starEach (e :: es) X.env = (false, eval e X.env) :: starEach es X.env := by rfl) (hpl : (backTo pos (starEach es X.env)).any (·.1) = false := by rfl) :
    PE X (.Call (.Name x p) (e :: es) [] pos) (tCallSD sp dvs (WE W) t) := by
  obtain ⟨f, fd, ps, ds, F, hm, kp, b, d⟩ := c.ex
  exact pe_callSD F (hr.mono hk) hg hm kp b d (fun σ => passAt tk σ) ha hdb he hpl
/-- a call of it that raises nothing -/
theorem pe_cL (c : CalX X.prog X.w X.K X.mg X.base k x sp dvs) (hr : Room j X.A) (hk : k ≤ j) (hg : Gl X x) (ha : PA X (e :: es) t)
    (hdb : (x == ("__debug__" : Str)) = false := by decide) (he : starEach (e :: es) X.env = (false, eval e X.env) :: starEach es X.env := by rfl) (hpl : (backTo pos (starEach es X.env)).any (·.1) = false := by rfl) :
    PE X (.Call (.Name x p) (e :: es) [] pos) (tCall sp dvs L2.E0 t) := by
  obtain ⟨f, fd, ps, ds, F, hm, kp, b, d⟩ := c.ex
  exact pe_call F (hr.mono hk) hg hm kp b d passL ha hdb he hpl
theorem w_callX {σ : L2.St} {H : Hp} {Q : VK} (q : t σ H fun vs H1 => sp (vs ++ dvs) H1 Q fun cls d H2 => W cls d σ H2) : tCallSD sp dvs (WE W) t σ H Q := q
structure CalXK (P : Program) (w : World) (K : PySem.W.Frag) (mg : Str → Option Value) (base : Heap) (k : Nat) (x : Str) (ks : List Str) (sp : Sp) (gV : List V → List V → List V) : Prop where
  ex : ∃ (f : Addr) (fd : FuncData) (ps : List Str) (g : List Value → List Value → List Value), FnOk P w K mg base (L2.CX P w) k f fd ps sp ∧ mg x = some (.ref f) ∧ PySem.W.keepIn K (.ref f) = true ∧ KBn K fd ps 0 ks g gV
theorem pe_cLK {ks : List Str} {gV : List V → List V → List V} {kws : List Keyword} {tk : TA} (c : CalXK X.prog X.w X.K X.mg X.base k x ks sp gV) (hr : Room j X.A) (hk : k ≤ j) (hg : Gl X x) (hkw : PK X kws tk)
    (hall : (backToKw pos (keywordEach kws X.env)).all (·.1.isSome) = true := by rfl) (hks : (backToKw pos (keywordEach kws X.env)).filterMap (·.1) = ks := by rfl) (hdb : (x == ("__debug__" : Str)) = false := by decide)
    (hpl : ((backTo pos (starEach [] X.env)).any (·.1) || (backToKw pos (keywordEach kws X.env)).any (·.1.isNone)) = false := by rfl) :
    PE X (.Call (.Name x p) [] kws pos) (tCallN 0 ks.length sp gV L2.E0 tNil tk) := by
  obtain ⟨f, fd, ps, g, F, hm, kp, b⟩ := c.ex
  refine ⟨fun pins s σ H Q I h => ?_⟩
  refine wpAny_Call_Name_kw (ld_glob I hg hm ?_ hdb)
  refine PySem.W.callWith_KW0 (h₀ := X.base) I.ok.mod.kin kp hall ?_ hpl
  refine thn (hkw.run pos pins s σ H _ I h) fun ws s2 ⟨zs, H2, I2, rz, l1, l2, q2⟩ => ⟨I2.kIn, ?_⟩
  rw [hks]
  exact run_fnN (us := []) (vs := []) F (hr.mono hk) b passL I2 .nil rz rfl l2 q2
end
section
variable {P : Program} {w : World} {K : PySem.W.Frag} {mg : Str → Option Value} {base : Heap}
theorem Dn.calX {x : Str} {st : Stmt} {N ps : List Str} {k : Nat} {sp : Sp} (F : Dn K mg x st ps) (S : FnScope N ps (defScope st)) (len : ∀ vs H Q E, sp vs H Q E → vs.length = ps.length)
    (hbody : ∀ (f : Addr) (cdv : Value) (A : Around) (outer : List Env) (s : Shared) (H : Hp) (vs : List V) (Q : VK) (E : XK), Room k (A.deeper (envOfC x (defScope st) s.heap.objs.size f cdv)) → sp vs H Q E →
      ∃ t, PSs (cxOf (L2.CX P w) P w K mg base N x (defScope st) f cdv A outer s H E) (defBody st) t ∧ t { nx := fun _ H' => Q .non H', rt := Q } (start N vs) H) : CalX P w K mg base (k + 1) x sp [] := by
  obtain ⟨f, fd, F1, m, b⟩ := F.ex
  exact ⟨f, fd, ps, [], F1.okX S len (fun cdv A outer s H vs Q E hr h => hbody f cdv A outer s H vs Q E hr h), m, F1.kp, b, .nil⟩
/-- the same for a def whose call by keywords is wanted, too -/
theorem fnX_ok {x qual : Str} {st : Stmt} {dvs : List V} {kws : List (Str × V)} {f : Addr} {fd : FuncData} {N ps : List Str} {k : Nat} {sp : Sp}
    (F : FunD K x qual (defArgs st) (defBody st) (defScope st) dvs kws f fd) (S : FnScope N ps (defScope st)) (len : ∀ vs H Q E, sp vs H Q E → vs.length = ps.length)
    (hbody : ∀ (cdv : Value) (A : Around) (outer : List Env) (s : Shared) (H : Hp) (vs : List V) (Q : VK) (E : XK), Room k (A.deeper (envOfC qual (defScope st) s.heap.objs.size f cdv)) → sp vs H Q E →
      ∃ t, PSs (cxOf (L2.CX P w) P w K mg base N qual (defScope st) f cdv A outer s H E) (defBody st) t ∧ t { nx := fun _ H' => Q .non H', rt := Q } (start N vs) H) : FnOk P w K mg base (L2.CX P w) (k + 1) f fd ps sp :=
  F.ok S len fun cdv A outer s H vs Q E hr h => hbody cdv A outer s H vs Q E hr h
end
/-- a clause 'except C as n' that takes its own error -/
theorem w_as {K : PySem.W.Frag} {C : Addr} {i : Nat} {ts : Addr → Value → Option Addr → TS} {Wout : WX} {D : Ends} {d : Option Addr} {σ : L2.St} {H : Hp} (te : PySem.W.exmOne K (.ref C) (.ref C) = some true)
    (q : ∀ a, H a = none → ts a (.ref C) d { nx := fun σ' H' => D.nx (σ'.set i none) H', rt := D.rt, bk := fun σ' H' => D.bk (σ'.set i none) H', ct := fun σ' H' => D.ct (σ'.set i none) H' } (σ.set i (some (.ref a))) H) : wAs K (.ref C) i ts Wout D (.ref C) d σ H :=
  ⟨true, te, fun _ a na => q a na, fun z => by cases z⟩
theorem w_xf {a C : Addr} {cls : Value} {d : Option Addr} {f : Str} {te : TE} {σ : L2.St} {H : Hp} {Q : VK} (q : te σ H fun x H1 => x = .ref a ∧ cls = .ref C ∧ ∃ (dd : Addr) (fs : List (Str × V)) (v : V), d = some dd ∧ H1 dd = some (.xd fs) ∧ fs.lookup f = some v ∧ Q v H1) : tXf a cls d C f te σ H Q := q
theorem w_xfi {a C dd : Addr} {f : Str} {H : Hp} {v : V} {P : V → Prop} (h : H dd = some (.xd [(f, v)])) (q : P v) : V.ref a = .ref a ∧ Value.ref C = .ref C ∧ ∃ (d2 : Addr) (fs : List (Str × V)) (u : V), some dd = some d2 ∧ H d2 = some (.xd fs) ∧ fs.lookup f = some u ∧ P u := ⟨rfl, rfl, dd, _, v, rfl, h, lk0, q⟩
theorem exm_own {K : PySem.W.Frag} {S : Addr} (b : PySem.W.subIn K (.ref S) (.type "BaseException") = some true) (i : PySem.W.isClsIn K S = true) (t : PySem.W.typeIn K (.ref S) = some (.type "type")) (s : PySem.W.subIn K (.ref S) (.ref S) = some true) : PySem.W.exmOne K (.ref S) (.ref S) = some true := by
  have i' : (PySem.W.clsIn K S).isSome = true := i
  unfold PySem.W.exmOne PySem.W.kitCls
  simp only [b, i', t, s, BEq.rfl, Bool.and_self, if_true]

end Bc
namespace Bc
open PySem PySem.Spec PyProof.Rows L2
theorem gcd_mod (x n : Int) : Int.gcd (x % n) n = Int.gcd x n := by
  have h := Int.gcd_mul_left_add_left n (x % n) (x / n)
  rw [Int.mul_ediv_add_emod] at h
  exact h.symm

end Bc
namespace Bc
open PySem PySem.Spec PyProof.Rows L2
/-! ### inverses, texts rolled -/
def spInverse : Sp := fun vs H Q _ => ∃ u n : Int, vs = [.int u, .int n] ∧ 0 < n ∧ n.natAbs < 2 ^ 8000 ∧ Int.gcd u n = 1 ∧ ∀ r H', Same H H' → 0 ≤ r → r < n → u * r % n = 1 % n → Q (.int r) H'
def spDivided (c : CA) : Sp := fun vs H Q _ => ∃ (x : Addr) (t u b : Int) (ps : List (Int × Int)) (y : Sty), vs = [.ref x, .int t, .int u] ∧ WayAt c H x b ps y ∧ (num ps).natAbs < 2 ^ 8000 ∧ t.natAbs < 2 ^ 200000 ∧ Int.gcd u (num ps) = 1 ∧ ∀ r H', Same H H' → u * r % num ps = 1 % num ps → Q (.int (t * r % num ps)) H'
def spIsUnit (c : CA) : Sp := fun vs H Q _ => ∃ (x : Addr) (u b : Int) (ps : List (Int × Int)) (y : Sty), vs = [.ref x, .int u] ∧ WayAt c H x b ps y ∧ Q (.bl (decide (Int.gcd u (num ps) = 1))) H
/-- what the Euclidean steps keep -/
def InvOk (u n one other first second : Int) : Prop := 0 ≤ one ∧ 0 ≤ other ∧ other < one + 1 + n ∧ Int.gcd one other = Int.gcd n u ∧ (∃ k, first * u = one + n * k) ∧ (∃ k, second * u = other + n * k) ∧ ((0 ≤ second ∧ first ≤ 0 ∧ -first * other + second * one = n) ∨ (second ≤ 0 ∧ 0 ≤ first ∧ first * other + -second * one = n))
theorem InvOk.start {u n : Int} (hn : 0 < n) : InvOk u n n (u % n) 0 1 := by
  have h0 := Int.emod_nonneg u (show n ≠ 0 by omega)
  have h1 := Int.emod_lt_of_pos u hn
  refine ⟨by omega, h0, by omega, ?_, ⟨-1, by omega⟩, ⟨u / n, ?_⟩, .inl ⟨by decide, by decide, by omega⟩⟩
  · rw [Int.gcd_comm n (u % n), Int.gcd_comm n u]
    exact gcd_mod u n
  · rw [Int.one_mul]
    have := Int.mul_ediv_add_emod u n
    omega
theorem InvOk.step {u n one other first second : Int} (h : InvOk u n one other first second) (hn : 0 < n) (ho : 0 < other) : InvOk u n other (one - one / other * other) second (first - one / other * second) := by
  obtain ⟨h1, h2, h3, h4, ⟨k1, e1⟩, ⟨k2, e2⟩, h5⟩ := h
  have hr : one - one / other * other = one % other := by
    have := Int.mul_ediv_add_emod one other
    rw [Int.mul_comm] at this
    omega
  have hr0 := Int.emod_nonneg one (show other ≠ 0 by omega)
  have hr1 := Int.emod_lt_of_pos one ho
  have hq : 0 ≤ one / other := Int.ediv_nonneg h1 (by omega)
  refine ⟨h2, by omega, by omega, ?_, ⟨k2, e2⟩, ⟨k1 - one / other * k2, ?_⟩, ?_⟩
  · rw [hr, ← h4, Int.gcd_comm other, gcd_mod]
  · rw [Int.sub_mul, e1, Int.mul_assoc, e2]
    grind
  · generalize one / other = q at *
    rcases h5 with ⟨a1, a2, a3⟩ | ⟨a1, a2, a3⟩
    · refine .inr ⟨?_, a1, ?_⟩
      · have := Int.mul_nonneg hq a1
        omega
      · rw [← a3]; grind
    · refine .inl ⟨?_, a1, ?_⟩
      · have := Int.mul_nonneg hq (show 0 ≤ -second by omega)
        rw [Int.mul_neg] at this
        omega
      · rw [← a3]; grind
theorem InvOk.le {u n one other first second : Int} (h : InvOk u n one other first second) (hn : 0 < n) (ho : 0 < other) : first.natAbs ≤ n.natAbs ∧ (0 < one → second.natAbs ≤ n.natAbs) ∧ one / other ≤ one ∧ 0 ≤ one / other := by
  obtain ⟨h1, h2, h3, h4, _, _, h5⟩ := h
  have hdiv : one / other ≤ one := Int.ediv_le_self _ h1
  have hdiv0 : 0 ≤ one / other := Int.ediv_nonneg h1 (by omega)
  have key : ∀ a b c d : Int, 0 ≤ a → 0 ≤ b → 0 ≤ c → 0 ≤ d → a * b + c * d = n → (0 < b → a ≤ n) ∧ (0 < d → c ≤ n) := fun a b c d ha hb hc hd e => by
    have p1 := Int.mul_nonneg ha hb
    have p2 := Int.mul_nonneg hc hd
    constructor
    · intro z
      have := Int.mul_le_mul_of_nonneg_left (show 1 ≤ b from z) ha
      omega
    · intro z
      have := Int.mul_le_mul_of_nonneg_left (show 1 ≤ d from z) hc
      omega
  rcases h5 with ⟨a1, a2, a3⟩ | ⟨a1, a2, a3⟩
  · obtain ⟨x1, x2⟩ := key (-first) other second one (by omega) h2 a1 h1 a3
    have := x1 ho
    exact ⟨by omega, fun z => by have := x2 z; omega, hdiv, hdiv0⟩
  · obtain ⟨x1, x2⟩ := key first other (-second) one a2 h2 (by omega) h1 a3
    have := x1 ho
    exact ⟨by omega, fun z => by have := x2 z; omega, hdiv, hdiv0⟩
theorem InvOk.done {u n one first second : Int} (h : InvOk u n one 0 first second) (hn : 0 < n) (hg : Int.gcd u n = 1) : u * (first % n) % n = 1 % n := by
  obtain ⟨h1, _, _, h4, ⟨k1, e1⟩, _⟩ := h
  have ho : one = 1 := by
    rw [Int.gcd_comm n u, hg] at h4
    have : Int.gcd one 0 = one.natAbs := Int.gcd_zero_right one
    omega
  obtain ⟨k, e⟩ := self_mod n first
  rw [e, cg]
  refine ⟨k1 + u * k, ?_⟩
  rw [Int.mul_add, Int.mul_comm u first, e1, ho]
  grind
def rollHi (y : Sty) (b n m o z : Int) (L : Nat) : Int := ((m - ld y * (b ^ L % n) - (o + y.shift) * (b ^ (L - 1) % n)) * b + (z + y.shift) + ld y * (b ^ L % n)) % n
def rollLo (y : Sty) (b n m o z r : Int) (L : Nat) : Int := ((m - ld y * (b ^ L % n) - (o + y.shift) * 1) * r % n + (z + y.shift) * (b ^ (L - 1) % n) + ld y * (b ^ L % n)) % n
def spRolled (c : CA) (Cu : Addr) : Sp := fun vs H Q E => ∃ (x : Addr) (b m o z : Int) (L : Nat) (ps : List (Int × Int)) (y : Sty), vs = [.ref x, .int m, .int L, .int o, .int z] ∧ WayAt c H x b ps y ∧ (num ps).natAbs < 2 ^ 8000 ∧ (0 ≤ m ∧ m < num ps) ∧ 1 ≤ L ∧ L < 2 ^ 40 ∧ (o.natAbs < 2 ^ 1000 ∧ z.natAbs < 2 ^ 1000 ∧ y.shift.natAbs < 2 ^ 1000) ∧
  (y.low = false → Q (.int (rollHi y b (num ps) m o z L)) H) ∧ (y.low = true → L = 1 → Q (.int ((z + y.shift + ld y * (b ^ L % num ps)) % num ps)) H) ∧
  (y.low = true → L ≠ 1 → Int.gcd b (num ps) = 1 → ∀ r H', Same H H' → b * r % num ps = 1 % num ps → Q (.int (rollLo y b (num ps) m o z r L)) H') ∧
  (y.low = true → L ≠ 1 → Int.gcd b (num ps) ≠ 1 → ∀ d H', H d = none → Same H H' → H' d = some (.xd [("length", .int L)]) → E (.ref Cu) (some d) H')
theorem rollHi_eq {y : Sty} (h : y.low = false) (b n o z : Int) (t : List Int) : rollHi y b n (mark y b n (o :: t)) o z (t.length + 1) = mark y b n (t ++ [z]) := by
  unfold rollHi
  rw [Nat.add_sub_cancel]
  exact roll_high h b n o z t
theorem rollLo1 (y : Sty) (b n z : Int) : (z + y.shift + ld y * (b ^ 1 % n)) % n = mark y b n [z] := by
  rw [mark_Sm, Sm_one, cg, show b ^ 1 = b by rw [Int.pow_succ, Int.pow_zero, Int.one_mul]]
  obtain ⟨k1, e1⟩ := self_mod n b
  rw [e1]
  exact ⟨ld y * k1, by grind⟩
theorem rollLo_eq {y : Sty} (h : y.low = true) {b n r : Int} (hr : b * r % n = 1 % n) (o z : Int) (t : List Int) : rollLo y b n (mark y b n (o :: t)) o z r (t.length + 1) = mark y b n (t ++ [z]) := by
  unfold rollLo
  rw [Nat.add_sub_cancel, mark_Sm, mark_Sm, Sm_low h, show o :: t = [o] ++ t from rfl, Sm_low h, Sm_one, Sm_one, cg, show ([o] : List Int).length = 1 from rfl, show b ^ 1 = b by rw [Int.pow_succ, Int.pow_zero, Int.one_mul]]
  obtain ⟨k1, e1⟩ := self_mod n (b ^ (t.length + 1))
  obtain ⟨k2, e2⟩ := self_mod n (b ^ t.length)
  obtain ⟨k3, e3⟩ := self_mod n (ld y * b + o + y.shift + b * (Sm y b t - ld y))
  obtain ⟨k5, e5⟩ := cg.mp hr
  rw [e1, e2, e3]
  generalize hX : (ld y * b + o + y.shift + b * (Sm y b t - ld y) + n * k3 - ld y * (b ^ (t.length + 1) + n * k1) - (o + y.shift) * 1) * r = X
  obtain ⟨k4, e4⟩ := self_mod n X
  rw [e4, ← hX, Int.pow_succ]
  generalize b ^ t.length = q
  generalize Sm y b t = su
  refine ⟨(k3 - ld y * k1) * r + (su - ld y * q) * k5 + k4 + (z + y.shift) * k2 + ld y * k1, ?_⟩
  have e6 : (su - ld y * q) * (b * r) = (su - ld y * q) * (1 + n * k5) := by rw [e5]
  grind
def OpenR (y : Sty) (b n : Int) (t : List Int) : Prop := y.low = true ∧ t ≠ [] ∧ Int.gcd b n ≠ 1
def spLRoll (c : CA) : Sp := fun vs H Q _ => ∃ (x : Addr) (b o z : Int) (t : List Int) (ps : List (Int × Int)) (y : Sty), vs = [.ref x, .int (mark y b (num ps) (o :: t)), .int ((t.length + 1 : Nat) : Int), .int o, .int z] ∧ WayAt c H x b ps y ∧ (num ps).natAbs < 2 ^ 8000 ∧ t.length < 2 ^ 30 ∧ (o.natAbs < 2 ^ 1000 ∧ z.natAbs < 2 ^ 1000 ∧ y.shift.natAbs < 2 ^ 1000) ∧
  (¬ OpenR y b (num ps) t → ∀ H', Same H H' → Q (.int (mark y b (num ps) (t ++ [z]))) H') ∧ (OpenR y b (num ps) t → ∀ p H', H p = none → Same H H' → H' p = some (.lst [.str "open", .int ((t.length + 1 : Nat) : Int)]) → Q (.ref p) H')
def spRR (c : CA) : Sp := fun vs H Q _ => ∃ (a x g le : Addr) (rt cc : Int) (ps : List (Int × Int)) (y : Sty) (ls : List Int), vs = [.ref a, .ref x, .ref g, .int rt, .ref le] ∧ cc < 2 ^ 47 ∧ Purse H a cc ∧ WayAt c (rm a H) x (rt % num ps) ps y ∧ rm a H g = some (.lst [.bl y.low, .int y.shift, .bl y.lead]) ∧ rm a H le = some (.lst (ls.map V.int)) ∧ 1 ≤ ls.length ∧ ls.length ≤ 60 ∧ (∀ z ∈ ls, z.natAbs < 10 ^ 31) ∧ y.shift.natAbs < 10 ^ 31 ∧ rt.natAbs < 2 ^ 4000 ∧ (num ps).natAbs < 2 ^ 8000 ∧
  ∀ H', Same (rm a H) (rm a H') → Purse H' a (cc + 200) → Q (.bl true) H'
def perm5 (vs zs : List V) : List V := match zs with
  | [o, n, l, m, w] => vs ++ [w, m, l, o, n]
  | _ => vs ++ zs
def spDiv : Sp := fun vs H Q _ => ∃ x z : Int, vs = [.int x, .int z] ∧ 0 ≤ x ∧ 0 ≤ z ∧ Q (.int (Int.gcd x z)) H
theorem shaped_so {s : Str} (hs : PyData.strOk s = true) (i : Int) : SeqAt.shaped (.list [.str s, .int i]) = true := by
  unfold SeqAt.shaped
  simp [PyData.canLay0, PyData.canLayAll0, PyData.depth, PyData.depthAll, hs]
theorem eqv_so {s : Str} (hs : PyData.strOk s = true) (i : Int) : PyData.eqv (.list [.str s, .int i]) (.list [.str s, .int i]) = true := SeqAt.eqv_refl _ (by simp [PyData.canLay0, PyData.canLayAll0, hs])
theorem ok_open : PyData.strOk "open" = true := by decide +kernel
def perm5V (us ws : List Value) : List Value := match ws with
  | [o, n, l, m, w] => us ++ [w, m, l, o, n]
  | _ => us ++ ws
theorem perm5_vals : ∀ {vs zs : List V} {us ws : List Value}, Vals vs us → Vals zs ws → Vals (perm5 vs zs) (perm5V us ws)
  | _, _, _, _, r, .nil => r.append .nil
  | _, _, _, _, r, .cons a .nil => r.append (.cons a .nil)
  | _, _, _, _, r, .cons a (.cons b .nil) => r.append (.cons a (.cons b .nil))
  | _, _, _, _, r, .cons a (.cons b (.cons c .nil)) => r.append (.cons a (.cons b (.cons c .nil)))
  | _, _, _, _, r, .cons a (.cons b (.cons c (.cons d .nil))) => r.append (.cons a (.cons b (.cons c (.cons d .nil))))
  | _, _, _, _, r, .cons a (.cons b (.cons c (.cons d (.cons e .nil)))) => r.append (.cons e (.cons d (.cons c (.cons a (.cons b .nil)))))
  | _, _, _, _, r, .cons a (.cons b (.cons c (.cons d (.cons e (.cons f t))))) => r.append (.cons a (.cons b (.cons c (.cons d (.cons e (.cons f t))))))

end Bc
namespace Bc
open PySem PySem.Spec PyProof.Rows L2
/-! ### parts of texts, told or open -/
def spRightX (c : CA) (Cu : Addr) : Sp := fun vs H Q E => ∃ (x : Addr) (b W U : Int) (i j : Nat) (ps : List (Int × Int)) (y : Sty), vs = [.ref x, .int W, .int U, .int i, .int j] ∧ WayAt c H x b ps y ∧ (num ps).natAbs < 2 ^ 8000 ∧ (0 ≤ W ∧ W < num ps) ∧ (0 ≤ U ∧ U < num ps) ∧ i < 2 ^ 40 ∧ j < 2 ^ 40 ∧
  (j = 0 → ∀ H', Same H H' → Q (.int (mark y b (num ps) [])) H') ∧ (j ≠ 0 → y.low = false → Q (.int ((W - b ^ j % num ps * (U - ld y)) % num ps)) H) ∧
  (j ≠ 0 → y.low = true → Int.gcd (b ^ i % num ps) (num ps) = 1 → ∀ r H', Same H H' → b ^ i % num ps * r % num ps = 1 % num ps → Q (.int ((W - U + ld y * (b ^ i % num ps)) * r % num ps)) H') ∧
  (j ≠ 0 → y.low = true → Int.gcd (b ^ i % num ps) (num ps) ≠ 1 → ∀ d H', H d = none → Same H H' → H' d = some (.xd [("length", .int i)]) → E (.ref Cu) (some d) H')
def spLeftX (c : CA) (Cu : Addr) : Sp := fun vs H Q E => ∃ (x : Addr) (b W V' : Int) (i j : Nat) (ps : List (Int × Int)) (y : Sty), vs = [.ref x, .int W, .int V', .int i, .int j] ∧ WayAt c H x b ps y ∧ (num ps).natAbs < 2 ^ 8000 ∧ (0 ≤ W ∧ W < num ps) ∧ (0 ≤ V' ∧ V' < num ps) ∧ i < 2 ^ 40 ∧ j < 2 ^ 40 ∧
  (i = 0 → ∀ H', Same H H' → Q (.int (mark y b (num ps) [])) H') ∧ (i ≠ 0 → y.low = true → Q (.int ((W - b ^ i % num ps * (V' - ld y)) % num ps)) H) ∧
  (i ≠ 0 → y.low = false → Int.gcd (b ^ j % num ps) (num ps) = 1 → ∀ r H', Same H H' → b ^ j % num ps * r % num ps = 1 % num ps → Q (.int ((W - V' + ld y * (b ^ j % num ps)) * r % num ps)) H') ∧
  (i ≠ 0 → y.low = false → Int.gcd (b ^ j % num ps) (num ps) ≠ 1 → ∀ d H', H d = none → Same H H' → H' d = some (.xd [("length", .int j)]) → E (.ref Cu) (some d) H')
theorem right_low {y : Sty} (h : y.low = true) {b n r : Int} (u v : List Int) (hr : b ^ u.length % n * r % n = 1 % n) : (mark y b n (u ++ v) - mark y b n u + ld y * (b ^ u.length % n)) * r % n = mark y b n v := by
  rw [mark_Sm, mark_Sm, mark_Sm, Sm_low h, cg]
  obtain ⟨k1, e1⟩ := self_mod n (b ^ u.length)
  obtain ⟨k2, e2⟩ := self_mod n (Sm y b u)
  obtain ⟨k3, e3⟩ := self_mod n (Sm y b u + b ^ u.length * (Sm y b v - ld y))
  obtain ⟨k5, e5⟩ := cg.mp hr
  rw [e1] at e5
  rw [e1, e2, e3]
  generalize b ^ u.length = q at e5 ⊢
  generalize Sm y b u = su
  generalize Sm y b v = sv
  refine ⟨(k3 - k2 + ld y * k1 - k1 * sv) * r + sv * k5, ?_⟩
  have e6 : sv * ((q + n * k1) * r) = sv * (1 + n * k5) := by rw [e5]
  grind
theorem left_high {y : Sty} (h : y.low = false) {b n r : Int} (u v : List Int) (hr : b ^ v.length % n * r % n = 1 % n) : (mark y b n (u ++ v) - mark y b n v + ld y * (b ^ v.length % n)) * r % n = mark y b n u := by
  rw [mark_Sm, mark_Sm, mark_Sm, Sm_high h, cg]
  obtain ⟨k1, e1⟩ := self_mod n (b ^ v.length)
  obtain ⟨k2, e2⟩ := self_mod n (Sm y b v)
  obtain ⟨k3, e3⟩ := self_mod n ((Sm y b u - ld y) * b ^ v.length + Sm y b v)
  obtain ⟨k5, e5⟩ := cg.mp hr
  rw [e1] at e5
  rw [e1, e2, e3]
  generalize b ^ v.length = q at e5 ⊢
  generalize Sm y b u = su
  generalize Sm y b v = sv
  refine ⟨(k3 - k2 + ld y * k1 - k1 * su) * r + su * k5, ?_⟩
  have e6 : su * ((q + n * k1) * r) = su * (1 + n * k5) := by rw [e5]
  grind
/-- which part is open -/
def OpenP (y : Sty) (b n : Int) (k : Nat) (i j : Nat) : Prop := if k = 0 then y.low = true ∧ j ≠ 0 ∧ Int.gcd (b ^ i % n) n ≠ 1 else y.low = false ∧ i ≠ 0 ∧ Int.gcd (b ^ j % n) n ≠ 1
def spTold (c : CA) : Sp := fun vs H Q _ => ∃ (k : Nat) (x lm lz : Addr) (b : Int) (u v : List Int) (ps : List (Int × Int)) (y : Sty), vs = [.int k, .ref x, .ref lm, .ref lz] ∧ k < 2 ∧ WayAt c H x b ps y ∧ (num ps).natAbs < 2 ^ 8000 ∧ u.length < 2 ^ 40 ∧ v.length < 2 ^ 40 ∧
  H lm = some (.lst [.int (mark y b (num ps) (u ++ v)), .int (mark y b (num ps) u), .int (mark y b (num ps) v)]) ∧ H lz = some (.lst [.int u.length, .int v.length]) ∧
  (¬ OpenP y b (num ps) k u.length v.length → ∀ H', Same H H' → Q (.int (if k = 0 then mark y b (num ps) v else mark y b (num ps) u)) H') ∧
  (OpenP y b (num ps) k u.length v.length → ∀ p H', H p = none → Same H H' → H' p = some (.lst [.str "open", .int ((if k = 0 then u.length else v.length : Nat) : Int)]) → Q (.ref p) H')
def spIsOpen : Sp := fun vs H Q _ => ∃ (r n : Int) (k : Nat), vs = [.int r, .int k, .int n] ∧ 0 < n ∧ n.natAbs < 2 ^ 8000 ∧ r.natAbs < 2 ^ 8000 ∧ k < 2 ^ 40 ∧ Q (.bl (!decide (Int.gcd (r ^ k % n) n = 1))) H
theorem pow_mod_succ (r n : Int) (i : Nat) : r ^ i % n * r % n = r ^ (i + 1) % n := by
  rw [Int.pow_succ, Int.mul_emod, Int.emod_emod_of_dvd _ (Int.dvd_refl n), ← Int.mul_emod]
theorem pow_mod_base (r n : Int) : ∀ i : Nat, (r % n) ^ i % n = r ^ i % n
  | 0 => by rw [Int.pow_zero, Int.pow_zero]
  | i + 1 => by
    rw [Int.pow_succ, Int.pow_succ, Int.mul_emod, pow_mod_base r n i, Int.emod_emod_of_dvd _ (Int.dvd_refl n), ← Int.mul_emod]
/-- what is told of a part: its mark, or that it is open -/
def DE (op : Prop) (m len : Int) (e : V) (G : Hp) : Prop := (¬ op ∧ e = .int m) ∨ (op ∧ ∃ p, e = .ref p ∧ G p = some (.lst [.str "open", .int len]))
theorem DE.same {op : Prop} {m len : Int} {e : V} {G G' : Hp} (h : DE op m len e G) (s : Same G G') : DE op m len e G' := by
  rcases h with h | ⟨h, p, e1, e2⟩
  · exact .inl h
  · exact .inr ⟨h, p, e1, s _ _ e2⟩
theorem DE.both {K : PySem.W.Frag} {op : Prop} {m len : Int} {e e' : V} {G G' H : Hp} (h : DE op m len e G) (h' : DE op m len e' G') (s : Same G H) (s' : Same G' H) : ∃ d, Dp K H e d ∧ Dp K H e' d ∧ PyData.canLay0 d = true ∧ PyData.depth d ≤ 1 := by
  rcases h with ⟨n, rfl⟩ | ⟨o, p, rfl, hp⟩
  · rcases h' with ⟨_, rfl⟩ | ⟨o, _⟩
    · exact ⟨.int m, .int _, .int _, rfl, Nat.zero_le _⟩
    · exact absurd o n
  · rcases h' with ⟨n, _⟩ | ⟨_, p', rfl, hp'⟩
    · exact absurd o n
    · exact ⟨.list [.str "open", .int len], .lst (sq (s _ _ hp)) (.cons (.str _) (.cons (.int _) .nil)), .lst (sq (s' _ _ hp')) (.cons (.str _) (.cons (.int _) .nil)), by simp [PyData.canLay0, PyData.canLayAll0, ok_open], by simp [PyData.depth, PyData.depthAll]⟩
theorem w_eqDE {K : PySem.W.Frag} {H : Hp} {a b : Addr} {x0 x1 z0 z1 : V} {d0 d1 : PyData} {Q : VK} (ha : H a = some (.lst [x0, x1])) (hb : H b = some (.lst [z0, z1])) (h0 : Dp K H x0 d0) (h1 : Dp K H x1 d1) (g0 : Dp K H z0 d0) (g1 : Dp K H z1 d1) (c0 : PyData.canLay0 d0 = true) (c1 : PyData.canLay0 d1 = true) (e0 : PyData.depth d0 ≤ 1) (e1 : PyData.depth d1 ≤ 1) (q : Q (.bl true) H) : rEqD K (.ref a) (.ref b) H Q := by
  have lay : PyData.canLay0 (.list [d0, d1]) = true := by simp [PyData.canLay0, PyData.canLayAll0, c0, c1]
  have sh : SeqAt.shaped (.list [d0, d1]) = true := by
    unfold SeqAt.shaped
    rw [lay]
    have b : PyData.depth (.list [d0, d1]) ≤ 3 := by
      simp only [PyData.depth, PyData.depthAll, Nat.max_def]
      split <;> split <;> omega
    rw [Bool.true_and]
    exact decide_eq_true (by omega)
  refine ⟨.list [d0, d1], .list [d0, d1], .lst (sq ha) (.cons h0 (.cons h1 .nil)), .lst (sq hb) (.cons g0 (.cons g1 .nil)), sh, sh, ?_⟩
  rw [SeqAt.eqv_refl _ lay]
  exact q
section
variable {a p : Addr} {c i : Int} {H : Hp} {v : V} {xs : List V} {j : Nat} {Qs : Hp → Prop}
theorem w_setLR (pu : Purse H a c) (h : rm a H p = some (.lst xs)) (e : ixN xs.length i = some j) (q : ∀ H', Same (rm p (rm a H)) (rm p (rm a H')) → Purse H' a c → rm a H' p = some (.lst (xs.set j v)) → Qs H') : rSetL (.ref p) (.int i) v H Qs := by
  have np : p ≠ a := fun e => by rw [e, rm_self] at h; cases h
  refine w_setL (rm_le _ _ h) e (q _ ?_ ?_ ?_)
  · rw [rm_upd np, rm_updS]
    exact Same.refl _
  · obtain ⟨x1, y1, z1, e1, r1⟩ := pu
    exact ⟨x1, y1, z1, by rw [upd_ne np.symm]; exact e1, r1⟩
  · exact rm_of np upd_same
end
theorem map_int_inj {l m : List Int} (h : l.map V.int = m.map V.int) : l = m := by
  induction l generalizing m with
  | nil => cases m with
    | nil => rfl
    | cons _ _ => cases h
  | cons a t ih => cases m with
    | nil => cases h
    | cons b s =>
      rw [List.map_cons, List.map_cons] at h
      injection h with h1 h2
      injection h1 with h1
      rw [h1, ih h2]
theorem three_marks {G : Hp} {le pu pv : Addr} {x u v : List Int} {f : List Int → Int} {ys : List V} (h1 : G le = some (.lst (x.map V.int))) (h2 : G pu = some (.lst (u.map V.int))) (h3 : G pv = some (.lst (v.map V.int)))
    (h : Paired (fun (a z : V) => ∃ (q : Addr) (m : List Int), a = V.ref q ∧ G q = some (.lst (m.map V.int)) ∧ z = V.int (f m)) [V.ref le, V.ref pu, V.ref pv] ys) : ys = [.int (f x), .int (f u), .int (f v)] := by
  cases h with | cons e0 h => ?_
  cases h with | cons e1 h => ?_
  cases h with | cons e2 h => ?_
  cases h
  obtain ⟨q, m, a1, a2, rfl⟩ := e0
  injection a1 with a1
  rw [← a1, h1] at a2
  injection a2 with a2
  injection a2 with a2
  obtain ⟨q', m', b1, b2, rfl⟩ := e1
  injection b1 with b1
  rw [← b1, h2] at b2
  injection b2 with b2
  injection b2 with b2
  obtain ⟨q'', m'', c1, c2, rfl⟩ := e2
  injection c1 with c1
  rw [← c1, h3] at c2
  injection c2 with c2
  injection c2 with c2
  rw [map_int_inj a2, map_int_inj b2, map_int_inj c2]
theorem two_told {R : Nat → V → Prop} {ys : List V} (h : Paired (fun (x z : V) => ∃ k : Nat, x = V.int (0 + (k : Int)) ∧ R k z) ((List.range 2).map fun i : Nat => V.int (0 + (i : Int))) ys) : ∃ z0 z1, ys = [z0, z1] ∧ R 0 z0 ∧ R 1 z1 := by
  rw [show (List.range 2).map (fun i : Nat => V.int (0 + (i : Int))) = [V.int (0 + ((0 : Nat) : Int)), V.int (0 + ((1 : Nat) : Int))] from rfl] at h
  cases h with | cons e0 h => ?_
  cases h with | cons e1 h => ?_
  cases h
  obtain ⟨k0, a0, b0⟩ := e0
  obtain ⟨k1, a1, b1⟩ := e1
  injection a0 with a0
  injection a1 with a1
  have h0 : k0 = 0 := by omega
  have h1 : k1 = 1 := by omega
  subst h0
  subst h1
  exact ⟨_, _, rfl, b0, b1⟩

end Bc
namespace Bc
open PySem PySem.Spec PyProof.Rows L2
/-! ### a try with several clauses, with a name and without -/
/-- a clause: its class, the slot of its name if it has one, its suite's reading -/
structure Cl where
  c : Value
  i : Option Nat
  ts : Addr → Value → Option Addr → TS
def clEnds (i : Option Nat) (D : Ends) : Ends := match i with
  | none => D
  | some i => { nx := fun σ' H' => D.nx (σ'.set i none) H', rt := D.rt, bk := fun σ' H' => D.bk (σ'.set i none) H', ct := fun σ' H' => D.ct (σ'.set i none) H' }
def clSlot (i : Option Nat) (a : Addr) (σ : L2.St) : L2.St := match i with
  | none => σ
  | some i => σ.set i (some (.ref a))
/-- what the clauses wish of an error of the body -/
def wCls (K : PySem.W.Frag) (Wout : WX) (D : Ends) : List Cl → WX
  | [] => Wout
  | k :: r => fun cls d σ H => ∃ b, PySem.W.exmOne K cls k.c = some b ∧ (b = true → ∀ a, H a = none → k.ts a cls d (clEnds k.i D) (clSlot k.i a σ) H) ∧ (b = false → wCls K Wout D r cls d σ H)
inductive ClsOk (X : Cx) : List ExceptHandler → List Cl → Prop
  | nil : ClsOk X [] []
  | as {x n : Str} {c : Value} {i : Nat} {ts : Addr → Value → Option Addr → TS} {b₀ : Stmt} {suite : List Stmt} {np pos' : Pos} {hds : List ExceptHandler} {l : List Cl} (hN : X.N.Nodup) (hi : X.N[i]? = some n) (hln : X.env.kindOf n = some .local) (hc : Names X x c)
      (hsu : ∀ (a : Addr) (oe : Obj) (cls : Value) (d : Option Addr) (pn : List (Addr × Obj)), Zc cls d oe → (∃ vs, oe.data = .fields vs) → PSs (X.suite a ((a, oe) :: pn)) (b₀ :: suite) (ts a cls d)) (r : ClsOk X hds l) :
      ClsOk X (.ExceptHandler (some (.Name x np)) (some n) (b₀ :: suite) pos' :: hds) (⟨c, some i, ts⟩ :: l)
  | no {x : Str} {c : Value} {ts : Addr → Value → Option Addr → TS} {b₀ : Stmt} {suite : List Stmt} {np pos' : Pos} {hds : List ExceptHandler} {l : List Cl} (hc : Names X x c)
      (hsu : ∀ (a : Addr) (oe : Obj) (cls : Value) (d : Option Addr) (pn : List (Addr × Obj)), Zc cls d oe → (∃ vs, oe.data = .fields vs) → PSs (X.suite a ((a, oe) :: pn)) (b₀ :: suite) (ts a cls d)) (r : ClsOk X hds l) :
      ClsOk X (.ExceptHandler (some (.Name x np)) none (b₀ :: suite) pos' :: hds) (⟨c, none, ts⟩ :: l)
section
variable {X : Cx} {body : List Stmt} {h₀ : ExceptHandler} {hds : List ExceptHandler} {l : List Cl} {pos : Pos} {tb : WX → TS} {Wout : WX}
theorem ps_try_cls (hs : X.stack = X.env :: X.outer) (hf : X.env.frame = some X.env.locals) (tk : Takes X Wout)
    (hb : ∀ (W : WX) (pn : List (Addr × Obj)) (xe : Value → Shared → Prop), Takes (X.tr pn xe) W → PassesOwn (model X.prog X.w) X.A X.env xe → PSs (X.tr pn xe) body (tb W))
    (hh : ClsOk X (h₀ :: hds) l) : PS X (.Try body (h₀ :: hds) [] [] pos) (fun D σ H => tb (wCls X.K Wout D l) D σ H) := by
  refine ⟨fun pins s σ H D I h => ?_⟩
  have ok := I.ok
  have hfr : X.A.frames = some (X.env :: X.outer) := by rw [ok.frames, hs]
  refine wpAny_Try_except ?_
  refine wpAny_mono ((hb (wCls X.K Wout D l) (X.pn ++ pins) (fun e s₁ => wpAny (model X.prog X.w) X.A (noteFrame e X.env) (fun _ s₂ => wpAny (model X.prog X.w) X.A (setFlight e none) (fun _ s₃ =>
    wpAny (model X.prog X.w) X.A (handleBy e X.env (h₀ :: hds)) (SP X pins D) X.xe s₃) X.xe s₂) X.xe s₁) (fun u s' xx => ?_) PassesOwn.looking).run [] s σ H D (I.toTry _) h) (fun f s1 hsp => ?_) (fun e s1 he => he)
  · obtain ⟨a, B, sI, pins', σ', H', cls, d, rfl, J', nb, up, sky, na, os, ag, w⟩ := xx
    have J : Inv X pins σ' H' sI := J'.ofTry ok
    have sky' : Sky B (X.env :: X.outer) a (Zc cls d) X.env.locals s'.heap := by rw [← hs]; exact sky
    show wpAny (model X.prog X.w) X.A (noteFrame (.ref a) X.env) _ _ _
    refine Sky.land Zc.steady hfr hf sky' fun h3 fl3 up3 => ?_
    have J3 : Inv X pins σ' H' { s' with heap := h3 } := J.landed nb fl3.1 (up.trans up3) os ag
    obtain ⟨oe3, vs3, he3, hz3, hd3⟩ := fl3.there
    have nfr : a ∉ frs (X.env :: X.outer) := fun hm => by
      obtain ⟨_, o', e', hnf⟩ := fl3.2.2.1.mem hm
      rw [he3] at e'
      cases e'
      exact hnf _ hd3
    have nL : a ≠ X.env.locals := fun z => nfr (List.mem_filterMap.mpr ⟨X.env, List.mem_cons_self, by rw [hf, z]⟩)
    have nF : a ∉ X.fs := fun hm => by
      obtain ⟨e, he, q⟩ := List.mem_filterMap.mp hm
      exact nfr (List.mem_filterMap.mpr ⟨e, List.mem_cons_of_mem _ he, q⟩)
    have S3 := J3.suite he3 hd3 na nL nF
    have LT : PySem.W.Looks (model X.prog X.w) h3 (typeOf (.ref a)) cls := fun A Q E s k q => wpAny_typeOf_ref (k _ _ he3) (by rw [hz3.1]; exact q)
    have test : ∀ {x : Str} {c : Value} {np : Pos} {Q : Value → Shared → Prop} {E : Value → Shared → Prop}, Names X x c → Q c { s' with heap := h3 } → wpAny (model X.prog X.w) (X.A.mark (some (.ref a))) (eval (.Name x np) X.env) Q E { s' with heap := h3 } := fun {x c np Q E} hc q => by
      obtain ⟨hg, hdbg, hm | ⟨hm, hv, hnn⟩⟩ := hc
      · exact ld_glob (X := X.suite a ((a, oe3) :: (X.pn ++ pins))) S3 hg hm q hdbg
      · exact ld_blt (X := X.suite a ((a, oe3) :: (X.pn ++ pins))) S3 hg hm hv q hnn hdbg
    have go : ∀ {hds' : List ExceptHandler} {l' : List Cl}, ClsOk X hds' l' → wCls X.K Wout D l' cls d σ' H' →
        wpAny (model X.prog X.w) X.A (handleBy (.ref a) X.env hds') (SP X pins D) X.xe { s' with heap := h3 } := by
      intro hds' l' hk
      induction hk with
      | nil =>
        intro w
        refine wpAny_handleBy_nil ?_
        obtain ⟨k1, k2, k3, oe, vs, T, oT, ts', he, hz, hd, h1, hr⟩ := id fl3
        unfold PySem.passOn
        refine wpAny_bind (wpAny_field he hd h1 ?_)
        rw [if_neg (show ¬ ((Value.ref T == Value.none) = true) from by simp)]
        have fin : wpAny (model X.prog X.w) X.A (setFlight (.ref a) X.env.frame) (fun _ s4 => wpAny (model X.prog X.w) X.A (throw (.ref a) : Sem Flow) (SP X pins D) X.xe s4) X.xe { s' with heap := h3 } := by
          rw [hf]
          refine HandSPX.setFlight_upZ fl3 fun h4 hh4 up4 => wpAny_throw (tk _ _ ?_)
          exact ⟨a, B, sI, pins, σ', H', cls, d, rfl, J, nb, (up.trans up3).trans up4, .inr (.inr (by rw [hs]; exact hh4)), na, os, ag, w⟩
        first
          | exact wpAny_bind (wpAny_pure (wpAny_bind fin))
          | exact wpAny_bind fin
      | @as x n c i ts b₀ suite np pos' hds2 l2 hN hi hln hc hsu r ih =>
        intro w
        obtain ⟨b, hb1, hyes, hno⟩ := w
        refine wpAny_handleBy_cons (codeAny_handlers_test ?_) (by intro q; cases q)
        refine test hc ((PySem.W.exm_one (M := model X.prog X.w) (J3.kIn) LT hb1).here ?_)
        cases b with
        | true =>
          refine codeAny_handlers_suite_as ?_
          refine HandSPX.lands_againZ fl3 fun h4 fl4 up4 => ?_
          have J4 : Inv X pins σ' H' { s' with heap := h4 } := J.landed nb fl4.1 ((up.trans up3).trans up4) os ag
          obtain ⟨oe4, vs4, he4, hz4, hd4⟩ := fl4.there
          have S4 := J4.suite he4 hd4 na nL nF
          refine store_ok (X := X.suite a ((a, oe4) :: (X.pn ++ pins))) (v := .ref a) S4 hN hi (.inl hln) rfl (fun s5 S5 => ?_) (.inr hln)
          refine wpAny_mono ((hsu a oe4 cls d (X.pn ++ pins) hz4 ⟨_, hd4⟩).run [] s5 _ H' _ S5 (hyes rfl a na)) (fun f s6 hsp => ?_) (fun _ _ z => False.elim z)
          have end_ : ∀ {σ6 : L2.St} {H6 : Hp} {Q : Shared → Prop}, Inv (X.suite a ((a, oe4) :: (X.pn ++ pins))) [] σ6 H6 s6 → (∀ s7, Inv X pins (σ6.set i none) H6 s7 → Q s7) →
              wpAny (model X.prog X.w) X.A (do bindName X.env n .none; unbindBehindTheSuite X.env n pos') (fun _ s7 => Q s7) X.xe s6 := fun {σ6 H6 Q} S6 hq => gone_ok (S6.unsuite ok) hN hi hln hq
          cases f with
          | next =>
            obtain ⟨σ6, H6, S6, q6⟩ := hsp
            exact end_ S6 fun s7 J7 => ⟨_, _, J7, q6⟩
          | brk =>
            obtain ⟨σ6, H6, S6, q6⟩ := hsp
            exact end_ S6 fun s7 J7 => ⟨_, _, J7, q6⟩
          | cont =>
            obtain ⟨σ6, H6, S6, q6⟩ := hsp
            exact end_ S6 fun s7 J7 => ⟨_, _, J7, q6⟩
          | ret u =>
            obtain ⟨v6, σ6, H6, S6, r6, q6⟩ := hsp
            exact end_ S6 fun s7 J7 => ⟨_, _, _, J7, r6, q6⟩
        | false =>
          show wpAny _ X.A (handleBy (.ref a) X.env hds2) _ _ _
          exact ih (hno rfl)
      | @no x c ts b₀ suite np pos' hds2 l2 hc hsu r ih =>
        intro w
        obtain ⟨b, hb1, hyes, hno⟩ := w
        refine wpAny_handleBy_cons (codeAny_handlers_test ?_) (by intro q; cases q)
        refine test hc ((PySem.W.exm_one (M := model X.prog X.w) (J3.kIn) LT hb1).here ?_)
        cases b with
        | true =>
          refine codeAny_handlers_suite ?_
          refine HandSPX.lands_againZ fl3 fun h4 fl4 up4 => ?_
          have J4 : Inv X pins σ' H' { s' with heap := h4 } := J.landed nb fl4.1 ((up.trans up3).trans up4) os ag
          obtain ⟨oe4, vs4, he4, hz4, hd4⟩ := fl4.there
          have S4 := J4.suite he4 hd4 na nL nF
          refine wpAny_mono ((hsu a oe4 cls d (X.pn ++ pins) hz4 ⟨_, hd4⟩).run [] _ _ H' _ S4 (hyes rfl a na)) (fun f s6 hsp => ?_) (fun _ _ z => False.elim z)
          cases f with
          | next =>
            obtain ⟨σ6, H6, S6, q6⟩ := hsp
            exact ⟨_, _, S6.unsuite ok, q6⟩
          | brk =>
            obtain ⟨σ6, H6, S6, q6⟩ := hsp
            exact ⟨_, _, S6.unsuite ok, q6⟩
          | cont =>
            obtain ⟨σ6, H6, S6, q6⟩ := hsp
            exact ⟨_, _, S6.unsuite ok, q6⟩
          | ret u =>
            obtain ⟨v6, σ6, H6, S6, r6, q6⟩ := hsp
            exact ⟨_, _, _, S6.unsuite ok, r6, q6⟩
        | false =>
          show wpAny _ X.A (handleBy (.ref a) X.env hds2) _ _ _
          exact ih (hno rfl)
    exact go hh w
  · cases f with
    | next =>
      obtain ⟨σ', H', J', q⟩ := hsp
      exact wpAny_execs_nil ⟨σ', H', J'.ofTry ok, q⟩
    | brk =>
      obtain ⟨σ', H', J', q⟩ := hsp
      exact ⟨σ', H', J'.ofTry ok, q⟩
    | cont =>
      obtain ⟨σ', H', J', q⟩ := hsp
      exact ⟨σ', H', J'.ofTry ok, q⟩
    | ret u =>
      obtain ⟨v, σ', H', J', r, q⟩ := hsp
      exact ⟨v, σ', H', J'.ofTry ok, r, q⟩
end
section
variable {K : PySem.W.Frag} {W : WX} {D : Ends} {c cls : Value} {i : Nat} {ts : Addr → Value → Option Addr → TS} {r : List Cl} {d : Option Addr} {σ : L2.St} {H : Hp}
theorem w_clsA (te : PySem.W.exmOne K cls c = some true) (q : ∀ a, H a = none → ts a cls d { nx := fun σ' H' => D.nx (σ'.set i none) H', rt := D.rt, bk := fun σ' H' => D.bk (σ'.set i none) H', ct := fun σ' H' => D.ct (σ'.set i none) H' } (σ.set i (some (.ref a))) H) :
    wCls K W D (⟨c, some i, ts⟩ :: r) cls d σ H := ⟨true, te, fun _ => q, fun z => by cases z⟩
theorem w_clsN (te : PySem.W.exmOne K cls c = some true) (q : ∀ a, H a = none → ts a cls d D σ H) : wCls K W D (⟨c, none, ts⟩ :: r) cls d σ H := ⟨true, te, fun _ => q, fun z => by cases z⟩
theorem w_cls0 {k : Cl} (te : PySem.W.exmOne K cls k.c = some false) (q : wCls K W D r cls d σ H) : wCls K W D (k :: r) cls d σ H := ⟨false, te, (fun z => by cases z), fun _ => q⟩
end

end Bc
namespace Bc
open PySem PySem.Spec PyProof.Rows L2
/-! ### == of lists with the same things in them -/
def plainV : V → Bool
  | .byt _ => false
  | .flt _ => false
  | _ => true
def Alk (K : PySem.W.Frag) (H : Hp) : Nat → V → V → Prop
  | 0, x, y => x = y ∧ plainV x = true
  | n + 1, x, y => (x = y ∧ plainV x = true) ∨ ∃ p q xs ys, x = .ref p ∧ y = .ref q ∧ SqL K H p xs ∧ SqL K H q ys ∧ Paired (Alk K H n) xs ys
theorem eq_self {x : V} {v u : Value} {A : Around} {s : Shared} (h : plainV x = true) (r : RelV x v) (r' : RelV x u) : PySem.SeqAt.EqAt A s v u true := by
  cases x with
  | non => cases r; cases r'; exact PySem.SeqAt.EqAt.same _
  | bl b => cases r; cases r'; exact PySem.SeqAt.EqAt.same _
  | int i =>
    obtain ⟨t, rfl⟩ := r
    obtain ⟨t', rfl⟩ := r'
    have := PySem.SeqAt.EqAt.int_int (A := A) (s := s) i t i t'
    rwa [beq_self_eq_true] at this
  | str z =>
    obtain ⟨t, rfl⟩ := r
    obtain ⟨t', rfl⟩ := r'
    have := PySem.SeqAt.EqAt.str_str (A := A) (s := s) z t z t'
    rwa [beq_self_eq_true] at this
  | byt b => cases h
  | flt b => cases h
  | ref a => cases r; cases r'; exact PySem.SeqAt.EqAt.same _
  | ty n => cases r; cases r'; exact PySem.SeqAt.EqAt.same _
section
variable {X : Cx} {pins : List (Addr × Obj)} {σ : L2.St} {H : Hp} {s : Shared}
theorem paired_at {α β : Type} {F : α → β → Prop} : ∀ {l : List α} {m : List β}, Paired F l m → ∀ j (h1 : j < l.length) (h2 : j < m.length), F l[j] m[j]
  | _, _, .cons h _, 0, _, _ => h
  | _, _, .cons _ r, j + 1, h1, h2 => paired_at r j (Nat.lt_of_succ_lt_succ h1) (Nat.lt_of_succ_lt_succ h2)
theorem rc_lists {F : V → V → Prop} {A : Around} {p q : Addr} {xs ys : List V} (I : Inv X pins σ H s) (hx : SqL X.K H p xs) (hy : SqL X.K H q ys) (hp : Paired F xs ys) (hu : A.units < cLine)
    (hF : ∀ x y v u, F x y → RelV x v → RelV y u → PySem.SeqAt.EqAt A.in1 s v u true) : PySem.SeqAt.RcAt A s (.ref p) (.ref q) true := by
  obtain ⟨is, r1, ⟨o1, n1, e1, c1, _, d1⟩, _⟩ := I.list hx
  obtain ⟨js, r2, ⟨o2, n2, e2, c2, _, d2⟩, _⟩ := I.list hy
  have l0 := hp.length
  have l1 := r1.length
  have l2 := r2.length
  have h := PySem.SeqAt.RcAt.lists (A := A) (e := fun _ => true) ⟨o1, e1, c1, n1, d1⟩ ⟨o2, e2, c2, n2, d2⟩ (by simp only [List.size_toArray]; omega) hu (fun j h1 h2 => by
    simp only [List.size_toArray] at h1 h2
    simp only [List.getElem_toArray]
    exact hF _ _ _ _ (paired_at hp j (by omega) (by omega)) (paired_at r1 j (by omega) h1) (paired_at r2 j (by omega) h2))
  rwa [show ((List.range is.toArray.size).all fun _ => true) = true from List.all_eq_true.mpr fun _ _ => rfl] at h
theorem Alk.eq (I : Inv X pins σ H s) : ∀ (n : Nat) (A : Around) (x y : V) (v u : Value), Alk X.K H n x y → RelV x v → RelV y u → A.units + n < cLine → PySem.SeqAt.EqAt A s v u true
  | 0, _, _, _, _, _, ⟨e, h⟩, r, r', _ => by subst e; exact eq_self h r r'
  | n + 1, A, _, _, _, _, .inl ⟨e, h⟩, r, r', _ => by subst e; exact eq_self h r r'
  | n + 1, A, _, _, _, _, .inr ⟨p, q, xs, ys, ex, ey, hx, hy, hp⟩, r, r', hu => by
    subst ex
    subst ey
    cases r
    cases r'
    by_cases hpq : p = q
    · subst hpq
      exact PySem.SeqAt.EqAt.same _
    · exact PySem.SeqAt.EqAt.of_refs hpq (rc_lists I hx hy hp (by omega) fun x y v u h r r' => Alk.eq I n A.in1 x y v u h r r' (by show A.units + 1 + n < cLine; omega))
def rEqA (K : PySem.W.Frag) : R2 := fun x y H Q => ∃ n p q xs ys, x = .ref p ∧ y = .ref q ∧ n ≤ 50 ∧ SqL K H p xs ∧ SqL K H q ys ∧ Paired (Alk K H n) xs ys ∧ Q (.bl true) H
theorem op_eqA (hu : X.A.units + 64 < cLine) : OpR X (compareOp .Eq) (rEqA X.K) := by
  intro pins s σ H x y v u Q I rx ry h
  obtain ⟨n, p, q, xs, ys, rfl, rfl, hn, hx, hy, hp, k⟩ := h
  cases rx
  cases ry
  exact rc_lists I hx hy hp (by omega) (fun x y v u h r r' => Alk.eq I n X.A.in1 x y v u h r r' (by show X.A.units + 1 + n < cLine; omega)) X.prog X.w _ _ ⟨.bl true, H, I, rfl, k⟩
end

end Bc
namespace Bc
open PySem PySem.Spec PyProof.Rows L2
/-! ### plain shifts, refused things -/
def spReqOneX (K : PySem.W.Frag) (c : CA) (Ci : Addr) : Sp := fun vs H Q E => ∃ (v : V) (t : Value) (b : Bool), vs = [v] ∧ TyX K H v t ∧ PySem.W.kitOne K t (.ref c.wy) = some b ∧ (b = true → Q .non H) ∧
  (b = false → ∀ d H', H d = none → Same H H' → H' d = some (.xd [("thing", v)]) → E (.ref Ci) (some d) H')
def spPlainX (K : PySem.W.Frag) (c : CA) (Ci : Addr) : Sp := fun vs H Q E => ∃ (v : V) (t : Value) (b : Bool), vs = [v] ∧ TyX K H v t ∧ PySem.W.kitOne K t (.ref c.wy) = some b ∧
  (b = true → ∃ (x : Addr) (r : Int) (ps : List (Int × Int)) (y : Sty), v = .ref x ∧ WayAt c H x r ps y ∧ Q (.int (plainS y r (num ps))) H) ∧
  (b = false → ∀ d H', H d = none → Same H H' → H' d = some (.xd [("thing", v)]) → E (.ref Ci) (some d) H')
/-- what is no way -/
structure NoW (K : PySem.W.Frag) (c : CA) : Prop where
  non : PySem.W.kitOne K (.type "NoneType") (.ref c.wy) = some false
  int : PySem.W.kitOne K (.type "int") (.ref c.wy) = some false
  bl : PySem.W.kitOne K (.type "bool") (.ref c.wy) = some false
  str : PySem.W.kitOne K (.type "str") (.ref c.wy) = some false
  lst : PySem.W.kitOne K (.type "list") (.ref c.wy) = some false
  dct : PySem.W.kitOne K (.type "dict") (.ref c.wy) = some false
  md : PySem.W.kitOne K (.ref c.md) (.ref c.wy) = some false
theorem w_dnew {σ : L2.St} {H : Hp} {Q : VK} (q : ∀ p, H p = none → atV Q (.ref p) (upd H p (.dK []))) : tDNewK σ H Q := q
theorem w_isB {a b : Bool} {H : Hp} {Q : VK} (q : Q (.bl (decide (a = b))) H) : rIsB (.bl a) (.bl b) H Q := ⟨a, b, rfl, rfl, q⟩
/-! ### drawn ways, things that are no ways -/
def spSome : Sp := fun vs H Q _ => ∃ (a : Addr) (c : Int), vs = [.ref a] ∧ c < 2 ^ 48 ∧ Purse H a c ∧
  ∀ (l : Addr) (H' : Hp) (ps : List (Int × Int)), Same (rm a H) (rm a H') → Purse H' a (c + 1) → PrL (rm a H') l ps → Asc 0 ps → Small ps → (num ps).natAbs < 2 ^ 200 → Q (.ref l) H'
def spDrawn (ca : CA) : Sp := fun vs H Q _ => ∃ (a : Addr) (c : Int), vs = [.ref a] ∧ c < 2 ^ 47 ∧ Purse H a c ∧
  ∀ (t x g : Addr) (H' : Hp) (b : Int) (ps : List (Int × Int)) (y : Sty), Same (rm a H) (rm a H') → Purse H' a (c + 100) → rm a H' t = some (.tup [.ref x, .ref g]) → WayAt ca (rm a H') x b ps y → rm a H' g = some (.lst [.bl y.low, .int y.shift, .bl y.lead]) → (num ps).natAbs < 2 ^ 200 → y.shift.natAbs < 10 ^ 31 → Q (.ref t) H'
def spNoWay (K : PySem.W.Frag) (c : CA) : Sp := fun vs H Q _ => ∃ (v : V) (t : Value), vs = [v] ∧ TyX K H v t ∧ PySem.W.kitOne K t (.ref c.wy) = some false ∧ ∀ l H', H l = none → Same H H' → H' l = some (.lst [v]) → Q (.ref l) H'
theorem use_plainx {K : PySem.W.Frag} {mg : Str → Option Value} {c : CA} {Ci : Addr} {H : Hp} {Q : VK} {E : XK} {x : Addr} {b : Int} {ps : List (Int × Int)} {y : Sty} (X : Kx K mg c) (h : WayAt c H x b ps y) (q : Q (.int (plainS y b (num ps))) H) : spPlainX K c Ci [.ref x] H Q E := by
  obtain ⟨dx, m, k, hx, r⟩ := id h
  exact ⟨.ref x, _, true, rfl, X.wy.ty hx, kit_own, fun _ => ⟨x, b, ps, y, rfl, h, q⟩, fun z => by cases z⟩
theorem kit_no {K : PySem.W.Frag} {t : Value} {C : Addr} (ne : (t == .ref C) = false) (i : PySem.W.isClsIn K C = true) (ty : PySem.W.typeIn K (.ref C) = some (.type "type")) (s : PySem.W.subIn K t (.ref C) = some false) : PySem.W.kitOne K t (.ref C) = some false := by
  have i' : (PySem.W.clsIn K C).isSome = true := i
  unfold PySem.W.kitOne PySem.W.kitCls
  simp only [ne, i', ty, s, BEq.rfl, Bool.and_self, if_true, Bool.false_eq_true, if_false]
theorem ref_no {K : PySem.W.Frag} {B C : Addr} (s : PySem.W.subIn K (.ref B) (.ref C) = some false) (s2 : PySem.W.subIn K (.ref C) (.ref C) = some true) : (Value.ref B == Value.ref C) = false := by
  cases h : (Value.ref B == Value.ref C) with
  | false => rfl
  | true =>
    have e : Value.ref B = Value.ref C := by simpa using h
    rw [e, s2] at s
    cases s
theorem exm_no {K : PySem.W.Frag} {B C : Addr} (b : PySem.W.subIn K (.ref C) (.type "BaseException") = some true) (i : PySem.W.isClsIn K C = true) (t : PySem.W.typeIn K (.ref C) = some (.type "type")) (s : PySem.W.subIn K (.ref B) (.ref C) = some false) : PySem.W.exmOne K (.ref B) (.ref C) = some false := by
  have i' : (PySem.W.clsIn K C).isSome = true := i
  unfold PySem.W.exmOne PySem.W.kitCls
  simp only [b, i', t, s, BEq.rfl, Bool.and_self, if_true]

end Bc
namespace Bc
open PySem PySem.Spec PyProof.Rows L2
/-! ### defs that write things as strings: promised where no repr is under way -/
structure FnG (P : Program) (w : World) (K : PySem.W.Frag) (mg : Str → Option Value) (base : Heap) (k : Nat) (f : Addr) (fd : FuncData) (ps : List Str) (sp : Sp) : Prop where
  ln : ∀ vs H Q E, sp vs H Q E → vs.length = ps.length
  go : ∀ A : Around, A.guards = some [] → Room k A → ∀ (o : List Env) (s : Shared) (H : Hp) (as : Args) (us : List Value) (vs : List V) (Q : VK) (E : XK), Env0 P w K mg base A o s H → BindsTo s fd as (ps.zip us) → Vals vs us → sp vs H Q E →
    codeAny (model P w) A (.call (.ref f) as) (CR L2.CX0 o P w H s Q E) s
section
variable {P : Program} {w : World} {K : PySem.W.Frag} {mg mb : Str → Option Value} {base : Heap} {k : Nat} {f : Addr} {fd : FuncData} {x qual : Str} {st : Stmt} {N ps : List Str} {sp : Sp}
theorem okG (F : L2.Fun K x qual st f fd) (S : FnScope N ps (defScope st)) (ln : ∀ vs H Q E, sp vs H Q E → vs.length = ps.length)
    (hb : ∀ (cv : Value) (A : Around) (o : List Env) (s : Shared) (H : Hp) (vs : List V) (Q : VK) (E : XK), Room k (A.deeper (envOfC qual (defScope st) s.heap.objs.size f cv)) → (A.deeper (envOfC qual (defScope st) s.heap.objs.size f cv)).guards = some [] → sp vs H Q E →
      ∃ t, PSs (cxOf CX0 P w K mg base N qual (defScope st) f cv A o s H E).nox (defBody st) t ∧ t { nx := fun _ G => Q .non G, rt := Q } (start N vs) H) : FnG P w K mg base (k + 1) f fd ps sp := by
  obtain ⟨_, _, _, _, _, _, cv, _, _, rfl, look, code⟩ := F.ex
  refine ⟨ln, fun A hA room o s H as us vs Q E e0 bd rv q => ?_⟩
  have there : ∀ b ob, base.get? b = some ob → s.heap.get? b = some ob := fun b ob e => (e0.bs b ob e).1
  have kin : K.In s.heap := e0.mod.kin.keeps there
  obtain ⟨t, ht, hq⟩ := hb cv A o s H vs Q E (room.deeper _) hA q
  refine codeAny_call_function room.depth (kin _ _ look) rfl S.co S.gen rfl (PySem.W.codeRec_of kin code) (bd _ _ _ _ (wpAny_newFunctionEnv_cells S.kind ?_ fun en he s1 ic => ?_))
  · rintro ⟨n, v⟩ hy
    exact (S.par n (List.of_mem_zip hy).1).imp id fun z => ⟨z, PySem.W.cellsFrom_some _ _ _ (.inl z)⟩
  · subst he
    refine ⟨(e0.mod.nolimit.keeps there).keeps ic.toInCall.keep, codeAny_func (wpAny_mono (ht.nox.run [] s1 (start N vs) H _ (inv_start S room.hd e0 (ln _ _ _ _ q) rv ic) hq) ?_ fun _ _ z => z)⟩
    rintro (_ | _ | _ | u) s' hs
    · obtain ⟨σ', H', J, q'⟩ := hs
      exact ⟨V.non, H', J.os, J.bare, J.base, J.hok, rfl, q'⟩
    · exact hs.elim fun _ ⟨_, _, z⟩ => z.elim
    · exact hs.elim fun _ ⟨_, _, z⟩ => z.elim
    · obtain ⟨v, σ', H', J, rv', q'⟩ := hs
      exact ⟨v, H', J.os, J.bare, J.base, J.hok, rv', q'⟩
/-- a def that is called by its name -/
structure CalG (P : Program) (w : World) (K : PySem.W.Frag) (mg : Str → Option Value) (base : Heap) (k : Nat) (x : Str) (sp : Sp) : Prop where
  ex : ∃ (f : Addr) (fd : FuncData) (ps : List Str), FnG P w K mg base k f fd ps sp ∧ mg x = some (.ref f) ∧ PySem.W.keepIn K (.ref f) = true ∧ Binds K fd ps []
theorem Dn.calG (F : Dn K mg x st ps) (S : FnScope N ps (defScope st)) (ln : ∀ vs H Q E, sp vs H Q E → vs.length = ps.length)
    (hb : ∀ (f : Addr) (cv : Value) (A : Around) (o : List Env) (s : Shared) (H : Hp) (vs : List V) (Q : VK) (E : XK), Room k (A.deeper (envOfC x (defScope st) s.heap.objs.size f cv)) → (A.deeper (envOfC x (defScope st) s.heap.objs.size f cv)).guards = some [] → sp vs H Q E →
      ∃ t, PSs (cxOf CX0 P w K mg base N x (defScope st) f cv A o s H E).nox (defBody st) t ∧ t { nx := fun _ G => Q .non G, rt := Q } (start N vs) H) : CalG P w K mg base (k + 1) x sp := by
  obtain ⟨f, fd, F1, m, b⟩ := F.ex
  exact ⟨f, fd, ps, okG F1 S ln (fun cv A o s H vs Q E hr hA h => hb f cv A o s H vs Q E hr hA h), m, F1.kp, b⟩
end
section
variable {X : Cx} {k j : Nat} {x : Str} {sp : Sp} {e : Expr} {es : List Expr} {t : TA} {p pos : Pos}
theorem pe_cG (c : CalG X.prog X.w X.K X.mg X.base k x sp) (hr : Room j X.A) (hk : k ≤ j) (hA : X.A.guards = some []) (hg : Gl X x) (ha : PA X (e :: es) t) (hdb : (x == ("__debug__" : Str)) = false := by decide)
    (he : starEach (e :: es) X.env = (false, eval e X.env) :: starEach es X.env := by rfl) (hpl : (backTo pos (starEach es X.env)).any (·.1) = false := by rfl) : PE X (.Call (.Name x p) (e :: es) [] pos) (tCall sp [] L2.E0 t) := by
  obtain ⟨f, fd, ps, F, hm, kp, hb⟩ := c.ex
  refine ⟨fun pins s σ H Q I h => wpAny_Call_Name_kw (ld_glob I hg hm (PySem.W.callWith_K (h₀ := X.base) I.ok.mod.kin kp (thn (ha.run pos pins s σ H _ I h) ?_) he hpl) hdb)⟩
  rintro us s1 ⟨vs, H1, I1, r, q⟩
  have r2 : Vals (vs ++ []) (us ++ []) := r.append .nil
  refine ⟨I1.kIn, wpAny_call (codeAny_mono (F.go X.A hA (hr.mono hk) X.stack s1 H1 ⟨us, []⟩ (us ++ []) (vs ++ []) Q L2.E0 I1.env0 (hb s1 us I1.kIn (r2.length.symm.trans (F.ln _ _ _ _ q))) r2 q) ?_)⟩
  rintro (er | fl) s' hq
  · exact hq.elim
  · cases fl with
    | ret u => exact I1.after hq
    | next => exact hq.elim
    | brk => exact hq.elim
    | cont => exact hq.elim
/-- str of a bool -/
def rStrB : List V → Hp → VK → Prop := fun xs H Q => ∃ b, xs = [.bl b] ∧ Q (.str (if b = true then "True" else "False")) H
theorem cStrB : CallR X (.type "str") rStrB := by
  intro pins s σ H xs us Q I r h
  obtain ⟨b, rfl, q⟩ := h
  obtain ⟨u, rfl, r1⟩ := vals1 r
  cases r1
  exact PySem.P.str_of_bool ⟨.str _, H, I.tok _, ⟨_, by cases b <;> rfl⟩, q⟩
/-- str of a list or tuple of plain data -/
def rStrD (K : PySem.W.Frag) : List V → Hp → VK → Prop := fun xs H Q => ∃ (a : Addr) (d : PyData), xs = [.ref a] ∧ Dp K H (.ref a) d ∧ d.showable = true ∧ d.depth ≤ 50 ∧ d.hasDict = false ∧ d.shown.length ≤ sizeLine ∧ Q (.str d.shown) H
theorem cStrD (hA : X.A.guards = some []) (hu : X.A.units + 64 < cLine) : CallR X (.type "str") (rStrD X.K) := by
  intro pins s σ H xs us Q I r h
  obtain ⟨a, d, rfl, hd, hs, hp, hn, hz, q⟩ := h
  obtain ⟨u, rfl, r1⟩ := vals1 r
  cases r1
  obtain ⟨as, rd⟩ := Dp.reads I d _ _ hd rfl
  exact PySem.str_of_reads rd hs (PyData.noDict_hsm hn) hA (by omega) (fun _ _ z => z) (fun h' u tk kp => ⟨.str _, H, I.kept kp, ⟨_, rfl⟩, q⟩) hz
end
/-! the law itself -/
section
variable {P : Program} {w : World} {K : PySem.W.Frag} {mg mb : Str → Option Value} {k : Nat} {fa a : Addr} {fd : FuncData} {x : Str} {sp : Sp} {s₁ : Shared} {vs : List Value} {ns : List Int}
theorem lawG (KX : K.In s₁.heap) (hns : s₁.heap.Ns mainGlobals mg) (hb : s₁.heap.Ns builtinsNs mb) (hbb : ∀ y : Str, y ≠ "__name__" → mb y = bootBuiltins y) (hlim : s₁.heap.NoLimit) (hg : s₁.gens = #[])
    (ha : s₁.heap.get? a = some { cls := .type "list", data := .seq vs.toArray }) (hi : IntsAre vs ns) (hl : ns.length ≤ sizeLine) (hr : Room k callerA) (F : ∀ bs : Heap, K.In bs → bs.Ns mainGlobals mg → FnG P w K mg bs k fa fd [x] sp)
    (hbind : ∀ (s : Shared) (u : Value), BindsTo s fd ⟨[u], []⟩ [(x, u)]) (hsp : ∀ H : Hp, Only H → SqL K H a (ns.map V.int) → sp [.ref a] H (fun v _ => v = .bl true) fun _ _ _ => False) :
    codeAny (model P w) callerA (.call (.ref fa) ⟨[.ref a], []⟩) (fun r s' => r = .ok (.ret (.bool true)) ∧ OldK s₁.heap s'.heap ∧ s'.os = s₁.os ∧ AllBare s'.gens) s₁ := by
  -- H tracks the script alone, or nothing
  suffices hH : ∃ H : Hp, Only H ∧ SqL K H a (ns.map V.int) ∧ HOk P w H s₁.heap ∧ (∀ b, H b ≠ none → b = a) ∧ (H a ≠ none → K.lookup a = none) by
    obtain ⟨H, h1, h2, h3, h4, h5⟩ := hH
    have free : ∀ {b : Addr}, b ≠ a → H b = none := fun {b} n => Classical.byContradiction fun z => n (h4 b z)
    have keep : ∀ {b : Addr} {m : Str → Option Value}, s₁.heap.Ns b m → (hidT s₁.heap H).Ns b m := by
      rintro b m ⟨o, es, ep, e, d, r⟩
      refine ⟨o, es, ep, hidT_get e (free fun z => ?_), d, r⟩
      subst z
      rw [ha] at e
      cases e
      cases d
    have kin : K.In (hidT s₁.heap H) := fun b o e => hidT_get (KX b o e) (Classical.byContradiction fun z => by
      have z2 := h4 b z
      subst z2
      rw [h5 z] at e
      cases e)
    obtain ⟨mc, l1, l2⟩ := hlim
    refine codeAny_mono ((F _ kin (keep hns)).go callerA rfl hr [] s₁ H ⟨[.ref a], []⟩ [.ref a] [.ref a] _ _ ⟨rfl, ⟨kin, keep hns, ⟨mb, keep hb, hbb⟩, ⟨mc, keep l1, l2⟩⟩, fun _ _ e => of_hidT e, Nat.le_of_eq (hidT_size _ _), trivial, (fun _ z => by cases z), h3, .of_eq hg⟩
      (hbind s₁ (.ref a)) (.cons rfl .nil) (hsp H h1 h2)) ?_
    rintro (er | fl) s' h
    · exact h.elim
    · cases fl with
      | ret u =>
        obtain ⟨v, H', os, bare, un, ok', rv, q⟩ := h
        have q : v = .bl true := q
        subst q
        cases rv
        refine ⟨rfl, OldK.of_keep fun b o e => ?_, os, bare⟩
        rcases h1 b with z | ⟨ob, ys, z⟩
        · exact un.keep b o e z (by simp [frs]) (by simp)
        · have t1 := (h3 b _ z).1
          have t2 := (ok' b _ (un.frzs b ob _ z)).1
          rw [e] at t1
          cases t1
          exact t2
      | next => exact h.elim
      | brk => exact h.elim
      | cont => exact h.elim
  have rv := vals_ints hi
  have same : vs.toArray.size ≤ sizeLine := by
    rw [List.size_toArray, hi.length]
    exact hl
  by_cases hk : K.lookup a = none
  · refine ⟨fun b => if b = a then some (.frz { cls := .type "list", data := .seq vs.toArray } (.lst (ns.map V.int))) else none, fun b => ?_, .inl (.inr ⟨_, if_pos rfl⟩), fun b u z => ?_, fun b z => Classical.byContradiction fun n => z (if_neg n), fun _ => hk⟩
    · by_cases n : b = a
      · exact .inr ⟨_, _, if_pos n⟩
      · exact .inl (if_neg n)
    · by_cases n : b = a
      · subst n
        replace z := (if_pos rfl).symm.trans z
        cases z
        exact ⟨ha, by rw [List.length_map]; exact hl, vs, _, rv, ha⟩
      · replace z := (if_neg n).symm.trans z
        cases z
  · obtain ⟨o, ho⟩ := Option.ne_none_iff_exists'.mp hk
    have e := KX a o ho
    rw [ha] at e
    cases e
    exact ⟨fun _ => none, fun _ => .inl rfl, .inr ⟨_, vs.toArray, _, ho, rfl, rfl, rfl, same, by simpa using rv⟩, (fun b u z => by cases z), fun b z => absurd rfl z, fun z => absurd rfl z⟩
end
theorem walkG {l : PySem.W.OpenLaw} {n k : Nat} {q : Program} {loose : List Str} {XP : (Str → Option Value) → Heap → Prop} {YP : World → Heap → Prop} {d : DefRec} {K : Params → PySem.W.Frag} {sp : World → Sp} {x : Str} (hn : l.most = some n) (hz : n ≤ sizeLine) (hdf : d.params.defaults = []) (hr : Room k callerA)
    (hY : ∀ (w : World) (h : Heap), YP w h → (K w.params).In h) (F : ∀ (w : World) (mg : Str → Option Value) (fa : Addr) (h : Heap), (K w.params).In h → h.Ns mainGlobals mg → mg d.name = some (.ref fa) →
      ∃ fd : FuncData, (∀ (s : Shared) (u : Value), BindsTo s fd ⟨[u], []⟩ [(x, u)]) ∧ ∀ bs : Heap, (K w.params).In bs → bs.Ns mainGlobals mg → FnG l.prog w (K w.params) mg bs k fa fd [x] (sp w))
    (hsp : ∀ (w : World) (H : Hp) (a : Addr) (ns : List Int), ns.length ≤ n → Only H → SqL (K w.params) H a (ns.map V.int) → sp w [.ref a] H (fun v _ => v = .bl true) fun _ _ _ => False) : PySem.W.WalkO q loose XP YP l.row.toRowW d [] (fun f vs => PySem.call f vs) := by
  refine Att.attach_call hn hdf fun w s₀ s₁ mg mb fa o pm cd doc a vs ns G Y _ _ _ hmg hobj hints hlen hg => ?_
  obtain ⟨fd, hb, hF⟩ := F w mg fa _ (hY w _ Y) G.T.g hmg
  exact lawG (hY w _ Y) G.T.g G.T.b G.T.builtins G.T.nolimit hg hobj hints (Nat.le_trans hlen hz) hr hF hb fun H h1 h2 => hsp w H a ns hlen h1 h2

end Bc
namespace Bc
open PySem PySem.Spec PyProof.Rows L2
/-! ### errors without a field, made with no argument -/
structure Err0 (K : PySem.W.Frag) (mg : Str → Option Value) (x : Str) (C : Addr) : Prop where
  gC : mg x = some (.ref C)
  ex : PySem.W.excIn K C [.type "ValueError", .type "Exception", .type "BaseException", .type "object"] "ValueError.__new__" = true
  kp : PySem.W.keepIn K (.ref C) = true
  sb : PySem.W.subIn K (.ref C) (.type "BaseException") = some true
  ty : PySem.W.typeIn K (.ref C) = some (.type "type")
  te : PySem.W.exmOne K (.ref C) (.ref C) = some true
section
variable {X : Cx} {x : Str} {C : Addr} {W : WX} {p pos pos2 : Pos}
theorem pmk_none (c : Err0 X.K X.mg x C) (hg : Gl X x) (hdb : (x == ("__debug__" : Str)) = false := by decide) : PMk X (.Call (.Name x p) [] [] pos) (fun _ H Q => Q (.ref C) none H) := by
  intro pins s σ H Q I h
  refine wpAny_Call_Name_kw (ld_glob I hg c.gC (PySem.W.callWith_K0 I.kIn c.kp ?_) hdb)
  obtain ⟨_, _, _, _, _, _, _, _, _, _, _, _, _, _, _, _, _, hC, hN, hni, T⟩ := exc_obj I.kIn c.ex
  exact wpAny_call_exc_subT PySem.F.excBase_ValueError T hC hN hni (fun h' e hm => mk_of I hm (raises_own c.sb c.ty) h (I.hok.gone hm.new)) (Nat.zero_le _)
theorem ps_rse0 (c : Err0 X.K X.mg x C) (hc : X.calm = true) (tk : Takes X W) (hg : Gl X x) (hdb : (x == ("__debug__" : Str)) = false := by decide) :
    PS X (.Raise (some (.Call (.Name x p) [] [] pos)) none pos2) (fun _ σ H => W (.ref C) none σ H) := ps_raise hc tk (pmk_none c hg hdb)
end

end Bc
namespace Bc
open PySem PySem.Spec PyProof.Rows L2
/-! ### != of lists with the same things in them, str of a bool -/
section
variable {X : Cx} {pins : List (Addr × Obj)} {σ : L2.St} {H : Hp} {s : Shared}
theorem rcn_lists {F : V → V → Prop} {A : Around} {p q : Addr} {xs ys : List V} (I : Inv X pins σ H s) (hx : SqL X.K H p xs) (hy : SqL X.K H q ys) (hp : Paired F xs ys) (hu : A.units < cLine)
    (hF : ∀ x y v u, F x y → RelV x v → RelV y u → PySem.SeqAt.EqAt A.in1 s v u true) : PySem.SeqAt.RcNeAt A s (.ref p) (.ref q) false := by
  obtain ⟨is, r1, ⟨o1, n1, e1, c1, _, d1⟩, _⟩ := I.list hx
  obtain ⟨js, r2, ⟨o2, n2, e2, c2, _, d2⟩, _⟩ := I.list hy
  have l0 := hp.length
  have l1 := r1.length
  have l2 := r2.length
  have h := PySem.SeqAt.RcNeAt.lists (A := A) (e := fun _ => true) ⟨o1, e1, c1, n1, d1⟩ ⟨o2, e2, c2, n2, d2⟩ (by simp only [List.size_toArray]; omega) hu (fun j h1 h2 => by
    simp only [List.size_toArray] at h1 h2
    simp only [List.getElem_toArray]
    exact hF _ _ _ _ (paired_at hp j (by omega) (by omega)) (paired_at r1 j (by omega) h1) (paired_at r2 j (by omega) h2))
  rwa [show ((List.range is.toArray.size).all fun _ => true) = true from List.all_eq_true.mpr fun _ _ => rfl] at h
def rNeA (K : PySem.W.Frag) : R2 := fun x y H Q => ∃ n p q xs ys, x = .ref p ∧ y = .ref q ∧ n ≤ 50 ∧ SqL K H p xs ∧ SqL K H q ys ∧ Paired (Alk K H n) xs ys ∧ Q (.bl false) H
theorem op_neA (hu : X.A.units + 64 < cLine) : OpR X (compareOp .NotEq) (rNeA X.K) := by
  intro pins s σ H x y v u Q I rx ry h
  obtain ⟨n, p, q, xs, ys, rfl, rfl, hn, hx, hy, hp, k⟩ := h
  cases rx
  cases ry
  exact rcn_lists I hx hy hp (by omega) (fun x y v u h r r' => Alk.eq I n X.A.in1 x y v u h r r' (by show X.A.units + 1 + n < cLine; omega)) X.prog X.w _ _ ⟨.bl false, H, I, rfl, k⟩
end
theorem w_strB {b : Bool} {H : Hp} {Q : VK} (q : Q (.str (if b = true then "True" else "False")) H) : rStrB [.bl b] H Q := ⟨b, rfl, q⟩
theorem ite_join {c : Bool} {A B : VK → Prop} {Q : VK} (R : V → Hp → Prop) (hQ : ∀ v H, R v H → Q v H) (hA : ∀ Q' : VK, (∀ v H, R v H → Q' v H) → A Q') (hB : ∀ Q' : VK, (∀ v H, R v H → Q' v H) → B Q') : if c = true then A Q else B Q := by
  cases c with
  | true => exact iteT (hA Q hQ)
  | false => exact iteF (hB Q hQ)
theorem ite_joinN {c : Bool} {T U : Ends → L2.St → Hp → Prop} {D : Ends} {σ : L2.St} {H : Hp} (R : L2.St → Hp → Prop) (rest : ∀ σ' H', R σ' H' → D.nx σ' H') (hT : ∀ N : L2.St → Hp → Prop, (∀ σ' H', R σ' H' → N σ' H') → T { D with nx := N } σ H)
    (hU : ∀ N : L2.St → Hp → Prop, (∀ σ' H', R σ' H' → N σ' H') → U { D with nx := N } σ H) : if c = true then T D σ H else U D σ H := by
  cases c with
  | true => exact iteT (hT D.nx rest)
  | false => exact iteF (hU D.nx rest)
theorem ite_joinC {c : Bool} {A B : VK → Prop} {Q : VK} (R : V → Hp → Prop) (hQ : ∀ v H, R v H → Q v H) (hA : c = true → ∀ Q' : VK, (∀ v H, R v H → Q' v H) → A Q') (hB : c = false → ∀ Q' : VK, (∀ v H, R v H → Q' v H) → B Q') : if c = true then A Q else B Q := by
  cases c with
  | true => exact iteT (hA rfl Q hQ)
  | false => exact iteF (hB rfl Q hQ)
theorem and_join {c : Bool} {A : VK → Prop} {Q : VK} {H : Hp} (R : V → Hp → Prop) (hQ : ∀ v H, R v H → Q v H) (hA : c = true → ∀ Q' : VK, (∀ v H, R v H → Q' v H) → A Q') (hB : c = false → R (.bl false) H) : if c = true then A Q else Q (.bl false) H := by
  cases c with
  | true => exact iteT (hA rfl Q hQ)
  | false => exact iteF (hQ _ _ (hB rfl))
theorem ite_joinNC {c : Bool} {T U : Ends → L2.St → Hp → Prop} {D : Ends} {σ : L2.St} {H : Hp} (R : L2.St → Hp → Prop) (rest : ∀ σ' H', R σ' H' → D.nx σ' H') (hT : c = true → ∀ N : L2.St → Hp → Prop, (∀ σ' H', R σ' H' → N σ' H') → T { D with nx := N } σ H)
    (hU : c = false → ∀ N : L2.St → Hp → Prop, (∀ σ' H', R σ' H' → N σ' H') → U { D with nx := N } σ H) : if c = true then T D σ H else U D σ H := by
  cases c with
  | true => exact iteT (hT rfl D.nx rest)
  | false => exact iteF (hU rfl D.nx rest)
theorem test_join {c : Bool} {A : (Bool → Hp → Prop) → Prop} {QT : Bool → Hp → Prop} {H : Hp} (R : Hp → Prop) (rest : ∀ H', R H' → QT false H') (hA : c = true → ∀ Q' : Bool → Hp → Prop, (∀ H', R H' → Q' false H') → A Q') (hB : c = false → R H) : if c = true then A QT else QT false H := by
  cases c with
  | true => exact iteT (hA rfl QT rest)
  | false => exact iteF (rest _ (hB rfl))
theorem w_rep {l : Addr} {k : Int} {xs : List V} {H : Hp} {Q : VK} (h : H l = some (.lst xs)) (h1 : -(2 ^ 63) ≤ k ∧ k < 2 ^ 63 ∧ xs.length * k.toNat ≤ sizeLine) (q : ∀ p, H p = none → atV Q (.ref p) (upd H p (.lst (List.replicate k.toNat xs).flatten))) : rRep (.ref l) (.int k) H Q := ⟨l, k, xs, rfl, rfl, h, h1.1, h1.2.1, h1.2.2, q⟩
theorem paired_left {α β : Type} {R : α → β → Prop} : ∀ {xs ys : List α} {ts : List β}, Paired R (xs ++ ys) ts → Paired R xs (ts.take xs.length)
  | [], _, _, _ => .nil
  | _ :: _, _, _, .cons h t => .cons h (paired_left t)
section
variable {c : TT} {tb : TS} {D : Ends} {σ : L2.St} {H : Hp}
/-- a while whose ends meet -/
theorem while_goR (Pv : L2.St → Hp → Prop) (μ : L2.St → Hp → Nat) (R : L2.St → Hp → Prop) (h0 : Pv σ H) (hs : ∀ σ H, Pv σ H → ∀ N0 : L2.St → Hp → Prop, (∀ σ' H', R σ' H' → N0 σ' H') → c σ H fun b H1 => if b = true then (∃ N : L2.St → Hp → Prop, (∀ σ' H', N σ' H' → ∃ m', m' < μ σ H ∧ (m' = μ σ' H' ∧ Pv σ' H')) ∧
      tb { D with nx := N, ct := N, bk := D.nx } σ H1) else N0 σ H1) (rest : ∀ σ' H', R σ' H' → D.nx σ' H') : tWhile c tb D σ H := while_go Pv μ h0 fun σ H h => hs σ H h D.nx rest
end

end Bc
namespace Bc
open PySem PySem.Spec PyProof.Rows L2
/-! ### ways that part: refused things, texts that show it -/
def ErrTo (E : XK) (C : Addr) (f : Str) (v : V) (H : Hp) : Prop := ∀ d H', H d = none → Same H H' → H' d = some (.xd [(f, v)]) → E (.ref C) (some d) H'
def spLikeX (c : CA) (Cu : Addr) : Sp := fun vs H Q E => ∃ (x x' : Addr) (b b' : Int) (ps ps' : List (Int × Int)) (y y' : Sty), vs = [.ref x, .ref x'] ∧ WayAt c H x b ps y ∧ WayAt c H x' b' ps' y' ∧ (y.low = y'.low → Q .non H) ∧ (y.low ≠ y'.low → E (.ref Cu) none H)
def spPartsX (K : PySem.W.Frag) (c : CA) (Ci Cu : Addr) : Sp := fun vs H Q E => ∃ v u : V, vs = [v, u] ∧
  ((∃ t, TyX K H v t ∧ PySem.W.kitOne K t (.ref c.wy) = some false ∧ ErrTo E Ci "thing" v H) ∨
   (∃ (x : Addr) (b : Int) (ps : List (Int × Int)) (y : Sty) (t : Value), v = .ref x ∧ WayAt c H x b ps y ∧ TyX K H u t ∧ PySem.W.kitOne K t (.ref c.wy) = some false ∧ ErrTo E Ci "thing" u H) ∨
   (∃ (x x' : Addr) (b b' : Int) (ps ps' : List (Int × Int)) (y y' : Sty), v = .ref x ∧ u = .ref x' ∧ WayAt c H x b ps y ∧ WayAt c H x' b' ps' y' ∧ (y.low ≠ y'.low → E (.ref Cu) none H) ∧ (y.low = y'.low → Q (.bl (rParts b (num ps) (plainS y b (num ps)) b' (num ps') (plainS y' b' (num ps')))) H)))
def spPartsLX (K : PySem.W.Frag) (c : CA) (Ci : Addr) : Sp := fun vs H Q E => ∃ v u : V, vs = [v, u] ∧
  ((∃ t, TyX K H v t ∧ PySem.W.kitOne K t (.ref c.wy) = some false ∧ ErrTo E Ci "thing" v H) ∨
   (∃ (x : Addr) (b : Int) (ps : List (Int × Int)) (y : Sty) (t : Value), v = .ref x ∧ WayAt c H x b ps y ∧ TyX K H u t ∧ PySem.W.kitOne K t (.ref c.wy) = some false ∧ ErrTo E Ci "thing" u H) ∨
   (∃ (x x' : Addr) (b b' : Int) (ps ps' : List (Int × Int)) (y y' : Sty), v = .ref x ∧ u = .ref x' ∧ WayAt c H x b ps y ∧ WayAt c H x' b' ps' y' ∧ Q (.bl (rPartsL y.low y'.low b (num ps) b' (num ps'))) H))
def spCaught (K : PySem.W.Frag) (c : CA) : Sp := fun vs H Q _ => ∃ (k : Int) (v u : V), vs = [.int k, v, u] ∧ (k = 0 ∨ k = 1) ∧
  ((∃ t, TyX K H v t ∧ PySem.W.kitOne K t (.ref c.wy) = some false ∧ ∀ l H', H l = none → Same H H' → H' l = some (.lst [.str "way", v]) → Q (.ref l) H') ∨
   (∃ (x : Addr) (b : Int) (ps : List (Int × Int)) (y : Sty) (t : Value), v = .ref x ∧ WayAt c H x b ps y ∧ TyX K H u t ∧ PySem.W.kitOne K t (.ref c.wy) = some false ∧ ∀ l H', H l = none → Same H H' → H' l = some (.lst [.str "way", u]) → Q (.ref l) H') ∨
   (∃ (x x' : Addr) (b b' : Int) (ps ps' : List (Int × Int)) (y y' : Sty), k = 0 ∧ v = .ref x ∧ u = .ref x' ∧ WayAt c H x b ps y ∧ WayAt c H x' b' ps' y' ∧ y.low ≠ y'.low ∧ ∀ l H', H l = none → Same H H' → H' l = some (.lst [.str "unlike"]) → Q (.ref l) H'))
def spNear7 (ca : CA) : Sp := fun vs H Q _ => ∃ (a x g : Addr) (b c : Int) (ps : List (Int × Int)) (y : Sty), vs = [.ref a, .ref x, .ref g] ∧ c < 2 ^ 47 ∧ Purse H a c ∧ WayAt ca (rm a H) x b ps y ∧ rm a H g = some (.lst [.bl y.low, .int y.shift, .bl y.lead]) ∧
  ∀ (x' : Addr) (b' : Int) (ps' : List (Int × Int)) (y' : Sty) (H' : Hp), Same (rm a H) (rm a H') → Purse H' a (c + 300) → WayAt ca (rm a H') x' b' ps' y' → Q (.ref x') H'
/-- a list of pairs of lists of letters -/
def Two (H : Hp) (q : List Int × List Int) (t : Addr) : Prop := ∃ p1 p2 : Addr, H t = some (.tup [.ref p1, .ref p2]) ∧ H p1 = some (.lst (q.1.map V.int)) ∧ H p2 = some (.lst (q.2.map V.int)) ∧ q.1.length ≤ 1000 ∧ q.2.length ≤ 1000
def TwL (H : Hp) (l : Addr) (qs : List (List Int × List Int)) : Prop := ∃ ts : List Addr, H l = some (.lst (ts.map V.ref)) ∧ Paired (Two H) qs ts
theorem Two.same {H H' : Hp} {q : List Int × List Int} {t : Addr} (h : Two H q t) (s : Same H H') : Two H' q t := by
  obtain ⟨p1, p2, h1, h2, h3, r⟩ := h
  exact ⟨p1, p2, s _ _ h1, s _ _ h2, s _ _ h3, r⟩
theorem TwL.same {H H' : Hp} {l : Addr} {qs : List (List Int × List Int)} (h : TwL H l qs) (s : Same H H') : TwL H' l qs := by
  obtain ⟨ts, h1, h2⟩ := h
  exact ⟨ts, s _ _ h1, paired_imp (fun _ _ z => z.same s) h2⟩
def hit (y y' : Sty) (b n b' n' : Int) (q : List Int × List Int) : Bool := rAgree y b n q.1 q.2 && !rAgree y' b' n' q.1 q.2
def spShown (c : CA) : Sp := fun vs H Q _ => ∃ (x x' l : Addr) (b b' : Int) (ps ps' : List (Int × Int)) (y y' : Sty) (qs : List (List Int × List Int)), vs = [.ref x, .ref x', .ref l] ∧ WayAt c H x b ps y ∧ WayAt c H x' b' ps' y' ∧ TwL H l qs ∧
  ∀ H', Same H H' → Q (.bl (qs.any (hit y y' b (num ps) b' (num ps')))) H'
def five (b n : Int) : List (List Int × List Int) := [([n], [0]), ([n, 0], [0, 0]), ([0, n], [0, 0]), ([1, 0], [0, b]), ([0, 1], [b, 0])]
def two (n s : Int) : List (List Int × List Int) := [([], [0 - s]), ([], [n - s])]
def spPairsOf (K : PySem.W.Frag) (c : CA) : Sp := fun vs H Q _ => ∃ (x : Addr) (b : Int) (ps : List (Int × Int)) (y : Sty), vs = [.ref x] ∧ WayAt c H x b ps y ∧
  ∀ l H', Same H H' → TwL H' l (five b (num ps) ++ two (num ps) (plainS y b (num ps))) → Q (.ref l) H'
def spDrawnR (ca : CA) : Sp := fun vs H Q _ => ∃ (a x x' : Addr) (b b' c : Int) (ps ps' : List (Int × Int)) (y y' : Sty), vs = [.ref a, .ref x, .ref x'] ∧ c < 2 ^ 47 ∧ Purse H a c ∧ WayAt ca (rm a H) x b ps y ∧ WayAt ca (rm a H) x' b' ps' y' ∧ rPartsL y.low y'.low b (num ps) b' (num ps') = true ∧
  ∀ H', Same (rm a H) (rm a H') → Purse H' a (c + 100) → Q (.bl true) H'
/-! #### the law's texts -/
theorem hv_cong {n b b' : Int} (h : (b - b') % n = 0) (cs : List Int) : n ∣ hv cs b ↔ n ∣ hv cs b' := by
  have e : b % n = b' % n := Int.emod_eq_emod_iff_emod_sub_eq_zero.mpr h
  rw [Int.dvd_iff_emod_eq_zero, Int.dvd_iff_emod_eq_zero, ← hv_mod b, ← hv_mod b', e]
theorem partsL_sound {y y' : Sty} {b n b' n' : Int} {ls ms : List Int} (h : rPartsL y.low y'.low b n b' n' = true) (hl : ls.length = ms.length) (ha : mark y b n ls = mark y b n ms) : mark y' b' n' ls = mark y' b' n' ms := by
  rw [agree_iff hl] at ha ⊢
  unfold rPartsL at h
  rw [Bool.and_eq_true, decide_eq_true_eq] at h
  have hd : n' ∣ hv (if y.low = true then (sub2 ls ms).reverse else sub2 ls ms) b := Int.dvd_trans (Int.dvd_of_emod_eq_zero h.1) ha
  have h2 := h.2
  generalize sub2 ls ms = ds at hd ⊢
  by_cases e : y.low = y'.low
  · rw [if_pos e, decide_eq_true_eq] at h2
    rw [← e]
    exact (hv_cong h2 _).mp hd
  · rw [if_neg e, decide_eq_true_eq] at h2
    obtain ⟨u, hu⟩ := Int.dvd_of_emod_eq_zero h2
    cases hy : y.low with
    | true =>
      have hy' : y'.low = false := by cases h' : y'.low with | false => rfl | true => exact absurd (hy.trans h'.symm) e
      rw [hy, if_pos rfl] at hd
      rw [hy', if_neg (by decide)]
      exact (turn_dvd (b := b') (c := b) (n := n') (u := u) (by rw [Int.mul_comm]; omega) ds).mp hd
    | false =>
      have hy' : y'.low = true := by cases h' : y'.low with | true => rfl | false => exact absurd (hy.trans h'.symm) e
      rw [hy, if_neg (by decide)] at hd
      rw [hy', if_pos rfl]
      exact (turn_dvd (b := b) (c := b') (n := n') (u := u) (by omega) ds).mpr hd
theorem hit_of {y y' : Sty} {b n b' n' : Int} {ls ms : List Int} (hl : ls.length = ms.length) (h1 : n ∣ hv (if y.low then (sub2 ls ms).reverse else sub2 ls ms) b) (h2 : ¬ n' ∣ hv (if y'.low then (sub2 ls ms).reverse else sub2 ls ms) b') : hit y y' b n b' n' (ls, ms) = true := by
  unfold hit rAgree
  rw [Bool.and_eq_true]
  refine ⟨decide_eq_true ((agree_iff hl).mpr h1), ?_⟩
  rw [decide_eq_false fun z => h2 ((agree_iff hl).mp z)]
  rfl
theorem hv1 (x b : Int) : hv [x] b = x := by simp [hv]
theorem hv2 (x z b : Int) : hv [x, z] b = x * b + z := by simp [hv]
theorem five_any {y y' : Sty} {b n b' n' : Int} : (five b n).any (hit y y' b n b' n') = !rPartsL y.low y'.low b n b' n' := by
  cases hp : rPartsL y.low y'.low b n b' n' with
  | true =>
    have no : ∀ q ∈ five b n, hit y y' b n b' n' q = false := fun q hq => by
      have hl : q.1.length = q.2.length := by
        unfold five at hq
        simp only [List.mem_cons, List.not_mem_nil, or_false] at hq
        rcases hq with rfl | rfl | rfl | rfl | rfl <;> rfl
      unfold hit rAgree
      by_cases ha : mark y b n q.1 = mark y b n q.2
      · rw [decide_eq_true ha, decide_eq_true (partsL_sound hp hl ha)]
        rfl
      · rw [decide_eq_false ha]
        rfl
    show _ = false
    rw [List.any_eq_false]
    exact fun q hq => by rw [no q hq]; decide
  | false =>
    show _ = true
    rw [List.any_eq_true]
    unfold rPartsL at hp
    by_cases h1 : n % n' = 0
    · rw [decide_eq_true h1, Bool.true_and] at hp
      have e10 : sub2 [1, 0] [0, b] = [1, -b] := by unfold sub2; simp
      have e01 : sub2 [0, 1] [b, 0] = [-b, 1] := by unfold sub2; simp
      by_cases e : y.low = y'.low
      · rw [if_pos e] at hp
        have h2 : ¬ n' ∣ b' - b := fun z => of_decide_eq_false hp (Int.emod_eq_zero_of_dvd (by have := Int.dvd_neg.mpr z; rwa [Int.neg_sub] at this))
        cases hy : y.low with
        | true =>
          refine ⟨([0, 1], [b, 0]), by unfold five; simp, hit_of rfl ?_ ?_⟩
          · rw [hy, if_pos rfl, e01]
            show n ∣ hv [1, -b] b
            rw [hv2]
            exact ⟨0, by omega⟩
          · rw [← e, hy, if_pos rfl, e01]
            show ¬ n' ∣ hv [1, -b] b'
            rw [hv2]
            exact fun z => h2 (by rwa [show b' - b = 1 * b' + -b by omega])
        | false =>
          refine ⟨([1, 0], [0, b]), by unfold five; simp, hit_of rfl ?_ ?_⟩
          · rw [hy, if_neg (by decide), e10, hv2]
            exact ⟨0, by omega⟩
          · rw [← e, hy, if_neg (by decide), e10, hv2]
            exact fun z => h2 (by rwa [show b' - b = 1 * b' + -b by omega])
      · rw [if_neg e] at hp
        have h2 : ¬ n' ∣ -b * b' + 1 := fun z => of_decide_eq_false hp (Int.emod_eq_zero_of_dvd (by
          have := Int.dvd_neg.mpr z
          rwa [show -(-b * b' + 1) = b * b' - 1 by rw [Int.neg_mul]; omega] at this))
        cases hy : y.low with
        | true =>
          have hy' : y'.low = false := by cases h' : y'.low with | false => rfl | true => exact absurd (hy.trans h'.symm) e
          refine ⟨([0, 1], [b, 0]), by unfold five; simp, hit_of rfl ?_ ?_⟩
          · rw [hy, if_pos rfl, e01]
            show n ∣ hv [1, -b] b
            rw [hv2]
            exact ⟨0, by omega⟩
          · rw [hy', if_neg (by decide), e01, hv2]
            exact h2
        | false =>
          have hy' : y'.low = true := by cases h' : y'.low with | true => rfl | false => exact absurd (hy.trans h'.symm) e
          refine ⟨([1, 0], [0, b]), by unfold five; simp, hit_of rfl ?_ ?_⟩
          · rw [hy, if_neg (by decide), e10, hv2]
            exact ⟨0, by omega⟩
          · rw [hy', if_pos rfl, e10]
            show ¬ n' ∣ hv [-b, 1] b'
            rw [hv2]
            exact h2
    · refine ⟨([n], [0]), by unfold five; simp, hit_of rfl ?_ ?_⟩
      · have e1 : sub2 [n] [0] = [n] := by unfold sub2; simp
        rw [e1, show (if y.low = true then ([n] : List Int).reverse else [n]) = [n] by split <;> rfl, hv1]
        exact Int.dvd_refl n
      · have e1 : sub2 [n] [0] = [n] := by unfold sub2; simp
        rw [e1, show (if y'.low = true then ([n] : List Int).reverse else [n]) = [n] by split <;> rfl, hv1]
        exact fun z => h1 (Int.emod_eq_zero_of_dvd z)
theorem agree_one (y : Sty) (b n l : Int) : rAgree y b n [] [l] = decide ((plainS y b n + l) % n = 0) := by
  unfold rAgree
  refine decide_eq_decide.mpr ?_
  rw [mark_hv, mark_hv, Int.emod_eq_emod_iff_emod_sub_eq_zero]
  have e1 : hv (if y.low = true then ([l] : List Int).reverse else [l]) b = l := by rw [show (if y.low = true then ([l] : List Int).reverse else [l]) = [l] by split <;> rfl, hv1]
  have e0 : hv (if y.low = true then ([] : List Int).reverse else []) b = 0 := by rw [show (if y.low = true then ([] : List Int).reverse else []) = [] by split <;> rfl]; rfl
  have g1 : geo b ([l] : List Int).length = 1 := by show geo b (0 + 1) = 1; rw [geo_succ]; simp [geo, hv]
  have g0 : geo b ([] : List Int).length = 0 := by simp [geo, hv]
  rw [e1, e0, g1, g0]
  unfold plainS
  rw [Int.emod_add_emod, ← Int.dvd_iff_emod_eq_zero, ← Int.dvd_iff_emod_eq_zero]
  show n ∣ (if y.lead = true then 1 else 0) * b ^ 0 + 0 + y.shift * 0 - ((if y.lead = true then 1 else 0) * b ^ 1 + l + y.shift * 1) ↔ _
  rw [← Int.dvd_neg]
  have e : -((if y.lead = true then 1 else 0) * b ^ 0 + 0 + y.shift * 0 - ((if y.lead = true then 1 else 0) * b ^ 1 + l + y.shift * 1)) = y.shift + (if y.lead = true then b - 1 else 0) + l := by
    rw [Int.pow_zero, Int.pow_succ, Int.pow_zero]
    cases y.lead <;> simp <;> omega
  rw [e]
theorem seven_any {y y' : Sty} {b n b' n' : Int} (e : y.low = y'.low) : (five b n ++ two n (plainS y b n)).any (hit y y' b n b' n') = !rParts b n (plainS y b n) b' n' (plainS y' b' n') := by
  rw [List.any_append, five_any]
  unfold rPartsL rParts
  rw [if_pos e]
  by_cases h1 : n % n' = 0
  · by_cases h2 : (b - b') % n' = 0
    · rw [decide_eq_true h1, decide_eq_true h2]
      have hs : ∀ l : Int, (plainS y b n + l) % n = 0 → hit y y' b n b' n' ([], [l]) = !decide ((plainS y' b' n' + l) % n' = 0) := fun l hl => by
        unfold hit
        rw [agree_one, agree_one, decide_eq_true hl, Bool.true_and]
      unfold two
      rw [List.any_cons, List.any_cons, List.any_nil, hs _ (by rw [show plainS y b n + (0 - plainS y b n) = 0 by omega, Int.zero_emod]), hs _ (by rw [show plainS y b n + (n - plainS y b n) = n by omega, Int.emod_self])]
      generalize plainS y b n = s
      generalize plainS y' b' n' = s'
      have q1 : (s' + (0 - s)) % n' = 0 ↔ (s - s') % n' = 0 := by
        rw [← Int.dvd_iff_emod_eq_zero, ← Int.dvd_iff_emod_eq_zero, ← Int.dvd_neg, show -(s' + (0 - s)) = s - s' by omega]
      have q2 : (s' + (n - s)) % n' = 0 ↔ (s - s') % n' = 0 := by
        rw [← q1, ← Int.dvd_iff_emod_eq_zero, ← Int.dvd_iff_emod_eq_zero, show s' + (n - s) = s' + (0 - s) + n by omega]
        exact Int.dvd_add_left (Int.dvd_of_emod_eq_zero h1)
      rw [show decide ((s' + (0 - s)) % n' = 0) = decide ((s - s') % n' = 0) from decide_eq_decide.mpr q1, show decide ((s' + (n - s)) % n' = 0) = decide ((s - s') % n' = 0) from decide_eq_decide.mpr q2]
      cases decide ((s - s') % n' = 0) <;> rfl
    · rw [decide_eq_true h1, decide_eq_false h2]
      simp
  · rw [decide_eq_false h1]
    simp
theorem ints_ne {vs : List Int} (h : vs.length ≤ 2) (x y z : Int) : HO.lst (vs.map V.int) ≠ .lst [.int x, .int y, .int z] := fun e => by
  have e2 : vs.map V.int = [.int x, .int y, .int z] := by injection e
  have := congrArg List.length e2
  rw [List.length_map] at this
  simp at this
  omega
theorem two_rm {a : Addr} {c : Int} {H : Hp} (pu : Purse H a c) : ∀ {qs : List (List Int × List Int)} {ts : List Addr}, Paired (Two H) qs ts → (∀ q ∈ qs, q.1.length ≤ 2 ∧ q.2.length ≤ 2) → Paired (Two (rm a H)) qs ts
  | _, _, .nil, _ => .nil
  | q :: _, _, .cons ⟨p1, p2, h1, h2, h3, h4⟩ t, hs => .cons ⟨p1, p2, rm_of (pu.ne h1 fun _ _ _ w => by cases w) h1, rm_of (pu.ne h2 (ints_ne (hs q (List.mem_cons_self ..)).1)) h2, rm_of (pu.ne h3 (ints_ne (hs q (List.mem_cons_self ..)).2)) h3, h4⟩ (two_rm pu t fun z hz => hs z (List.mem_cons_of_mem _ hz))
theorem TwL.rmS {a : Addr} {c : Int} {H : Hp} {l : Addr} {qs : List (List Int × List Int)} (h : TwL H l qs) (pu : Purse H a c) (hs : ∀ q ∈ qs, q.1.length ≤ 2 ∧ q.2.length ≤ 2) : TwL (rm a H) l qs := by
  obtain ⟨ts, h1, h2⟩ := h
  exact ⟨ts, rm_of (pu.ne h1 refs_ne) h1, two_rm pu h2 hs⟩
theorem seven_len {b n s : Int} : ∀ q ∈ five b n ++ two n s, q.1.length ≤ 2 ∧ q.2.length ≤ 2 := fun q hq => by
  unfold five two at hq
  simp only [List.cons_append, List.nil_append, List.mem_cons, List.not_mem_nil, or_false] at hq
  rcases hq with rfl | rfl | rfl | rfl | rfl | rfl | rfl <;> exact ⟨by simp, by simp⟩

end Bc
namespace Bc
open PySem PySem.Spec PyProof.Rows L2
/-! ### displays whose address is known not to be that of sys.modules; str of data with {} in it -/
def tLstB (t : TA) : TE := fun σ H Q => t σ H fun xs H1 => xs.length ≤ sizeLine ∧ ∀ p, H1 p = none → p ≠ sysModules → atV Q (.ref p) (upd H1 p (.lst xs))
section
variable {X : Cx} {es : List Expr} {t : TA} {pos : Pos}
theorem pe_lstB (h : PA X es t) : PE X (.List es pos) (tLstB t) := by
  refine ⟨fun pins s σ H Q I hq => wpAny_List_spliced (thn (h.run pos pins s σ H _ I hq) ?_)⟩
  rintro us s1 ⟨xs, H1, I1, r, z, q⟩
  refine ⟨by rw [← r.length]; exact z, .ref s1.heap.objs.size, upd H1 s1.heap.objs.size (.lst xs), ?_, rfl, q _ (I1.hok.fresh (Nat.le_refl _)) (Nat.ne_of_gt I1.big)⟩
  exact I1.laid (t' := s1.toks) (fun _ _ e => Heap.get?_push_of_some _ e) (Nat.le_refl _) ⟨z, us, 0, r, Heap.get?_push_size _ rfl⟩
end
theorem w_lstB {t : TA} {σ : L2.St} {H : Hp} {Q : VK} (q : t σ H fun xs H1 => xs.length ≤ sizeLine ∧ ∀ p, H1 p = none → p ≠ sysModules → atV Q (.ref p) (upd H1 p (.lst xs))) : tLstB t σ H Q := q
theorem alB {H : Hp} {Q : VK} {o : HO} (q : ∀ p H', H p = none → p ≠ sysModules → Same H H' → H' p = some o → atV Q (.ref p) H') : ∀ p, H p = none → p ≠ sysModules → atV Q (.ref p) (upd H p o) := fun p n ne => q p _ n ne (Same.new n) upd_same
theorem alRB {H : Hp} {Q : VK} {o : HO} {a : Addr} {c : Int} (pu : Purse H a c) (q : ∀ p H', p ≠ sysModules → Same (rm a H) (rm a H') → Purse H' a c → rm a H' p = some o → rm a H p = none → atV Q (.ref p) H') : ∀ p, H p = none → p ≠ sysModules → atV Q (.ref p) (upd H p o) := fun p n ne =>
  q p _ ne (Same.new n).rm (pu.same (Same.new n)) (rm_of (pu.fresh n) upd_same) (rm_none n)
mutual
inductive Dq (H : Hp) : V → PyData → Prop
  | non : Dq H .non .none
  | bl (b : Bool) : Dq H (.bl b) (.bool b)
  | int (i : Int) : Dq H (.int i) (.int i)
  | str (z : Str) : Dq H (.str z) (.str z)
  | lst {a : Addr} {xs : List V} {ds : List PyData} : a ≠ sysModules → H a = some (.lst xs) → DqAll H xs ds → Dq H (.ref a) (.list ds)
  | tup {a : Addr} {xs : List V} {ds : List PyData} : H a = some (.tup xs) → DqAll H xs ds → Dq H (.ref a) (.tuple ds)
  | dk {a : Addr} : H a = some (.dK []) → Dq H (.ref a) (.dict [])
inductive DqAll (H : Hp) : List V → List PyData → Prop
  | nil : DqAll H [] []
  | cons {v : V} {vs : List V} {d : PyData} {ds : List PyData} : Dq H v d → DqAll H vs ds → DqAll H (v :: vs) (d :: ds)
end
mutual
theorem Dq.same {H H' : Hp} (s : Same H H') : ∀ {v : V} {d : PyData}, Dq H v d → Dq H' v d
  | _, _, .non => .non
  | _, _, .bl b => .bl b
  | _, _, .int i => .int i
  | _, _, .str z => .str z
  | _, _, .lst n h t => .lst n (s _ _ h) (DqAll.same s t)
  | _, _, .tup h t => .tup (s _ _ h) (DqAll.same s t)
  | _, _, .dk h => .dk (s _ _ h)
theorem DqAll.same {H H' : Hp} (s : Same H H') : ∀ {vs : List V} {ds : List PyData}, DqAll H vs ds → DqAll H' vs ds
  | _, _, .nil => .nil
  | _, _, .cons h t => .cons (Dq.same s h) (DqAll.same s t)
end
section
variable {X : Cx} {pins : List (Addr × Obj)} {σ : L2.St} {H : Hp} {s : Shared}
mutual
theorem Dq.reads (I : Inv X pins σ H s) : ∀ {v : V} {d : PyData} {u : Value}, Dq H v d → RelV v u → ∃ as, Reads s.heap u d as ∧ sysModules ∉ as
  | _, _, _, .non, r => by cases r; exact ⟨_, .none, by simp⟩
  | _, _, _, .bl b, r => by cases r; exact ⟨_, .bool b, by simp⟩
  | _, _, _, .int i, r => by obtain ⟨t, rfl⟩ := r; exact ⟨_, .int i t, by simp⟩
  | _, _, _, .str z, r => by obtain ⟨t, rfl⟩ := r; exact ⟨_, .str z t, by simp⟩
  | _, _, _, .lst (a := a) n h t, r => by
    cases r
    obtain ⟨its, rv, ⟨o, k, ho, hc, _, hd⟩, _⟩ := I.list (sq h)
    obtain ⟨as, hr, no⟩ := DqAll.reads I t rv
    exact ⟨a :: as, .list ho hc hd hr, fun z => (List.mem_cons.mp z).elim (fun e => n e.symm) no⟩
  | _, _, _, .tup h t, r => by
    cases r
    obtain ⟨its, rv, ⟨o, ho, hc, k, hd⟩, _⟩ := I.tuple (sqt h)
    obtain ⟨as, hr, no⟩ := DqAll.reads I t rv
    exact ⟨as, .tuple ho hc hd hr, no⟩
  | _, _, _, .dk (a := a) h, r => by
    cases r
    obtain ⟨_, ne, vs, kv, o, es, ep, ho, hx, hd, _, he, _⟩ := dk_of I.hok h
    cases kv
    have e0 : es.toList = [] := by
      generalize es.toList = l at he
      cases he
      rfl
    refine ⟨[a], Reads.dict (kvs := []) (as := []) (bs := []) ho hx.1 hd (by rw [e0]; exact .nil) (by rw [e0]; exact .nil), fun z => ?_⟩
    have e : sysModules = a := by simpa using z
    rw [e] at ne
    simp at ne
theorem DqAll.reads (I : Inv X pins σ H s) : ∀ {vs : List V} {ds : List PyData} {us : List Value}, DqAll H vs ds → Vals vs us → ∃ as, ReadsAll s.heap us ds as ∧ sysModules ∉ as
  | _, _, _, .nil, .nil => ⟨_, .nil, by simp⟩
  | _, _, _, .cons h t, .cons r rs => by
    obtain ⟨as, q1, n1⟩ := Dq.reads I h r
    obtain ⟨bs, q2, n2⟩ := DqAll.reads I t rs
    exact ⟨as ++ bs, .cons q1 q2, fun z => (List.mem_append.mp z).elim n1 n2⟩
end
end
def rStrQ : List V → Hp → VK → Prop := fun xs H Q => ∃ (a : Addr) (d : PyData), xs = [.ref a] ∧ Dq H (.ref a) d ∧ d.showable = true ∧ d.depth ≤ 50 ∧ d.shown.length ≤ sizeLine ∧ Q (.str d.shown) H
theorem cStrQ {X : Cx} (hA : X.A.guards = some []) (hu : X.A.units + 64 < cLine) : CallR X (.type "str") rStrQ := by
  intro pins s σ H xs us Q I r h
  obtain ⟨a, d, rfl, hd, hs, hp, hz, q⟩ := h
  obtain ⟨u, rfl, r1⟩ := vals1 r
  cases r1
  obtain ⟨as, rd, no⟩ := Dq.reads I hd rfl
  exact PySem.str_of_reads rd hs (fun _ => no) hA (by omega) (fun _ _ z => z) (fun h' u tk kp => ⟨.str _, H, I.kept kp, ⟨_, rfl⟩, q⟩) hz
/-! ### things that are no texts -/
theorem tyx_same {K : PySem.W.Frag} {H H' : Hp} {v : V} {t : Value} (h : TyX K H v t) (s : Same H H') : TyX K H' v t := by
  cases h with
  | base b =>
    refine .base ?_
    cases b with
    | non => exact .non
    | bl x => exact .bl x
    | int i => exact .int i
    | str x => exact .str x
    | flt x => exact .flt x
    | lst e => exact .lst (s _ _ e)
    | frz e => exact .frz (s _ _ e)
    | tup e => exact .tup (s _ _ e)
    | dK e => exact .dK (s _ _ e)
    | dT e => exact .dT (s _ _ e)
    | ins e cl ha hn htk hm => exact .ins (s _ _ e) cl ha hn htk hm
  | byt b => exact .byt b
  | set e => exact .set (s _ _ e)
  | kList e c => exact .kList e c
  | kTuple e c => exact .kTuple e c
  | kDict e c => exact .kDict e c
  | fTuple e => exact .fTuple (s _ _ e)
  | fDict e => exact .fDict (s _ _ e)
/-- is_integer's answer -/
def IntB (K : PySem.W.Frag) (H : Hp) (v : V) (b : Bool) : Prop := ∃ (t : Value) (b1 b2 : Bool), TyX K H v t ∧ PySem.W.kitOne K t (.type "int") = some b1 ∧ PySem.W.kitOne K t (.type "bool") = some b2 ∧ b = (b1 && !b2)
theorem IntB.same {K : PySem.W.Frag} {H H' : Hp} {v : V} {b : Bool} (h : IntB K H v b) (s : Same H H') : IntB K H' v b := by
  obtain ⟨t, b1, b2, h1, h2⟩ := h
  exact ⟨t, b1, b2, tyx_same h1 s, h2⟩
def sgn (c : Nat) : Bool := decide (32 ≤ c) && decide (c ≤ 126)
/-- is_text's answer -/
inductive TextB (K : PySem.W.Frag) (H : Hp) : V → Bool → Prop where
  | oth {v : V} {t : Value} (ty : TyX K H v t) (h1 : PySem.W.kitOne K t (.type "str") = some false) (h2 : PySem.W.kitAny K t [.type "list", .type "tuple"] = some false) : TextB K H v false
  | str (z : Str) (l : z.length ≤ 100000) : TextB K H (.str z) (z.cps.toList.all sgn)
  | lst (a : Addr) (xs : List V) (bs : List Bool) (h : H a = some (.lst xs)) (l : xs.length ≤ 100000) (p : Paired (IntB K H) xs bs) : TextB K H (.ref a) (bs.all id)
  | tup (a : Addr) (xs : List V) (bs : List Bool) (h : H a = some (.tup xs)) (l : xs.length ≤ 100000) (p : Paired (IntB K H) xs bs) : TextB K H (.ref a) (bs.all id)
theorem TextB.same {K : PySem.W.Frag} {H H' : Hp} {v : V} {b : Bool} (h : TextB K H v b) (s : Same H H') : TextB K H' v b := by
  cases h with
  | oth ty h1 h2 => exact .oth (tyx_same ty s) h1 h2
  | str z l => exact .str z l
  | lst a xs bs h l p => exact .lst a xs bs (s _ _ h) l (paired_imp (fun _ _ z => z.same s) p)
  | tup a xs bs h l p => exact .tup a xs bs (s _ _ h) l (paired_imp (fun _ _ z => z.same s) p)
theorem ints_b {K : PySem.W.Frag} {H : Hp} : ∀ ls : List Int, Paired (IntB K H) (ls.map V.int) (ls.map fun _ => true)
  | [] => .nil
  | l :: r => .cons ⟨_, true, false, ty_int l, kit_ty (by decide +kernel), kit_ty (by decide +kernel), rfl⟩ (ints_b r)
theorem TextAt.b {K : PySem.W.Frag} {H : Hp} {v : V} {ls : List Int} (t : TextAt H v ls) : TextB K H v true := by
  cases t with
  | str z h l =>
    have e : z.cps.toList.all sgn = true := List.all_eq_true.mpr fun c hc => by
      have := h c hc
      unfold sgn
      rw [decide_eq_true this.1, decide_eq_true this.2]
      rfl
    rw [← e]
    exact .str z l
  | lst a _ h l =>
    rw [← all_true ls]
    exact .lst a _ _ h (by rw [List.length_map]; exact l) (ints_b ls)
  | tup a _ h l =>
    rw [← all_true ls]
    exact .tup a _ _ h (by rw [List.length_map]; exact l) (ints_b ls)
def spIsTextX (K : PySem.W.Frag) : Sp := fun vs H Q _ => ∃ (v : V) (b : Bool), vs = [v] ∧ TextB K H v b ∧ ∀ H', Same H H' → Q (.bl b) H'
def spReqTextX (K : PySem.W.Frag) (Ct : Addr) : Sp := fun vs H Q E => ∃ v : V, vs = [v] ∧ ((∃ ls, TextAt H v ls ∧ ∀ H' t, Same H H' → H' t = some (.tup (ls.map V.int)) → Q (.ref t) H') ∨ (TextB K H v false ∧ ErrTo E Ct "thing" v H))
def spMkOfX (K : PySem.W.Frag) (c : CA) (Ck : Addr) : Sp := fun vs H Q E => ∃ v : V, vs = [v] ∧
  ((∃ y : Sty, ((v = .non ∧ y = ⟨false, 0, false⟩) ∨ ∃ k, v = .ref k ∧ MkAt c H k y.low y.shift y.lead) ∧ ∀ H' k, Same H H' → MkAt c H' k y.low y.shift y.lead → Q (.ref k) H') ∨
   (v ≠ .non ∧ ∃ t, TyX K H v t ∧ PySem.W.kitOne K t (.ref c.kg) = some false ∧ ErrTo E Ck "name" .non H))
theorem sign_lo2 (c : Nat) : (!decide ((Str.mk #[c]).cps.toList < (Str.ofString " ").cps.toList)) = decide (32 ≤ c) := by
  by_cases h : 32 ≤ c
  · rw [sign_lo h, decide_eq_true h]
    rfl
  · rw [show decide ((Str.mk #[c]).cps.toList < (Str.ofString " ").cps.toList) = true from decide_eq_true (lt1.mpr (show c < 32 by omega)), decide_eq_false h]
    rfl
theorem sign_hi2 (c : Nat) : (!decide ((Str.ofString "~").cps.toList < (Str.mk #[c]).cps.toList)) = decide (c ≤ 126) := by
  by_cases h : c ≤ 126
  · rw [sign_hi h, decide_eq_true h]
    rfl
  · rw [show decide ((Str.ofString "~").cps.toList < (Str.mk #[c]).cps.toList) = true from decide_eq_true (lt1.mpr (show 126 < c by omega)), decide_eq_false h]
    rfl

end Bc
namespace Bc
open PySem PySem.Spec PyProof.Rows L2
/-! ### errors made as values -/
section
open PySem.W PySem.Calls
variable {prog : Program} {w : World} {A : Around} {E : Value → Shared → Prop} {s : Shared} {K : Frag} {x D : Addr} {ox od : Obj}
theorem kin_classD {Q : Option Value → Shared → Prop} (c : ExcC K D) (X : K.In s.heap) (I : InstAt s.heap x ox D (some od)) (h : Q (some (.ref D)) { s with toks := s.toks + 1 }) : wpAny (model prog w) A (getAttr? (.ref x) "__class__") Q E s := by
  obtain ⟨hga, hgt, hsub, hdct, ha, hn, htk, hm⟩ := c
  have hf := findObj_data (K := K) (C := D) (od := od) (by obtain ⟨cd, hc, _⟩ := any_some hdct; rw [hc]; rfl) ha hn htk
  obtain ⟨hp, g, d, t, os⟩ := s
  have L0 := I.type (M := model prog w)
  have L1 := looks_findIn (M := model prog w) X hga
  have L2 := looks_findIn (M := model prog w) X hgt
  have L3 := looks_find (M := model prog w) X I hf
  have sub : Looks (model prog w) hp (isInstance (.ref x) (.type "BaseException")) true := L0.andThen (looks_subIn X hsub)
  have hx0 : (false && onTheHeap (Value.builtin "BaseException.__getattribute__")) = false := rfl
  have hx2 : (Value.builtin "BaseException.__getattribute__" == Value.builtin "object.__getattribute__") = false := by decide +kernel
  have hx1 : (onTheHeap (Value.ref D) && Value.builtin "BaseException.__getattribute__" == Value.builtin "object.__getattribute__") = false := by rw [hx2]; rfl
  unfold getAttr? getAttrBy? getAttrBy
  refine wpAny_bind (wpAny_mkText (wpAny_bind (wpAny_attempt (wpAny_holding (wpAny_bind (L0.at (wpAny_bind (L1.at ?_))))))))
  show wpAny _ _ (if (onTheHeap (Value.ref D) && Value.builtin "BaseException.__getattribute__" == Value.builtin "object.__getattribute__") = true then _ else _) _ _ _
  rw [hx1, if_neg Bool.false_ne_true]
  unfold getAttrByItsOwn hookBefore
  refine wpAny_bind ?_
  rw [if_pos (show onTheHeap (Value.ref D) = true from rfl)]
  refine L2.at ?_
  refine wpAny_bind (wpAny_attempt (wpAny_holding ?_))
  unfold callGetattribute
  rw [hx0, if_neg Bool.false_ne_true]
  unfold boundAndCalled
  rw [PySem.F.excAttr_ValueError.ga.bind (.ref x)]
  refine wpAny_bind (wpAny_pure ?_)
  show wpAny _ _ (call (.builtin "BaseException.__getattribute__") [.ref x, .str "__class__" t]) _ _ _
  refine wpAny_call (codeAny_call_builtin PySem.F.excAttr_ValueError.ga.plain PySem.F.entry_bexc_ga ?_)
  refine @check_slot (model prog w) _ _ ⟨hp, g, d, t + 1, os⟩ "BaseException.__getattribute__" "BaseException" "__getattribute__" (.ref x) [.str "__class__" t] [] _ (by decide +kernel) (by decide +kernel) sub (PySem.F.args_bexc_ga (.ref x) (.str "__class__" t)) ?_
  unfold Builtin.«object.__getattribute__»
  refine wpAny_bind (wpAny_of_eq (a := ((Value.ref x : Value), [Value.str "__class__" t])) (by first | rfl | (simp only [slotArgs]; rfl)) ?_)
  refine wpAny_bind (wpAny_pure (wpAny_bind (L0.at (wpAny_bind (L3.at ?_)))))
  show wpAny _ _ (holding [Value.builtin "object.__class__"] (call (.builtin "getset_descriptor.__get__") [.builtin "object.__class__", .ref x, .ref D]) >>= ret) _ _ _
  refine wpAny_bind (wpAny_holding (wpAny_call (class_get (s := ⟨hp, g, d, t + 1, os⟩) (ox := ox) (od := some od) X I hm ?_)))
  refine wpAny_pure ?_
  show wpAny _ _ (handedOut (.ref D)) _ _ _
  rw [handedOut_of (v := .ref D) rfl]
  first
    | exact wpAny_pure (wpAny_pure h)
    | exact wpAny_pure h
    | exact wpAny_pure (wpAny_bind (wpAny_pure (wpAny_pure h)))
theorem kitx_excD (c : ExcC K D) : KitX K (.ref x) (.ref D) (fun h => ∃ ox od, InstAt h x ox D (some od)) where
  ty := fun _ _ _ I => by obtain ⟨ox, od, I⟩ := I; exact I.type
  it := fun _ _ X _ => by
    obtain ⟨cdD, hcD, _⟩ := any_some c.hd
    unfold clsIn at hcD
    split at hcD
    · rename_i c' d' cd' sl' ho
      intro A' Q' E' s' k q
      unfold isType loadHead
      exact wpAny_bind (wpAny_loadPart (k _ _ (X _ _ ho)) (wpAny_pure q))
    · cases hcD
  ne := fun h tp dd its n sl X htp => by
    obtain ⟨cdD, hcD, _⟩ := any_some c.hd
    refine Bool.eq_false_iff.mpr fun q => ?_
    have e : D = tp := Value.ref.inj (beq_iff_eq.mp q)
    subst e
    unfold clsIn at hcD
    split at hcD
    · rename_i c' d' cd' sl' ho
      have z := (X _ _ ho).symm.trans htp
      cases z
    · cases hcD
  ca := fun X I k => by obtain ⟨ox, od, I⟩ := I; exact kin_classD c X I k
end
/-- the type of a thing, errors among them -/
inductive TyE (K : PySem.W.Frag) (H : Hp) : V → Value → Prop
  | x {v : V} {t : Value} (h : TyX K H v t) : TyE K H v t
  | e {a C d : Addr} {fs : List (Str × V)} (h : H a = some (exo a C (some d))) (hd : H d = some (exd d fs)) (c : ExcC K C) : TyE K H (.ref a) (.ref C)
theorem TyE.same {K : PySem.W.Frag} {H H' : Hp} {v : V} {t : Value} (h : TyE K H v t) (s : Same H H') : TyE K H' v t := by
  cases h with
  | x h => exact .x (tyx_same h s)
  | e h hd c => exact .e (s _ _ h) (s _ _ hd) c
section
variable {X : Cx} {pins : List (Addr × Obj)} {σ : L2.St} {H : Hp} {s : Shared}
theorem kit_ofE {x : V} {u t : Value} (I : Inv X pins σ H s) (rx : RelV x u) (ty : TyE X.K H x t) : ∃ P : Heap → Prop, PySem.W.KitX X.K u t P ∧ P s.heap ∧ u ≠ .builtin "__main__.__loader__#opaque" := by
  cases ty with
  | x h => exact kit_of I rx h
  | @e a C d fs h hd c =>
    cases (show u = Value.ref a from rx)
    obtain ⟨t1, ha⟩ := exo_at I.hok h
    obtain ⟨mA, hns, hr⟩ := exd_at I.hok hd
    obtain ⟨od, ho, hl⟩ := lookIn_ns hns
    exact ⟨_, kitx_excD c, ⟨_, od, ha, rfl, rfl, ho⟩, fun z => nomatch z⟩
def rIsiE (K : PySem.W.Frag) : List V → Hp → VK → Prop := fun xs H Q => ∃ (x c : V) (t u : Value) (b : Bool), xs = [x, c] ∧ ClsV c u ∧ TyE K H x t ∧ PySem.W.kitOne K t u = some b ∧ Q (.bl b) H
theorem call_isiE : CallR X (.builtin "isinstance") (rIsiE X.K) := by
  intro pins s σ H xs us Q I r h
  obtain ⟨x, c, t, u, b, rfl, hc, ty, e, q⟩ := h
  cases r with
  | cons rx rr =>
    cases rr with
    | cons rt rr =>
      cases rr
      have ec := hc.eq rt
      subst ec
      obtain ⟨P, kx, hp, hne⟩ := kit_ofE I rx ty
      exact PySem.W.kia_one kx I.kIn hp e hne fun tk => ⟨.bl b, H, I.kept (t' := tk) fun _ _ z => z, rfl, q⟩
end
theorem w_isiE {K : PySem.W.Frag} {H : Hp} {Q : VK} {x : V} {C : Addr} {t : Value} {b : Bool} (ty : TyE K H x t) (e : PySem.W.kitOne K t (.ref C) = some b) (q : Q (.bl b) H) : rIsiE K [x, .ref C] H Q := ⟨x, .ref C, t, _, b, rfl, .own C, ty, e, q⟩
section
variable {X : Cx} {k j : Nat} {x f : Str} {C : Addr} {p pos : Pos} {e : Expr} {es : List Expr} {ta : TA}
def tMkV (C : Addr) (sp : Sp) (dvs : List V) (ta : TA) : TE := fun σ H Q => ta σ H fun vs H1 => vs.length ≤ 1000 ∧ ∀ a, H1 a = none → sp (.ref a :: (vs ++ dvs)) (upd H1 a (exo a C none)) (fun v H2 => v = .non ∧ Q (.ref a) H2) (fun _ _ _ => False)
theorem pe_oexV {sp : Sp} {ds : List Value} {dvs : List V} {CX : CXT} {fI : Addr} {fd : FuncData} {ps : List Str} (T : OexC X.K C) (iC : PySem.W.findIn X.K (.ref C) "__init__" = some (some (.ref fI))) (tI : PySem.W.typeIn X.K (.ref fI) = some (.type "function"))
    (F1 : FnOk X.prog X.w X.K X.mg X.base CX k fI fd ps sp) (hr : Room (k + 1) X.A) (hb : Binds X.K fd ps ds) (hd : Vals dvs ds) (hx : Passes CX X (fun _ _ _ => False)) (hg : Gl X x) (hm : X.mg x = some (.ref C)) (ha : PA X (e :: es) ta)
    (hdb : (x == ("__debug__" : Str)) = false := by decide) (he : starEach (e :: es) X.env = (false, eval e X.env) :: starEach es X.env := by rfl) (hpl : (backTo pos (starEach es X.env)).any (·.1) = false := by rfl) :
    PE X (.Call (.Name x p) (e :: es) [] pos) (tMkV C sp dvs ta) := by
  refine ⟨fun pins s σ H Q I h => ?_⟩
  obtain ⟨nm, q, N, bs, bm, sn, sub, ab, col, dd, k0, k1, k2, k3, k5, hC, hbm⟩ := T.cls
  refine wpAny_Call_Name_kw (ld_glob I hg hm ?_ hdb)
  refine PySem.W.callWith_K (h₀ := X.base) I.ok.mod.kin T.kC (thn (ha.run pos pins s σ H _ I h) fun us s1 ⟨vs, H1, I1, r1, hz, q1⟩ => ⟨I1.kIn, ?_⟩) he hpl
  show wpAny _ _ (call (.ref C) us) _ _ _
  obtain ⟨hp, g, dr, tk, os⟩ := s1
  have hsz : hp.objs.size ≤ hp.objs.size + 1 := Nat.le_succ _
  have hn : H1 (hp.objs.size + 1) = none := I1.hok.fresh hsz
  have hq := q1 (hp.objs.size + 1) hn
  have kk : ∀ b o, hp.get? b = some o → ((hp.push (PySem.W.kdv_tup us)).push (PySem.HandSPX.excO C hp.objs.size)).get? b = some o := fun b o e => Heap.get?_push_of_some _ (Heap.get?_push_of_some _ e)
  have hget : ((hp.push (PySem.W.kdv_tup us)).push (PySem.HandSPX.excO C hp.objs.size)).get? (hp.objs.size + 1) = some (PySem.HandSPX.excO C hp.objs.size) := by heap_get
  have I2 : Inv X pins σ (upd H1 (hp.objs.size + 1) (exo (hp.objs.size + 1) C none)) ⟨(hp.push (PySem.W.kdv_tup us)).push (PySem.HandSPX.excO C hp.objs.size), g, dr, tk, os⟩ :=
    I1.laid (t' := tk) (a := hp.objs.size + 1) (o := exo (hp.objs.size + 1) C none) (h' := (hp.push (PySem.W.kdv_tup us)).push (PySem.HandSPX.excO C hp.objs.size)) kk hsz (exo_ok hget)
  have r2 : Vals (V.ref (hp.objs.size + 1) :: (vs ++ dvs)) (Value.ref (hp.objs.size + 1) :: (us ++ ds)) := .cons rfl (r1.append hd)
  have hl : (Value.ref (hp.objs.size + 1) :: us ++ ds).length = ps.length := by
    have e := r2.length
    rw [F1.len _ _ _ _ hq] at e
    exact e.symm
  have hus : us.length ≤ sizeLine := by
    rw [← Paired.length r1, sizeLine_eq]
    omega
  refine wpAny_call (PySem.HandSPX.call_own F.excBase_ValueError (fun Y => PySem.HandSPX.refsVE_contains Y bm hbm) (I1.kIn _ _ hC) (PySem.W.looks_findIn I1.kIn iC) (fun self => PySem.W.bind_fn I1.kIn self tI) hus
    (codeAny_mono (F1.run _ X.stack _ _ ⟨Value.ref (hp.objs.size + 1) :: us, []⟩ (Value.ref (hp.objs.size + 1) :: (us ++ ds)) _ _ (fun _ _ _ => False) (hr.make C us []) (I2.env0.make C us []) (hb _ (Value.ref (hp.objs.size + 1) :: us) I2.kIn hl) r2 hq) fun r s' hq' => ?_))
  cases r with
  | error er => exact hx pins σ _ _ er s' I2 hq'
  | ok fl =>
    cases fl with
    | ret u =>
      obtain ⟨v, H', I3, rv, ev, q3⟩ := I2.after hq'
      subst ev
      exact ⟨rv, V.ref (hp.objs.size + 1), H', I3, rfl, q3⟩
    | next => exact False.elim hq'
    | brk => exact False.elim hq'
    | cont => exact False.elim hq'
theorem pe_errV (c : Err X.prog X.w X.K X.mg X.base k x C f) (hr : Room j X.A) (hk : k + 1 ≤ j) (hg : Gl X x) (ha : PA X (e :: es) ta)
    (hdb : (x == ("__debug__" : Str)) = false := by decide) (he : starEach (e :: es) X.env = (false, eval e X.env) :: starEach es X.env := by rfl) (hpl : (backTo pos (starEach es X.env)).any (·.1) = false := by rfl) :
    PE X (.Call (.Name x p) (e :: es) [] pos) (tMkV C (spErr C f) [] ta) := by
  obtain ⟨fI, fd, ps, T, iC, tI, F, b, hm⟩ := c.ex
  exact pe_oexV T iC tI F (hr.mono hk) b .nil (fun _ _ _ _ _ _ _ h => h.elim) hg hm ha hdb he hpl
end
theorem w_mkV {C : Addr} {sp : Sp} {ta : TA} {σ : L2.St} {H : Hp} {Q : VK} (q : ta σ H fun vs H1 => vs.length ≤ 1000 ∧ ∀ a, H1 a = none → sp (.ref a :: (vs ++ [])) (upd H1 a (exo a C none)) (fun v H2 => v = .non ∧ Q (.ref a) H2) (fun _ _ _ => False)) : tMkV C sp [] ta σ H Q := q
theorem use_errV {C : Addr} {f : Str} {v : V} {H : Hp} {Q : Addr → Hp → Prop} {E : XK} (q : ∀ a d H2, H a = none → Same H H2 → H2 a = some (exo a C (some d)) → H2 d = some (exd d [(f, v)]) → Q a H2) :
    [v].length ≤ 1000 ∧ ∀ a, H a = none → spErr C f (.ref a :: ([v] ++ [])) (upd H a (exo a C none)) (fun u H2 => u = .non ∧ Q a H2) E :=
  ⟨by show 1 ≤ 1000; decide, fun a na => ⟨a, v, rfl, upd_same, fun dx nd ne => ⟨rfl, q a dx _ na (fun b o h => by
    have nb : b ≠ a := ne_of_none h na
    have nb2 : b ≠ dx := ne_of_none h (by rw [upd_ne ne] at nd; exact nd)
    rw [upd_ne nb, upd_ne nb2, upd_ne nb]
    exact h) upd_same (by rw [upd_ne ne, upd_same])⟩⟩⟩

end Bc
namespace Bc
open PySem PySem.Spec PyProof.Rows L2
/-! ### constructors and methods that may raise, at the caller's slots -/
section
variable {X : Cx} {CX : CXT} {k j : Nat} {f C : Addr} {fd : FuncData} {ps : List Str} {sp : Sp} {dvs : List V} {ds : List Value} {E : L2.St → XK} {x m : Str} {p pos apos : Pos} {e o : Expr} {es : List Expr} {ta : TE} {t tk' : TA} {W : WX}
def tMakeSD (C : Addr) (sp : Sp) (dvs : List V) (E : L2.St → XK) (t : TA) : TE := fun σ H Q => t σ H fun vs H1 => ∀ x dx, H1 x = none → H1 dx = none → dx ≠ x →
  sp (.ref x :: (vs ++ dvs)) (upd (upd H1 dx (.own x)) x (.ins C dx [])) (fun v H2 => v = .non ∧ Q (.ref x) H2) (E σ)
theorem run_makeSD {pins : List (Addr × Obj)} {σ : L2.St} {H : Hp} {s : Shared} {Q : VK} {us : List Value} {vs : List V} (M : Mk X.K C f) (F : FnOk X.prog X.w X.K X.mg X.base CX k f fd ps sp) (hr : Room (k + 1) X.A) (hb : Binds X.K fd ps ds) (hd : Vals dvs ds)
    (hx : PassesAt CX X σ (E σ)) (I : Inv X pins σ H s) (r : Vals vs us)
    (h : ∀ x dx, H x = none → H dx = none → dx ≠ x → sp (.ref x :: (vs ++ dvs)) (upd (upd H dx (.own x)) x (.ins C dx [])) (fun v H2 => v = .non ∧ Q (.ref x) H2) (E σ)) :
    wpAny (model X.prog X.w) X.A (call (.ref C) us) (EP X pins σ Q) X.xe s := by
  have hq := h (s.heap.objs.size + 1) s.heap.objs.size (I.hok.fresh (Nat.le_succ _)) (I.hok.fresh (Nat.le_refl _)) (Nat.ne_of_lt (Nat.lt_succ_self _))
  have I2 := Inv.made (C := C) I
  have r2 : Vals (V.ref (s.heap.objs.size + 1) :: (vs ++ dvs)) (Value.ref (s.heap.objs.size + 1) :: (us ++ ds)) := .cons rfl (r.append hd)
  have hl : (Value.ref (s.heap.objs.size + 1) :: us ++ ds).length = ps.length := by
    have e := r2.length
    rw [F.len _ _ _ _ hq] at e
    exact e.symm
  refine wpAny_call (make_map (f := f) I.kIn M.makes M.init (beq_iff_eq.mp M.fn) (codeAny_mono (F.run _ X.stack _ _ ⟨Value.ref (s.heap.objs.size + 1) :: us, []⟩ (Value.ref (s.heap.objs.size + 1) :: (us ++ ds)) _ _ (E σ) (hr.make C us [])
    (I2.env0.make C us []) (hb _ (Value.ref (s.heap.objs.size + 1) :: us) I2.kIn hl) r2 hq) fun r s' hq' => ?_))
  cases r with
  | error e => exact hx pins _ _ e s' I2 hq'
  | ok fl =>
    cases fl with
    | ret u =>
      obtain ⟨v, H', I3, rv, ev, q3⟩ := I2.after hq'
      subst ev
      exact ⟨rv, ⟨V.ref (s.heap.objs.size + 1), H', I3, rfl, q3⟩⟩
    | next => exact False.elim hq'
    | brk => exact False.elim hq'
    | cont => exact False.elim hq'
structure MakX (P : Program) (w : World) (K : PySem.W.Frag) (mg : Str → Option Value) (base : Heap) (k : Nat) (x : Str) (C : Addr) (sp : Sp) (dvs : List V) : Prop where
  ex : ∃ (f : Addr) (fd : FuncData) (ps : List Str) (ds : List Value), Mk K C f ∧ FnOk P w K mg base (L2.CX P w) k f fd ps sp ∧ mg x = some (.ref C) ∧ Binds K fd ps ds ∧ Vals dvs ds
theorem pe_mkX (c : MakX X.prog X.w X.K X.mg X.base k x C sp dvs) (hr : Room j X.A) (hk : k + 1 ≤ j) (hg : Gl X x) (tk : Takes X W) (ha : PA X (e :: es) t)
    (hdb : (x == ("__debug__" : Str)) = false := by decide) (he : starEach (e :: es) X.env = (false, eval e X.env) :: starEach es X.env := by rfl) (hpl : (backTo pos (starEach es X.env)).any (·.1) = false := by rfl) :
    PE X (.Call (.Name x p) (e :: es) [] pos) (tMakeSD C sp dvs (WE W) t) := by
  obtain ⟨f, fd, ps, ds, M, F, hm, b, d⟩ := c.ex
  refine ⟨fun pins s σ H Q I h => ?_⟩
  refine wpAny_Call_Name_kw (ld_glob I hg hm ?_ hdb)
  refine PySem.W.callWith_K (h₀ := X.base) I.ok.mod.kin M.kp (thn (ha.run pos pins s σ H _ I h) fun us s1 ⟨vs, H1, I1, r, q⟩ => ⟨I1.kIn, ?_⟩) he hpl
  exact run_makeSD M F (hr.mono hk) b d (passAt tk σ) I1 r q
/-- a call of it that raises nothing -/
theorem pe_mkL (c : MakX X.prog X.w X.K X.mg X.base k x C sp dvs) (hr : Room j X.A) (hk : k + 1 ≤ j) (hg : Gl X x) (ha : PA X (e :: es) t)
    (hdb : (x == ("__debug__" : Str)) = false := by decide) (he : starEach (e :: es) X.env = (false, eval e X.env) :: starEach es X.env := by rfl) (hpl : (backTo pos (starEach es X.env)).any (·.1) = false := by rfl) :
    PE X (.Call (.Name x p) (e :: es) [] pos) (tMake C sp dvs L2.E0 t) := by
  obtain ⟨f, fd, ps, ds, M, F, hm, b, d⟩ := c.ex
  exact pe_make M F (hr.mono hk) hg hm b d passL ha hdb he hpl
theorem pe_mkL0 (c : MakX X.prog X.w X.K X.mg X.base k x C sp dvs) (hr : Room j X.A) (hk : k + 1 ≤ j) (hg : Gl X x) (hdb : (x == ("__debug__" : Str)) = false := by decide) : PE X (.Call (.Name x p) [] [] pos) (tMake C sp dvs L2.E0 tNil) := by
  obtain ⟨f, fd, ps, ds, M, F, hm, b, d⟩ := c.ex
  exact pe_make0 M F (hr.mono hk) hg hm b d passL hdb
theorem w_makeX {σ : L2.St} {H : Hp} {Q : VK} (q : t σ H fun vs H1 => ∀ x dx, H1 x = none → H1 dx = none → dx ≠ x → sp (.ref x :: (vs ++ dvs)) (upd (upd H1 dx (.own x)) x (.ins C dx [])) (fun v H2 => v = .non ∧ Q (.ref x) H2) fun cls d H2 => W cls d σ H2) : tMakeSD C sp dvs (WE W) t σ H Q := q
/-! with keywords alone -/
def tMakeKS (C : Addr) (m : Nat) (sp : Sp) (gV : List V → List V → List V) (E : L2.St → XK) (tk : TA) : TE := fun σ H Q => tk σ H fun zs H2 => zs.length = m ∧ ∀ x dx, H2 x = none → H2 dx = none → dx ≠ x →
  sp (gV [.ref x] zs) (upd (upd H2 dx (.own x)) x (.ins C dx [])) (fun v H3 => v = .non ∧ Q (.ref x) H3) (E σ)
structure MakXK (P : Program) (w : World) (K : PySem.W.Frag) (mg : Str → Option Value) (base : Heap) (k : Nat) (x : Str) (C : Addr) (ks : List Str) (sp : Sp) (gV : List V → List V → List V) : Prop where
  ex : ∃ (f : Addr) (fd : FuncData) (ps : List Str) (g : List Value → List Value → List Value), Mk K C f ∧ FnOk P w K mg base (L2.CX P w) k f fd ps sp ∧ mg x = some (.ref C) ∧ KBn K fd ps 1 ks g gV
theorem run_makeKS {pins : List (Addr × Obj)} {σ : L2.St} {H : Hp} {s : Shared} {Q : VK} {ks : List Str} {ws : List Value} {zs : List V} {g : List Value → List Value → List Value} {gV : List V → List V → List V} (M : Mk X.K C f) (F : FnOk X.prog X.w X.K X.mg X.base CX k f fd ps sp) (hr : Room (k + 1) X.A) (hb : KBn X.K fd ps 1 ks g gV) (hx : PassesAt CX X σ (E σ))
    (I : Inv X pins σ H s) (rz : Vals zs ws) (l2 : zs.length = ks.length)
    (h : ∀ x dx, H x = none → H dx = none → dx ≠ x → sp (gV [.ref x] zs) (upd (upd H dx (.own x)) x (.ins C dx [])) (fun v H2 => v = .non ∧ Q (.ref x) H2) (E σ)) :
    wpAny (model X.prog X.w) X.A (call (.ref C) [] (ks.zip ws)) (EP X pins σ Q) X.xe s := by
  have hq := h (s.heap.objs.size + 1) s.heap.objs.size (I.hok.fresh (Nat.le_succ _)) (I.hok.fresh (Nat.le_refl _)) (Nat.ne_of_lt (Nat.lt_succ_self _))
  have I2 := Inv.made (C := C) I
  have r1 : Vals [V.ref (s.heap.objs.size + 1)] [Value.ref (s.heap.objs.size + 1)] := .cons rfl .nil
  have r2 := hb.rel r1 rz
  refine wpAny_call (make_map (f := f) I.kIn M.makes M.init (beq_iff_eq.mp M.fn) (codeAny_mono (F.run _ X.stack _ _ ⟨[Value.ref (s.heap.objs.size + 1)], ks.zip ws⟩ (g [Value.ref (s.heap.objs.size + 1)] ws) _ _ (E σ) (hr.make C [] (ks.zip ws))
    (I2.env0.make C [] (ks.zip ws)) (hb.to _ [Value.ref (s.heap.objs.size + 1)] ws I2.kIn rfl (rz.length.symm.trans l2)) r2 hq) fun r s' hq' => ?_))
  cases r with
  | error e => exact hx pins _ _ e s' I2 hq'
  | ok fl =>
    cases fl with
    | ret u =>
      obtain ⟨v, H', I3, rv, ev, q3⟩ := I2.after hq'
      subst ev
      exact ⟨rv, ⟨V.ref (s.heap.objs.size + 1), H', I3, rfl, q3⟩⟩
    | next => exact False.elim hq'
    | brk => exact False.elim hq'
    | cont => exact False.elim hq'
theorem pe_mkXK {ks : List Str} {gV : List V → List V → List V} {kws : List Keyword} {tk : TA} (c : MakXK X.prog X.w X.K X.mg X.base k x C ks sp gV) (hr : Room j X.A) (hk : k + 1 ≤ j) (hg : Gl X x) (tk' : Takes X W) (hkw : PK X kws tk)
    (hall : (backToKw pos (keywordEach kws X.env)).all (·.1.isSome) = true := by rfl) (hks : (backToKw pos (keywordEach kws X.env)).filterMap (·.1) = ks := by rfl) (hdb : (x == ("__debug__" : Str)) = false := by decide)
    (hpl : ((backTo pos (starEach [] X.env)).any (·.1) || (backToKw pos (keywordEach kws X.env)).any (·.1.isNone)) = false := by rfl) :
    PE X (.Call (.Name x p) [] kws pos) (tMakeKS C ks.length sp gV (WE W) tk) := by
  obtain ⟨f, fd, ps, g, M, F, hm, b⟩ := c.ex
  refine ⟨fun pins s σ H Q I h => ?_⟩
  refine wpAny_Call_Name_kw (ld_glob I hg hm ?_ hdb)
  refine PySem.W.callWith_KW0 (h₀ := X.base) I.ok.mod.kin M.kp hall ?_ hpl
  refine thn (hkw.run pos pins s σ H _ I h) fun ws s2 ⟨zs, H2, I2, rz, l2, q2⟩ => ⟨I2.kIn, ?_⟩
  rw [hks]
  exact run_makeKS M F (hr.mono hk) b (passAt tk' σ) I2 rz l2 q2
theorem pe_mkLK {ks : List Str} {gV : List V → List V → List V} {kws : List Keyword} {tk : TA} (c : MakXK X.prog X.w X.K X.mg X.base k x C ks sp gV) (hr : Room j X.A) (hk : k + 1 ≤ j) (hg : Gl X x) (hkw : PK X kws tk)
    (hall : (backToKw pos (keywordEach kws X.env)).all (·.1.isSome) = true := by rfl) (hks : (backToKw pos (keywordEach kws X.env)).filterMap (·.1) = ks := by rfl) (hdb : (x == ("__debug__" : Str)) = false := by decide)
    (hpl : ((backTo pos (starEach [] X.env)).any (·.1) || (backToKw pos (keywordEach kws X.env)).any (·.1.isNone)) = false := by rfl) :
    PE X (.Call (.Name x p) [] kws pos) (tMakeK C 0 ks.length sp gV L2.E0 tNil tk) := by
  obtain ⟨f, fd, ps, g, M, F, hm, b⟩ := c.ex
  exact pe_makeK0 M F (hr.mono hk) hg hm b passL hkw hall hks hdb hpl
theorem w_makeKS {σ : L2.St} {H : Hp} {Q : VK} {n : Nat} {gV : List V → List V → List V} {tk : TA} (q : tk σ H fun zs H2 => zs.length = n ∧ ∀ x dx, H2 x = none → H2 dx = none → dx ≠ x → sp (gV [.ref x] zs) (upd (upd H2 dx (.own x)) x (.ins C dx [])) (fun v H3 => v = .non ∧ Q (.ref x) H3) fun cls d H2 => W cls d σ H2) : tMakeKS C n sp gV (WE W) tk σ H Q := q
/-! methods -/
def tMethSD (C : Addr) (m : Str) (sp : Sp) (dvs : List V) (E : L2.St → XK) (ta : TE) (t : TA) : TE := fun σ H Q => ta σ H fun x H1 => ∃ a dx fs, x = .ref a ∧ H1 a = some (.ins C dx fs) ∧ fs.lookup m = none ∧
  t σ H1 fun vs H2 => sp (x :: (vs ++ dvs)) H2 Q (E σ)
structure MetX (P : Program) (w : World) (K : PySem.W.Frag) (mg : Str → Option Value) (base : Heap) (k : Nat) (C : Addr) (m : Str) (sp : Sp) (dvs : List V) : Prop where
  ex : ∃ (f : Addr) (fd : FuncData) (ps : List Str) (ds : List Value), Cls K C ∧ Meth K C m f ∧ FnOk P w K mg base (L2.CX P w) k f fd ps sp ∧ Binds K fd ps ds ∧ Vals dvs ds
theorem pe_mtX {pl : Sem Bool} (c : MetX X.prog X.w X.K X.mg X.base k C m sp dvs) (hr : Room j X.A) (hk : k ≤ j) (tk : Takes X W) (he : PE X o ta) (ha : PA X (e :: es) t)
    (hst : starEach (e :: es) X.env = (false, eval e X.env) :: starEach es X.env := by rfl) (hpl : (backTo pos (starEach es X.env)).any (·.1) = false := by rfl)
    (ht : eval (.Call (.Attribute o m apos) (e :: es) [] pos) X.env = (do
      let ov ← eval o X.env
      standAt apos.atName
      let (f, first) ← holding [ov] (getMethod ov m pl)
      callWith pos f first (backTo pos (starEach (e :: es) X.env)) (backToKw pos (keywordEach [] X.env))) := by rfl) :
    PE X (.Call (.Attribute o m apos) (e :: es) [] pos) (tMethSD C m sp dvs (WE W) ta t) := by
  obtain ⟨f, fd, ps, ds, cl, hm, F, b, d⟩ := c.ex
  refine ⟨fun pins s σ H Q I h => ?_⟩
  refine PySem.W.methodCall_KW (pl := pl) (thn (he.run pins s σ H _ I h) fun u s1 ⟨x, H1, I1, rx, a, dx, fs, ex, ea, l, q⟩ => ?_) ht
  subst ex
  obtain rfl : u = Value.ref a := rx
  refine getmeth_ok I1 ea cl hm l ?_
  refine PySem.W.callWith_K (first := [.ref a]) (h₀ := X.base) I.ok.mod.kin hm.kp (thn (ha.run pos pins s1 σ H1 _ I1 q) fun us s2 ⟨vs, H2, I2, r, q2⟩ => ⟨I2.kIn, ?_⟩) hst hpl
  exact run_fnSD (us := .ref a :: us) (vs := .ref a :: vs) F (hr.mono hk) b d (passAt tk σ) I2 (.cons rfl r) q2
theorem pe_mtL {pl : Sem Bool} (c : MetX X.prog X.w X.K X.mg X.base k C m sp dvs) (hr : Room j X.A) (hk : k ≤ j) (he : PE X o ta) (ha : PA X (e :: es) t)
    (hst : starEach (e :: es) X.env = (false, eval e X.env) :: starEach es X.env := by rfl) (hpl : (backTo pos (starEach es X.env)).any (·.1) = false := by rfl)
    (ht : eval (.Call (.Attribute o m apos) (e :: es) [] pos) X.env = (do
      let ov ← eval o X.env
      standAt apos.atName
      let (f, first) ← holding [ov] (getMethod ov m pl)
      callWith pos f first (backTo pos (starEach (e :: es) X.env)) (backToKw pos (keywordEach [] X.env))) := by rfl) :
    PE X (.Call (.Attribute o m apos) (e :: es) [] pos) (tMeth C m sp dvs L2.E0 ta t) := by
  obtain ⟨f, fd, ps, ds, cl, hm, F, b, d⟩ := c.ex
  exact pe_meth he cl hm F (hr.mono hk) b d passL ha hst hpl ht
theorem w_methX {σ : L2.St} {H : Hp} {Q : VK} (q : ta σ H fun x H1 => ∃ a dx fs, x = .ref a ∧ H1 a = some (.ins C dx fs) ∧ fs.lookup m = none ∧ t σ H1 fun vs H2 => sp (x :: (vs ++ dvs)) H2 Q fun cls d H3 => W cls d σ H3) : tMethSD C m sp dvs (WE W) ta t σ H Q := q
end
/-! ### == and != by an own __eq__ -/
structure EqO (P : Program) (w : World) (K : PySem.W.Frag) (mg : Str → Option Value) (base : Heap) (k : Nat) (C : Addr) (sp : Sp) : Prop where
  ex : ∃ (f : Addr) (fd : FuncData) (ps : List Str), PySem.W.findIn K (.ref C) "__eq__" = some (some (.ref f)) ∧ PySem.W.isFn K (.ref f) = true ∧ PySem.W.findIn K (.ref C) "__ne__" = some (some (.builtin "object.__ne__")) ∧ PySem.W.mroIn K C (.type "object") = some true ∧ FnOk P w K mg base L2.CX0 k f fd ps sp ∧ Binds K fd ps []
def rEqO (K : PySem.W.Frag) (C : Addr) (sp : Sp) : R2 := fun x y H Q => ∃ a dx fs t, x = .ref a ∧ H a = some (.ins C dx fs) ∧ TyE K H y t ∧ PySem.W.notFirst K C t = true ∧ sp [x, y] H (fun v H' => ∃ b, v = .bl b ∧ Q (.bl b) H') L2.E0
def rNeO (K : PySem.W.Frag) (C : Addr) (sp : Sp) : R2 := fun x y H Q => ∃ a dx fs t, x = .ref a ∧ H a = some (.ins C dx fs) ∧ TyE K H y t ∧ PySem.W.notFirst K C t = true ∧ sp [x, y] H (fun v H' => ∃ b, v = .bl b ∧ Q (.bl (!b)) H') L2.E0
section
variable {M : Model} {prog : Program} {w : World} {A : Around} {E : Value → Shared → Prop} {s : Shared} {K : PySem.W.Frag} {x C f : Addr} {ox : Obj} {od : Option Obj} {b tb : Value}
theorem ifBound_objNe {args : List Value} {Q : Option Value → Shared → Prop} (X : K.In s.heap) (I : PySem.W.InstAt s.heap x ox C od) (hs : PySem.W.findIn K (.ref C) "__ne__" = some (some (.builtin "object.__ne__")))
    (h : wpAny M A (call (.builtin "object.__ne__") (.ref x :: args)) (fun v => Q (some v)) E s) : wpAny M A (callSpecialIfBound? (.ref x) "__ne__" args) Q E s := by
  simp only [callSpecialIfBound?, bindSpecialIfBound?]
  refine wpAny_holding (wpAny_bind (wpAny_bind (wpAny_bind (I.type.here ((PySem.W.looks_findIn X hs).here ?_)))))
  refine wpAny_bind (wpAny_askSetting (wpAny_ite ?_))
  have fin : wpAny M A (call (.builtin "object.__ne__") ([.ref x] ++ args) >>= fun v => pure (some v)) Q E s := wpAny_bind (wpAny_mono h (fun v s' h' => wpAny_pure h') fun _ _ h' => h')
  split
  · exact wpAny_bind (wpAny_of_eq (F.cmp_object.ne.bind _) (wpAny_pure (by exact fin)))
  · exact wpAny_tryCatch (wpAny_bind (wpAny_of_eq (F.cmp_object.ne.bind _) (wpAny_pure (by exact fin))))
theorem objNe_entry_K (X : K.In s.heap) (I : PySem.W.InstAt s.heap x ox C od) (hs : PySem.W.findIn K (.ref C) "__eq__" = some (some (.ref f))) (hf : PySem.W.isFn K (.ref f) = true) (hu : A.units < cLine) {Q : Fin → Shared → Prop}
    (hcall : wpAny (model prog w) A (call (.ref f) [.ref x, b]) (fun v s' => ∃ r, v = .bool r ∧ Q (.done (.ret (.bool (!r)))) s') E s) :
    wpAny (model prog w) A (Builtin.«object.__ne__» ⟨[.ref x, b], []⟩) Q E s := by
  unfold Builtin.«object.__ne__»
  repeat (first
    | with_reducible refine wpAny_cRoomFor hu ?_
    | (refine wpAny_bind (m := callSpecialIfBound? (.ref x) (Str.ofString "__eq__") [b])
        (PySem.W.ifBound_K X I hs hf (wpAny_mono hcall (fun r s' hr => by
          obtain ⟨b, rfl, hq⟩ := hr
          repeat (first | exact hq | exact wpAny_pure hq | exact wpAny_truthy_bool hq | (refine wpAny_bind (m := truthy (.bool _)) (wpAny_truthy_bool ?_)) | wp_step)) fun _ _ e => e)))
    | wp_step)
theorem ne_K {Q : Value → Shared → Prop} (hu : A.units + 1 < cLine) (X : K.In s.heap) (I : PySem.W.InstAt s.heap x ox C od) (hb : PySem.W.Looks (model prog w) s.heap (typeOf b) tb) (hn : PySem.W.notFirst K C tb = true)
    (hs : PySem.W.findIn K (.ref C) "__eq__" = some (some (.ref f))) (hf : PySem.W.isFn K (.ref f) = true) (hne : PySem.W.findIn K (.ref C) "__ne__" = some (some (.builtin "object.__ne__"))) (hm : PySem.W.mroIn K C (.type "object") = some true)
    (h : wpAny (model prog w) A.in1 (call (.ref f) [.ref x, b]) (fun v s' => ∃ r, v = .bool r ∧ Q (.bool (!r)) s') E s) : wpAny (model prog w) A (richCompare .NotEq (.ref x) b) Q E s := by
  have one : wpAny (model prog w) A (tryCompare (.ref x) (cmpInfo .NotEq).2.1 b) (fun r s' => ∃ v, r = some v ∧ Q v s') E s := by
    show wpAny (model prog w) A (tryCompare (.ref x) "__ne__" b) _ E s
    unfold tryCompare
    refine wpAny_bind (ifBound_objNe X I hne (wpAny_call (codeAny_call_builtin F.cmp_object.ne.plain F.cmpEntry_ne (PySem.W.check_slot F.cmpKind_ne F.cmpSplit_ne (I.type.andThen (PySem.W.looks_mroIn X hm)) (F.cmpArgs_ne _ _)
      (objNe_entry_K (A := A.in1) X I hs hf hu (wpAny_mono h (fun v s' hv => ?_) fun _ _ e => e))))))
    obtain ⟨r, rfl, hq⟩ := hv
    first | exact ⟨r, rfl, wpAny_pure ⟨_, rfl, hq⟩⟩ | exact ⟨r, rfl, wpAny_pure (wpAny_pure ⟨_, rfl, hq⟩)⟩ | exact ⟨r, rfl, _, rfl, hq⟩
  unfold richCompare
  simp only [oneThing_ref]
  refine wpAny_holding (wpAny_bind (wpAny_cRoomFor (Nat.lt_of_succ_lt hu) ?_))
  refine wpAny_bind (I.type.here (wpAny_bind (hb.here ?_)))
  split
  · rename_i q
    have e : PySem.W.subIn K tb (.ref C) = some false := by
      rcases Bool.or_eq_true_iff.mp hn with e | e
      · rw [beq_iff_eq.mp e] at q; simp at q
      · exact beq_iff_eq.mp e
    refine wpAny_bind ((PySem.W.looks_subIn X e).here ?_)
    simp only [Bool.false_eq_true, if_false]
    refine wpAny_bind (wpAny_mono one (fun r s' z => ?_) fun _ _ e => e)
    obtain ⟨v, rfl, hq⟩ := z
    exact wpAny_pure hq
  · refine wpAny_bind (wpAny_pure ?_)
    simp only [Bool.false_eq_true, if_false]
    refine wpAny_bind (wpAny_mono one (fun r s' z => ?_) fun _ _ e => e)
    obtain ⟨v, rfl, hq⟩ := z
    exact wpAny_pure hq
end
section
variable {X : Cx} {k j : Nat} {C : Addr} {sp : Sp}
theorem run_eqO {A : Around} {pins : List (Addr × Obj)} {σ : L2.St} {H : Hp} {s : Shared} {Q : VK} {f : Addr} {fd : FuncData} {ps : List Str} {a : Addr} {y : V} {u : Value} (F : FnOk X.prog X.w X.K X.mg X.base L2.CX0 k f fd ps sp) (hb : Binds X.K fd ps []) (hr : Room k A) (hfr : A.frames = X.A.frames) (I : Inv X pins σ H s) (ry : RelV y u)
    (h : sp [.ref a, y] H Q L2.E0) : wpAny (model X.prog X.w) A (call (.ref f) [.ref a, u]) (EP X pins σ Q) X.xe s := by
  have e0 : Env0 X.prog X.w X.K X.mg X.base A X.stack s H := by
    have e := I.env0
    exact ⟨by rw [hfr]; exact e.frames, e.mod, e.bs, e.bsz, e.funs, e.frf, e.hok, e.bare⟩
  have hl := F.len _ _ _ _ h
  have r2 : Vals [V.ref a, y] [Value.ref a, u] := .cons rfl (.cons ry .nil)
  refine wpAny_call (codeAny_mono (F.run A X.stack s H ⟨[.ref a, u], []⟩ [.ref a, u] [.ref a, y] Q L2.E0 hr e0 (by
    have := hb s [.ref a, u] I.kIn (by simpa using hl)
    simpa using this) r2 h) fun r s' hq => ?_)
  cases r with
  | error e => exact hq.elim
  | ok fl =>
    cases fl with
    | ret w => exact I.after hq
    | next => exact False.elim hq
    | brk => exact False.elim hq
    | cont => exact False.elim hq
theorem op_eqO (c : EqO X.prog X.w X.K X.mg X.base k C sp) (hr : Room j X.A) (hk : k ≤ j) : OpR X (compareOp .Eq) (rEqO X.K C sp) := by
  intro pins s σ H x y v u Q I rx ry h
  obtain ⟨f, fd, ps, hs, hf, _, _, F, b⟩ := c.ex
  obtain ⟨a, dx, fs, t, rfl, ha, ty, nf, q⟩ := h
  cases rx
  obtain ⟨mA, O, _⟩ := ins_get I.hok ha
  obtain ⟨od, J, _⟩ := O.look
  obtain ⟨m, hF⟩ := I.fr
  obtain ⟨P, kx, hp, _⟩ := kit_ofE I ry ty
  show wpAny (model X.prog X.w) X.A (richCompare .Eq (.ref a) u) (EP X pins σ Q) X.xe s
  refine PySem.W.cmp_K (op := .Eq) (tb := t) hr.units0 hF I.ok.mod.kin J (kx.ty _ _ I.kIn hp) nf hs hf ?_
  refine wpAny_mono (run_eqO F b (hr.mono hk) rfl I ry q) (fun v' s' hv => ?_) fun _ _ e => e
  obtain ⟨z, H', I', rz, r, ez, qz⟩ := hv
  subst ez
  cases rz
  exact ⟨.bl r, H', I', rfl, qz⟩
theorem op_neO (c : EqO X.prog X.w X.K X.mg X.base k C sp) (hr : Room j X.A) (hk : k + 1 ≤ j) : OpR X (compareOp .NotEq) (rNeO X.K C sp) := by
  intro pins s σ H x y v u Q I rx ry h
  obtain ⟨f, fd, ps, hs, hf, hne, hm, F, b⟩ := c.ex
  obtain ⟨a, dx, fs, t, rfl, ha, ty, nf, q⟩ := h
  cases rx
  obtain ⟨mA, O, _⟩ := ins_get I.hok ha
  obtain ⟨od, J, _⟩ := O.look
  obtain ⟨P, kx, hp, _⟩ := kit_ofE I ry ty
  show wpAny (model X.prog X.w) X.A (richCompare .NotEq (.ref a) u) (EP X pins σ Q) X.xe s
  refine ne_K (tb := t) (by have := hr.units; omega) I.kIn J (kx.ty _ _ I.kIn hp) nf hs hf hne hm ?_
  refine wpAny_mono (run_eqO F b (hr.mono hk).in1 rfl I ry q) (fun v' s' hv => ?_) fun _ _ e => e
  obtain ⟨z, H', I', rz, r, ez, qz⟩ := hv
  subst ez
  cases rz
  exact ⟨r, rfl, .bl (!r), H', I', rfl, qz⟩
end

end Bc
namespace Bc
open PySem PySem.Spec PyProof.Rows L2
/-! ### methods and instances called with keywords -/
section
variable {X : Cx} {k j n : Nat} {C : Addr} {m : Str} {sp : Sp} {ks : List Str} {gV : List V → List V → List V} {p pos apos : Pos} {o fe e : Expr} {es : List Expr} {kws : List Keyword} {ta tf : TE} {t tk : TA}
structure MetK (P : Program) (w : World) (K : PySem.W.Frag) (mg : Str → Option Value) (base : Heap) (k : Nat) (C : Addr) (m : Str) (n : Nat) (ks : List Str) (sp : Sp) (gV : List V → List V → List V) : Prop where
  ex : ∃ (f : Addr) (fd : FuncData) (ps : List Str) (g : List Value → List Value → List Value), Cls K C ∧ Meth K C m f ∧ FnOk P w K mg base L2.CX0 k f fd ps sp ∧ KBn K fd ps (n + 1) ks g gV
def tMethK (C : Addr) (m : Str) (n l : Nat) (sp : Sp) (gV : List V → List V → List V) (E : XK) (ta : TE) (t tk : TA) : TE := fun σ H Q => ta σ H fun x H1 => ∃ a dx fs, x = .ref a ∧ H1 a = some (.ins C dx fs) ∧ fs.lookup m = none ∧
  t σ H1 fun vs H2 => tk σ H2 fun zs H3 => vs.length = n ∧ zs.length = l ∧ sp (gV (x :: vs) zs) H3 Q E
theorem pe_mtK0 {pl : Sem Bool} (c : MetK X.prog X.w X.K X.mg X.base k C m 0 ks sp gV) (hr : Room j X.A) (hk : k ≤ j) (he : PE X o ta) (hkw : PK X kws tk)
    (hall : (backToKw pos (keywordEach kws X.env)).all (·.1.isSome) = true := by rfl) (hks : (backToKw pos (keywordEach kws X.env)).filterMap (·.1) = ks := by rfl)
    (hpl : ((backTo pos (starEach [] X.env)).any (·.1) || (backToKw pos (keywordEach kws X.env)).any (·.1.isNone)) = false := by rfl)
    (ht : eval (.Call (.Attribute o m apos) [] kws pos) X.env = (do
      let ov ← eval o X.env
      standAt apos.atName
      let (f, first) ← holding [ov] (getMethod ov m pl)
      callWith pos f first (backTo pos (starEach [] X.env)) (backToKw pos (keywordEach kws X.env))) := by rfl) :
    PE X (.Call (.Attribute o m apos) [] kws pos) (tMethK C m 0 ks.length sp gV L2.E0 ta tNil tk) := by
  obtain ⟨f, fd, ps, g, cl, hm, F, b⟩ := c.ex
  refine ⟨fun pins s σ H Q I h => ?_⟩
  refine PySem.W.methodCall_KW (pl := pl) (thn (he.run pins s σ H _ I h) fun u s1 ⟨x, H1, I1, rx, a, dx, fs, ex, ea, l, q⟩ => ?_) ht
  subst ex
  obtain rfl : u = Value.ref a := rx
  refine getmeth_ok I1 ea cl hm l ?_
  refine PySem.W.callWith_KW0 (first := [.ref a]) (h₀ := X.base) I.ok.mod.kin hm.kp hall ?_ hpl
  refine thn (hkw.run pos pins s1 σ H1 _ I1 q) fun ws s2 ⟨zs, H2, I2, rz, l1, l2, q2⟩ => ⟨I2.kIn, ?_⟩
  rw [hks]
  exact run_fnN (us := [.ref a]) (vs := [.ref a]) F (hr.mono hk) b pass0 I2 (.cons rfl .nil) rz rfl l2 q2
theorem pe_mtK {pl : Sem Bool} (c : MetK X.prog X.w X.K X.mg X.base k C m n ks sp gV) (hr : Room j X.A) (hk : k ≤ j) (he : PE X o ta) (ha : PA X (e :: es) t) (hkw : PK X kws tk)
    (hall : (backToKw pos (keywordEach kws X.env)).all (·.1.isSome) = true := by rfl) (hks : (backToKw pos (keywordEach kws X.env)).filterMap (·.1) = ks := by rfl)
    (hst : starEach (e :: es) X.env = (false, eval e X.env) :: starEach es X.env := by rfl)
    (hpl : ((backTo pos (starEach (e :: es) X.env)).any (·.1) || (backToKw pos (keywordEach kws X.env)).any (·.1.isNone)) = false := by rfl)
    (ht : eval (.Call (.Attribute o m apos) (e :: es) kws pos) X.env = (do
      let ov ← eval o X.env
      standAt apos.atName
      let (f, first) ← holding [ov] (getMethod ov m pl)
      callWith pos f first (backTo pos (starEach (e :: es) X.env)) (backToKw pos (keywordEach kws X.env))) := by rfl) :
    PE X (.Call (.Attribute o m apos) (e :: es) kws pos) (tMethK C m n ks.length sp gV L2.E0 ta t tk) := by
  obtain ⟨f, fd, ps, g, cl, hm, F, b⟩ := c.ex
  refine ⟨fun pins s σ H Q I h => ?_⟩
  refine PySem.W.methodCall_KW (pl := pl) (thn (he.run pins s σ H _ I h) fun u s1 ⟨x, H1, I1, rx, a, dx, fs, ex, ea, l, q⟩ => ?_) ht
  subst ex
  obtain rfl : u = Value.ref a := rx
  refine getmeth_ok I1 ea cl hm l ?_
  refine PySem.W.callWith_KW (first := [.ref a]) (h₀ := X.base) I.ok.mod.kin hm.kp hall (thn (ha.run pos pins s1 σ H1 _ I1 q) fun us s2 ⟨vs, H2, I2, r, q⟩ => ?_) hpl hst
  refine thn (hkw.run pos pins s2 σ H2 _ I2 q) fun ws s3 ⟨zs, H3, I3, rz, l1, l2, q3⟩ => ⟨I3.kIn, ?_⟩
  rw [hks]
  exact run_fnN (us := .ref a :: us) (vs := .ref a :: vs) F (hr.mono hk) b pass0 I3 (.cons rfl r) rz (by rw [List.length_cons, l1]) l2 q3
theorem w_methK {σ : L2.St} {H : Hp} {Q : VK} {l : Nat} {E : XK} (q : ta σ H fun x H1 => ∃ a dx fs, x = .ref a ∧ H1 a = some (.ins C dx fs) ∧ fs.lookup m = none ∧ t σ H1 fun vs H2 => tk σ H2 fun zs H3 => vs.length = n ∧ zs.length = l ∧ sp (gV (x :: vs) zs) H3 Q E) : tMethK C m n l sp gV E ta t tk σ H Q := q
/-! an instance called with keywords alone -/
structure CalOK (P : Program) (w : World) (K : PySem.W.Frag) (mg : Str → Option Value) (base : Heap) (k : Nat) (C : Addr) (ks : List Str) (sp : Sp) (gV : List V → List V → List V) : Prop where
  ex : ∃ (f : Addr) (fd : FuncData) (ps : List Str) (g : List Value → List Value → List Value), StX.CallO K C f ∧ FnOk P w K mg base L2.CX0 k f fd ps sp ∧ KBn K fd ps 1 ks g gV
theorem callO_kw {M : Model} {A : Around} {E : Value → Shared → Prop} {s : Shared} {a : Addr} {pos : Pos} {Q : Value → Shared → Prop} {args : List (Bool × Sem Value)} {kw : List (Option Str × Sem Value)} (hplain : (args.any (·.1) || kw.any (·.1.isNone)) = false)
    (h : wpAny M A (evalArgs (.ref a) true args kw) (fun z s₁ => (∃ C ox od, PySem.W.InstAt s₁.heap a ox C od ∧ ox.data = .plain) ∧ wpAny M A (call (.ref a) ([] ++ z.pos) z.kw) Q E s₁) E s) : wpAny M A (callWith pos (.ref a) [] args kw) Q E s := by
  unfold callWith
  refine wpAny_bind (wpAny_holding (wpAny_mono h (fun z s₁ h₁ => wpAny_bind (wpAny_standAt ?_)) fun _ _ y => y))
  obtain ⟨⟨C, ox, od, J, hd⟩, h₁⟩ := h₁
  have L := PySem.W.kco_keeper (M := M) J hd
  simp only [hplain]
  refine wpAny_bind (L.here ?_)
  have tail : ∀ {t : Sem Value}, wpAny M A t Q E s₁ → wpAny M A (t >>= fun r => holding [r] point >>= fun _ => pure r) Q E s₁ :=
    fun ht => wpAny_bind (wpAny_mono ht (fun r s₂ hr => wpAny_bind (wpAny_holding (wpAny_point (wpAny_pure hr)))) fun _ _ y => y)
  exact tail (wpAny_operateT h₁)
def tCOK (C : Addr) (l : Nat) (sp : Sp) (gV : List V → List V → List V) (E : XK) (tf : TE) (tk : TA) : TE := fun σ H Q => tf σ H fun y H1 => ∃ a, y = V.ref a ∧ tk σ H1 fun zs H2 => zs.length = l ∧ ((∃ dx vs, SlX.Slt H2 a C dx vs) ∨ ∃ dx fs, H2 a = some (.ins C dx fs)) ∧ sp (gV [V.ref a] zs) H2 Q E
theorem pe_cOK (hf : PE X fe tf) (c : CalOK X.prog X.w X.K X.mg X.base k C ks sp gV) (hr : Room j X.A) (hk : k ≤ j) (hkw : PK X kws tk)
    (ht : eval (.Call fe [] kws pos) X.env = (do callWith pos (← eval fe X.env) [] (backTo pos (starEach [] X.env)) (backToKw pos (keywordEach kws X.env))) := by rfl)
    (hall : (backToKw pos (keywordEach kws X.env)).all (·.1.isSome) = true := by rfl) (hks : (backToKw pos (keywordEach kws X.env)).filterMap (·.1) = ks := by rfl)
    (hpl : ((backTo pos (starEach [] X.env)).any (·.1) || (backToKw pos (keywordEach kws X.env)).any (·.1.isNone)) = false := by rfl) : PE X (.Call fe [] kws pos) (tCOK C ks.length sp gV L2.E0 tf tk) := by
  obtain ⟨f, fd, ps, g, cO, F, b⟩ := c.ex
  refine ⟨fun pins s σ H Q I h => ?_⟩
  rw [ht]
  refine wpAny_bind (thn (hf.run pins s σ H _ I h) fun u s1 ⟨y, H1, I1, ry, a, ey, q⟩ => ?_)
  subst ey
  obtain rfl : u = Value.ref a := ry
  refine callO_kw hpl (PyProof.Rows.evalArgs_kw2_nil hall (thn (hkw.run pos pins s1 σ H1 _ I1 q) fun ws s2 ⟨zs, H2, I2, rz, l2, hi, q2⟩ => ?_))
  obtain ⟨ox, od, J, hd⟩ := StX.insC_at I2 hi
  refine ⟨⟨C, ox, od, J, hd⟩, ?_⟩
  rw [hks]
  have r2 : Vals [V.ref a] [Value.ref a] := .cons rfl .nil
  refine wpAny_call (PySem.W.kco_code (a := ⟨[], ks.zip ws⟩) I2.kIn J hd cO.at_ cO.fn cO.fi (codeAny_mono (F.run X.A X.stack s2 H2 ⟨[.ref a], ks.zip ws⟩ (g [.ref a] ws) (gV [.ref a] zs) Q L2.E0 (hr.mono hk) I2.env0 (b.to s2 [.ref a] ws I2.kIn rfl (rz.length.symm.trans l2)) (b.rel r2 rz) q2) fun r s' hq => ?_))
  cases r with
  | error e => exact hq.elim
  | ok fl =>
    cases fl with
    | ret u => exact I2.after hq
    | next => exact False.elim hq
    | brk => exact False.elim hq
    | cont => exact False.elim hq
theorem w_cOK {σ : L2.St} {H : Hp} {Q : VK} {l : Nat} {E : XK} (q : tf σ H fun y H1 => ∃ a, y = V.ref a ∧ tk σ H1 fun zs H2 => zs.length = l ∧ ((∃ dx vs, SlX.Slt H2 a C dx vs) ∨ ∃ dx fs, H2 a = some (.ins C dx fs)) ∧ sp (gV [V.ref a] zs) H2 Q E) : tCOK C l sp gV E tf tk σ H Q := q
end
/-! ### own equality: moduli, markings, ways -/
def eqSty (y y' : Sty) : Bool := decide (y.low = y'.low) && (decide (y.shift = y'.shift) && decide (y.lead = y'.lead))
def spEqMd (K : PySem.W.Frag) (c : CA) : Sp := fun vs H Q _ => ∃ (a : Addr) (v : V) (ps : List (Int × Int)), vs = [.ref a, v] ∧ ModAt c H a ps ∧ ((∃ t, TyE K H v t ∧ PySem.W.kitOne K t (.ref c.md) = some false ∧ Q (.bl false) H) ∨ ∃ (b : Addr) (ps' : List (Int × Int)), v = .ref b ∧ ModAt c H b ps' ∧ Q (.bl (decide (num ps = num ps'))) H)
def spEqMk (K : PySem.W.Frag) (c : CA) : Sp := fun vs H Q _ => ∃ (a : Addr) (v : V) (y : Sty), vs = [.ref a, v] ∧ MkAt c H a y.low y.shift y.lead ∧ ((∃ t, TyE K H v t ∧ PySem.W.kitOne K t (.ref c.kg) = some false ∧ Q (.bl false) H) ∨ ∃ (b : Addr) (y' : Sty), v = .ref b ∧ MkAt c H b y'.low y'.shift y'.lead ∧ ∀ H', Same H H' → Q (.bl (eqSty y y')) H')
def eqWay (b n : Int) (y : Sty) (b' n' : Int) (y' : Sty) : Bool := decide (b = b') && decide (n = n') && eqSty y y'
def spEqWy (K : PySem.W.Frag) (c : CA) : Sp := fun vs H Q _ => ∃ (a : Addr) (v : V) (r : Int) (ps : List (Int × Int)) (y : Sty), vs = [.ref a, v] ∧ WayAt c H a r ps y ∧ ((∃ t, TyE K H v t ∧ PySem.W.kitOne K t (.ref c.wy) = some false ∧ Q (.bl false) H) ∨ ∃ (b : Addr) (r' : Int) (ps' : List (Int × Int)) (y' : Sty), v = .ref b ∧ WayAt c H b r' ps' y' ∧ ∀ H', Same H H' → Q (.bl (eqWay r (num ps) y r' (num ps') y')) H')
theorem notF {K : PySem.W.Frag} {C : Addr} : PySem.W.notFirst K C (.ref C) = true := by simp [PySem.W.notFirst]
theorem notF0 {K : PySem.W.Frag} {C : Addr} {t : Value} (h : PySem.W.subIn K t (.ref C) = some false) : PySem.W.notFirst K C t = true := by
  unfold PySem.W.notFirst
  rw [h]
  simp
section
variable {K : PySem.W.Frag} {mg : Str → Option Value} {c : CA} {H : Hp} {Q : VK} {a b : Addr} {ps ps' : List (Int × Int)} {y y' : Sty} {r r' : Int} {v : V} {t : Value}
theorem eqMd (X : Kx K mg c) (h1 : ModAt c H a ps) (h2 : ModAt c H b ps') (q : Q (.bl (decide (num ps = num ps'))) H) : rEqO K c.md (spEqMd K c) (.ref a) (.ref b) H Q := by
  obtain ⟨dx, tt, ts, hx, _⟩ := id h1
  obtain ⟨dx', tt', ts', hx', _⟩ := id h2
  exact ⟨a, dx, _, _, rfl, hx, .x (X.md.ty hx'), notF, a, .ref b, ps, rfl, h1, .inr ⟨b, ps', rfl, h2, _, rfl, q⟩⟩
theorem eqMdN (h1 : ModAt c H a ps) (ty : TyE K H v t) (nf : PySem.W.notFirst K c.md t = true) (hk : PySem.W.kitOne K t (.ref c.md) = some false) (q : Q (.bl false) H) : rEqO K c.md (spEqMd K c) (.ref a) v H Q := by
  obtain ⟨dx, tt, ts, hx, _⟩ := id h1
  exact ⟨a, dx, _, _, rfl, hx, ty, nf, a, v, ps, rfl, h1, .inl ⟨t, ty, hk, _, rfl, q⟩⟩
theorem neMd (X : Kx K mg c) (h1 : ModAt c H a ps) (h2 : ModAt c H b ps') (q : Q (.bl (!decide (num ps = num ps'))) H) : rNeO K c.md (spEqMd K c) (.ref a) (.ref b) H Q := by
  obtain ⟨dx, tt, ts, hx, _⟩ := id h1
  obtain ⟨dx', tt', ts', hx', _⟩ := id h2
  exact ⟨a, dx, _, _, rfl, hx, .x (X.md.ty hx'), notF, a, .ref b, ps, rfl, h1, .inr ⟨b, ps', rfl, h2, _, rfl, q⟩⟩
theorem eqMk (X : Kx K mg c) (h1 : MkAt c H a y.low y.shift y.lead) (h2 : MkAt c H b y'.low y'.shift y'.lead) (q : ∀ H', Same H H' → Q (.bl (eqSty y y')) H') : rEqO K c.kg (spEqMk K c) (.ref a) (.ref b) H Q := by
  obtain ⟨dx, hx⟩ := id h1
  obtain ⟨dx', hx'⟩ := id h2
  exact ⟨a, dx, _, _, rfl, hx, .x (X.kg.ty hx'), notF, a, .ref b, y, rfl, h1, .inr ⟨b, y', rfl, h2, fun H' s => ⟨_, rfl, q H' s⟩⟩⟩
theorem eqMkN (h1 : MkAt c H a y.low y.shift y.lead) (ty : TyE K H v t) (nf : PySem.W.notFirst K c.kg t = true) (hk : PySem.W.kitOne K t (.ref c.kg) = some false) (q : Q (.bl false) H) : rEqO K c.kg (spEqMk K c) (.ref a) v H Q := by
  obtain ⟨dx, hx⟩ := id h1
  exact ⟨a, dx, _, _, rfl, hx, ty, nf, a, v, y, rfl, h1, .inl ⟨t, ty, hk, _, rfl, q⟩⟩
theorem neMk (X : Kx K mg c) (h1 : MkAt c H a y.low y.shift y.lead) (h2 : MkAt c H b y'.low y'.shift y'.lead) (q : ∀ H', Same H H' → Q (.bl (!eqSty y y')) H') : rNeO K c.kg (spEqMk K c) (.ref a) (.ref b) H Q := by
  obtain ⟨dx, hx⟩ := id h1
  obtain ⟨dx', hx'⟩ := id h2
  exact ⟨a, dx, _, _, rfl, hx, .x (X.kg.ty hx'), notF, a, .ref b, y, rfl, h1, .inr ⟨b, y', rfl, h2, fun H' s => ⟨_, rfl, q H' s⟩⟩⟩
theorem eqWy (X : Kx K mg c) (h1 : WayAt c H a r ps y) (h2 : WayAt c H b r' ps' y') (q : ∀ H', Same H H' → Q (.bl (eqWay r (num ps) y r' (num ps') y')) H') : rEqO K c.wy (spEqWy K c) (.ref a) (.ref b) H Q := by
  obtain ⟨dx, m, k, hx, _⟩ := id h1
  obtain ⟨dx', m', k', hx', _⟩ := id h2
  exact ⟨a, dx, _, _, rfl, hx, .x (X.wy.ty hx'), notF, a, .ref b, r, ps, y, rfl, h1, .inr ⟨b, r', ps', y', rfl, h2, fun H' s => ⟨_, rfl, q H' s⟩⟩⟩
theorem eqWyN (h1 : WayAt c H a r ps y) (ty : TyE K H v t) (nf : PySem.W.notFirst K c.wy t = true) (hk : PySem.W.kitOne K t (.ref c.wy) = some false) (q : Q (.bl false) H) : rEqO K c.wy (spEqWy K c) (.ref a) v H Q := by
  obtain ⟨dx, m, k, hx, _⟩ := id h1
  exact ⟨a, dx, _, _, rfl, hx, ty, nf, a, v, r, ps, y, rfl, h1, .inl ⟨t, ty, hk, _, rfl, q⟩⟩
theorem neWy (X : Kx K mg c) (h1 : WayAt c H a r ps y) (h2 : WayAt c H b r' ps' y') (q : ∀ H', Same H H' → Q (.bl (!eqWay r (num ps) y r' (num ps') y')) H') : rNeO K c.wy (spEqWy K c) (.ref a) (.ref b) H Q := by
  obtain ⟨dx, m, k, hx, _⟩ := id h1
  obtain ⟨dx', m', k', hx', _⟩ := id h2
  exact ⟨a, dx, _, _, rfl, hx, .x (X.wy.ty hx'), notF, a, .ref b, r, ps, y, rfl, h1, .inr ⟨b, r', ps', y', rfl, h2, fun H' s => ⟨_, rfl, q H' s⟩⟩⟩
end
theorem shp_sty (l : Bool) (s : Int) (d : Bool) : SeqAt.shaped (.tuple [.bool l, .int s, .bool d]) = true := by
  show (PyData.canLay0 _ && decide _) = true
  rw [Bool.and_eq_true]
  refine ⟨?_, ?_⟩
  · simp only [PyData.canLay0, PyData.canLayAll0]
    decide +kernel
  · simp [PyData.depth, PyData.depthAll]
theorem shp_two (i j : Int) : SeqAt.shaped (.tuple [.int i, .int j]) = true := by
  show (PyData.canLay0 _ && decide _) = true
  rw [Bool.and_eq_true]
  refine ⟨?_, ?_⟩
  · simp only [PyData.canLay0, PyData.canLayAll0]
    decide +kernel
  · simp [PyData.depth, PyData.depthAll]
theorem eqv_sty (l : Bool) (s : Int) (d l' : Bool) (s' : Int) (d' : Bool) : PyData.eqv (.tuple [.bool l, .int s, .bool d]) (.tuple [.bool l', .int s', .bool d']) = (decide (l = l') && (decide (s = s') && decide (d = d'))) := by
  simp only [PyData.eqv, PyData.eqvAll]
  by_cases h : s = s' <;> cases l <;> cases l' <;> cases d <;> cases d' <;> simp [h]
theorem eqv_two (i j i' j' : Int) : PyData.eqv (.tuple [.int i, .int j]) (.tuple [.int i', .int j']) = (decide (i = i') && decide (j = j')) := by
  simp only [PyData.eqv, PyData.eqvAll]
  by_cases h : i = i' <;> by_cases h' : j = j' <;> simp [h, h']

end Bc
namespace Bc
open PySem PySem.Spec PyProof.Rows L2
/-! ### comprehensions by a relation -/
section
variable {J : It} {G : Hp → Prop} {te : TE} {vs : List Nat} {σ : L2.St} {H : Hp} {D : Addr} {Qd : Hp → Prop} {j : Nat}
/-- what is made of each item, by a relation that new things leave alone -/
theorem lc_rel (xs : List V) (R : V → V → Hp → Prop) (mono : ∀ x y G G', Same G G' → R x y G → R x y G') (w : Walk J xs.length G (YAt xs)) (hD : H D = none) (hG : ∀ H', Same H H' → G H') (sz : xs.length ≤ 100000)
    (wp : ∀ v, wipe ((wipe σ vs).set j v) vs = wipe σ vs)
    (step : ∀ (i : Nat) (x : V) (H' : Hp), xs[i]? = some x → Same H H' → (∃ acc, H' D = some (.lst acc)) → ∀ Q' : VK, (∀ (y : V) (H'' : Hp), Same H' H'' → R x y (rm D H'') → Q' y H'') → te ((wipe σ vs).set j (some x)) H' Q')
    (q : ∀ (H' : Hp) (ys : List V), Same H H' → H' D = some (.lst ys) → Paired (fun x y => R x y H') xs ys → Qd H') :
    ∃ W : Nat → Nat → Hp → Prop, (∃ m, W 0 m (upd H D (.lst []))) ∧ ∀ i m H, W i m H →
      (J.stop i H ∧ Qd H) ∨ (J.go i H ∧ ∃ Nx : Hp → Prop, (∀ H', Nx H' → ∃ m', m' < m ∧ W (i + 1) m' H') ∧ ∀ x H', J.yld i H x H' → gName j x (wipe σ vs) H' fun σ2 H2 => wipe σ2 vs = wipe σ vs ∧ tYes σ2 H2 fun b H3 =>
        if b = true then te σ2 H3 fun y H4 => ∃ acc, H4 D = some (.lst acc) ∧ acc.length < sizeLine ∧ Nx (upd H4 D (.lst (acc ++ [y]))) else Nx H3) := by
  refine lc_it w (fun i H' => ∃ ys : List V, Same H (rm D H') ∧ H' D = some (.lst ys) ∧ Paired (fun x y => R x y (rm D H')) (xs.take i) ys) ⟨[], ?_, upd_same, .nil⟩ (fun i H' _ h => by obtain ⟨_, k, _⟩ := h; exact hG H' (k.trans rm_le)) ?_ ?_
  · rw [rm_updS]
    exact rm_in hD (Same.refl _)
  · rintro i x H1 H' hi ⟨ys, h1, h3, h4⟩ ⟨rfl, hx⟩
    refine ⟨wp _, w_yes ?_⟩
    rw [if_pos rfl]
    have el := h4.length
    rw [List.length_take] at el
    refine step i x H' hx (h1.trans rm_le) ⟨_, h3⟩ _ fun y H2 s2 r => ?_
    have e : xs[i] = x := by rw [List.getElem?_eq_getElem hi] at hx; exact Option.some.inj hx
    refine ⟨ys, s2 _ _ h3, ?_, ys ++ [y], ?_, upd_same, ?_⟩
    · have : (100000 : Nat) < sizeLine := by decide
      omega
    · rw [rm_updS]
      exact h1.trans s2.rm
    · rw [rm_updS, List.take_succ_eq_append_getElem hi, e]
      exact Paired.snoc (paired_imp (fun _ _ z => mono _ _ _ _ s2.rm z) h4) r
  · rintro H' ⟨ys, h1, h3, h4⟩
    rw [List.take_length] at h4
    exact q H' ys (h1.trans rm_le) h3 (paired_imp (fun _ _ z => mono _ _ _ _ rm_le z) h4)
end

end Bc
namespace Bc
open PySem PySem.Spec PyProof.Rows L2
/-! ### lists with the same things in them, told to be equal -/
theorem alk_eq {K : PySem.W.Frag} {H : Hp} {n : Nat} : ∀ {xs : List V}, (∀ x ∈ xs, plainV x = true) → Paired (Alk K H n) xs xs
  | [], _ => .nil
  | x :: r, h => .cons (by cases n with | zero => exact ⟨rfl, h x List.mem_cons_self⟩ | succ n => exact .inl ⟨rfl, h x List.mem_cons_self⟩) (alk_eq fun z hz => h z (List.mem_cons_of_mem _ hz))
theorem alk_l {K : PySem.W.Frag} {H : Hp} {p q : Addr} {xs : List V} (h1 : H p = some (.lst xs)) (h2 : H q = some (.lst xs)) (h : ∀ x ∈ xs, plainV x = true) : Alk K H 1 (.ref p) (.ref q) := .inr ⟨p, q, xs, xs, rfl, rfl, sq h1, sq h2, alk_eq h⟩
theorem w_neA {K : PySem.W.Frag} {H : Hp} {p q : Addr} {xs ys : List V} {Q : VK} (h1 : H p = some (.lst xs)) (h2 : H q = some (.lst ys)) (h : Paired (Alk K H 1) xs ys) (k : Q (.bl false) H) : rNeA K (.ref p) (.ref q) H Q := ⟨1, p, q, xs, ys, rfl, rfl, by decide, sq h1, sq h2, h, k⟩
theorem w_eqA {K : PySem.W.Frag} {H : Hp} {p q : Addr} {xs ys : List V} {Q : VK} (h1 : H p = some (.lst xs)) (h2 : H q = some (.lst ys)) (h : Paired (Alk K H 1) xs ys) (k : Q (.bl true) H) : rEqA K (.ref p) (.ref q) H Q := ⟨1, p, q, xs, ys, rfl, rfl, by decide, sq h1, sq h2, h, k⟩
theorem paired_rep {α β : Type} {R : α → β → Prop} {y : β} : ∀ {xs : List α}, (∀ x ∈ xs, R x y) → Paired R xs (List.replicate xs.length y)
  | [], _ => .nil
  | x :: r, h => .cons (h x List.mem_cons_self) (paired_rep fun z hz => h z (List.mem_cons_of_mem _ hz))
theorem paired_mem {α β : Type} {R : α → β → Prop} : ∀ {xs : List α} {ys : List β} {y : β}, Paired R xs ys → y ∈ ys → ∃ x, R x y
  | _, _, _, .cons r t, h => by
    rcases List.mem_cons.mp h with e | e
    · exact ⟨_, e ▸ r⟩
    · exact paired_mem t e

end Bc
namespace Bc
open PySem PySem.Spec PyProof.Rows L2
/-! ### dict of a tuple of pairs -/
theorem pairs_ofV {X : Cx} {pins : List (Addr × Obj)} {σ : L2.St} {H : Hp} {s : Shared} (I : Inv X pins σ H s) : ∀ {ps : List Addr} {kvs : List (Key × V)}, Paired (fun p kv => SqT X.K H p [kV kv.1, kv.2]) ps kvs →
    ∃ (prs : List (Key × Value)) (qs : List (Value × Value)), KV kvs prs ∧ prs.length = ps.length ∧ qs.length = ps.length ∧ ∀ (j : Nat) (k v : Value), qs[j]? = some (k, v) → ∃ (b : Addr) (key : Key), ps[j]? = some b ∧ IsTup s.heap b #[k, v] ∧ prs[j]? = some (key, v) ∧ (mixKind X.prog X.w).is key k = true
  | _, _, .nil => ⟨[], [], .nil, rfl, rfl, fun j k v e => by simp at e⟩
  | _, _, .cons (a := p) (b := kv) h t => by
    obtain ⟨prs, qs, r, hl, hl2, hp⟩ := pairs_ofV I t
    obtain ⟨its, rv, ht, _⟩ := I.tuple h
    obtain ⟨u, y, ei, ru, ry⟩ := vals2 rv
    subst ei
    refine ⟨(kv.1, y) :: prs, (u, y) :: qs, .cons ⟨rfl, ry⟩ r, by rw [List.length_cons, List.length_cons, hl], by rw [List.length_cons, List.length_cons, hl2], fun j k v e => ?_⟩
    cases j with
    | zero =>
      have e' : (u, y) = (k, v) := Option.some.inj e
      cases e'
      exact ⟨p, kv.1, rfl, ht, rfl, kV_is (P := X.prog) (w := X.w) ru⟩
    | succ j =>
      obtain ⟨b, key, e1, e2, e3, e4⟩ := hp j k v (by simpa using e)
      exact ⟨b, key, by simpa using e1, e2, by simpa using e3, e4⟩
theorem call_dictF {X : Cx} (hcalm : X.calm = true) : CallR X (.type "dict") (fun xs H Q => ∃ (a : Addr) (ps : List Addr) (kvs : List (Key × V)), xs = [.ref a] ∧ TupF H a (ps.map V.ref) ∧ Paired (fun p kv => SqT X.K H p [kV kv.1, kv.2]) ps kvs ∧
    ∀ p, H p = none → Q (.ref p) (upd H p (.dK (mergeK [] kvs)))) := by
  intro pins s σ H xs us Q I r q
  obtain ⟨a, ps, kvs, ex, ⟨o, hdn, hq⟩, hp, q⟩ := q
  subst ex
  obtain ⟨u, eu, rx⟩ := vals1 r
  subst eu
  cases rx
  obtain ⟨ho, hz, its, rv, ⟨o', ho', hc, n, hdat⟩⟩ := (show ObjOk X.prog X.w H s.heap a (.frz o (.tup (ps.map V.ref))) from I.hok _ _ hq)
  rw [ho] at ho'
  cases ho'
  have ei := refs_at rv
  subst ei
  rw [List.length_map] at hz
  obtain ⟨prs, qs, rel, hl, hl2, hpr⟩ := pairs_ofV I hp
  have P := PairArg.tuple (prog := X.prog) (w := X.w) a (ps.map Value.ref).toArray (fun j => ps[j]?.getD a) qs
  have ok : PlainSeq "tuple" s.heap a (ps.map Value.ref).toArray ∧ PairItems s.heap (ps.map Value.ref).toArray (fun j => ps[j]?.getD a) qs := ⟨⟨o, n, ho, hc, hdn, hdat⟩, by simp [hl2], fun j k v e => by
    obtain ⟨b, key, e1, e2, e3, e4⟩ := hpr j k v e
    exact ⟨by simp [e1], .inl (by simp only [e1, Option.getD_some]; exact e2)⟩⟩
  have hcc : PairsHave (mixKind X.prog X.w) qs.length (PairRel qs) prs := ⟨by rw [hl, hl2], fun j k v e => by
    obtain ⟨b, key, e1, e2, e3, e4⟩ := hpr j k v e
    exact ⟨key, e3, e4⟩⟩
  refine PySem.call_dict_pairs P (I.ok.hd hcalm) ok hcc (by rw [hl2]; exact hz) fun h' tk hd' k => ?_
  · have hm : (s.heap.objs.size == sysModules) = false := beq_eq_false_iff_ne.mpr (Nat.ne_of_gt I.big)
    have hlen : (mergeK [] kvs).length ≤ sizeLine := by
      refine Nat.le_trans (length_mergeK kvs []) ?_
      rw [List.length_nil, Nat.zero_add, rel.length, hl]
      exact hz
    exact ⟨.ref s.heap.objs.size, upd H s.heap.objs.size (.dK (mergeK [] kvs)), I.laid (t' := tk) (fun b o e => k b o (by simp) e) (Nat.le_refl _) (show ObjOk X.prog X.w _ _ _ (.dK (mergeK [] kvs)) from ⟨hlen, hm, merged [] prs, KV.merge rel .nil, hd'⟩), rfl, q _ (I.hok.fresh (Nat.le_refl _))⟩
theorem u66 {k : Nat} {A : Around} (r : Room k A) : A.units + 1 < cLine := by
  have := r.un
  omega
/-! ### two numbers joined -/
def ledM (n m : Int) : Int := n / (Int.gcd n m : Int) * m
/-- what led_together tells of rests: none, or the one rest below the least common multiple -/
def OkLed (r n r' n' : Int) : Option Int → Prop
  | none => ¬ (r' - r) % (Int.gcd n n' : Int) = 0
  | some z => (r' - r) % (Int.gcd n n' : Int) = 0 ∧ 0 ≤ z ∧ z < ledM n n' ∧ n ∣ z - r ∧ n' ∣ z - r'
theorem gcd_pos' {n m : Int} (hn : 0 < n) : 0 < (Int.gcd n m : Int) := by
  have : Int.gcd n m ≠ 0 := fun z => by
    have := (Int.gcd_eq_zero_iff.mp z).1
    omega
  omega
theorem ledM_eq {n m : Int} (hn : 0 < n) (hm : 0 < m) : ∃ a b : Int, n = Int.gcd n m * a ∧ m = Int.gcd n m * b ∧ 0 < a ∧ 0 < b ∧ n / (Int.gcd n m : Int) = a ∧ m / (Int.gcd n m : Int) = b ∧ ledM n m = a * m ∧ ledM n m = n * b ∧ 0 < ledM n m := by
  have g0 := gcd_pos' (m := m) hn
  obtain ⟨a, ha⟩ := Int.gcd_dvd_left (a := n) (b := m)
  obtain ⟨b, hb⟩ := Int.gcd_dvd_right (a := n) (b := m)
  unfold ledM
  generalize (Int.gcd n m : Int) = g at *
  have a0 : 0 < a := by
    rcases Int.lt_or_le 0 a with h | h
    · exact h
    · have := Int.mul_le_mul_of_nonneg_left h (Int.le_of_lt g0)
      rw [Int.mul_zero, ← ha] at this
      omega
  have b0 : 0 < b := by
    rcases Int.lt_or_le 0 b with h | h
    · exact h
    · have := Int.mul_le_mul_of_nonneg_left h (Int.le_of_lt g0)
      rw [Int.mul_zero, ← hb] at this
      omega
  have e1 : n / g = a := by rw [ha]; exact Int.mul_ediv_cancel_left _ (by omega)
  have e2 : m / g = b := by rw [hb]; exact Int.mul_ediv_cancel_left _ (by omega)
  refine ⟨a, b, ha, hb, a0, b0, e1, e2, by rw [e1], ?_, ?_⟩
  · rw [e1, hb, ha, ← Int.mul_assoc, Int.mul_comm a g]
  · rw [e1]
    exact Int.mul_pos a0 hm
theorem led_cop {n m : Int} (hn : 0 < n) (hm : 0 < m) : Int.gcd (n / (Int.gcd n m : Int)) (m / (Int.gcd n m : Int)) = 1 := by
  have g0 := gcd_pos' (m := m) hn
  rw [Int.gcd_ediv (Int.gcd_dvd_left ..) (Int.gcd_dvd_right ..), Int.natAbs_natCast]
  exact Nat.div_self (by omega)
theorem led_least {n m x : Int} (hn : 0 < n) (hm : 0 < m) (h1 : n ∣ x) (h2 : m ∣ x) : ledM n m ∣ x := by
  obtain ⟨a, b, ha, hb, a0, b0, e1, e2, e3, e4, _⟩ := ledM_eq hn hm
  have hc := led_cop hn hm
  rw [e1, e2] at hc
  have g0 := gcd_pos' (m := m) hn
  generalize (Int.gcd n m : Int) = g at *
  obtain ⟨u, hu⟩ := h1
  have h3 : b ∣ a * u := by
    obtain ⟨v, hv⟩ := h2
    refine ⟨v, ?_⟩
    have : g * (a * u) = g * (b * v) := by rw [← Int.mul_assoc, ← Int.mul_assoc, ← ha, ← hb, ← hu, ← hv]
    exact Int.eq_of_mul_eq_mul_left (by omega) this
  have h4 : b ∣ u := by
    rw [← Int.natAbs_dvd_natAbs, Int.natAbs_mul] at h3
    exact Int.natAbs_dvd_natAbs.mp (Nat.Coprime.dvd_of_dvd_mul_left (show Nat.Coprime b.natAbs a.natAbs from (Nat.gcd_comm _ _).trans hc) h3)
  obtain ⟨w, hw⟩ := h4
  exact ⟨w, by rw [hu, hw, e4, Int.mul_assoc]⟩
theorem led_ok {r n r' n' i d : Int} (hn : 0 < n) (hn' : 0 < n') (h : (r' - r) % (Int.gcd n n' : Int) = 0) (hi : n / (Int.gcd n n' : Int) * i % (n' / (Int.gcd n n' : Int)) = 1 % (n' / (Int.gcd n n' : Int))) (hd : d = (r' - r) / (Int.gcd n n' : Int)) :
    OkLed r n r' n' (some ((r + n * (d * i)) % ledM n n')) := by
  obtain ⟨a, b, ha, hb, a0, b0, e1, e2, e3, e4, hL⟩ := ledM_eq hn hn'
  have g0 := gcd_pos' (m := n') hn
  refine ⟨h, Int.emod_nonneg _ (by omega), Int.emod_lt_of_pos _ hL, ?_, ?_⟩
  · have : ledM n n' ∣ (r + n * (d * i)) % ledM n n' - (r + n * (d * i)) := ⟨-((r + n * (d * i)) / ledM n n'), by have := Int.mul_ediv_add_emod (r + n * (d * i)) (ledM n n'); rw [Int.mul_neg]; omega⟩
    have h1 := Int.dvd_trans ⟨b, e4⟩ this
    have h2 := Int.dvd_add h1 (Int.dvd_mul_right n (d * i))
    rwa [show (r + n * (d * i)) % ledM n n' - (r + n * (d * i)) + n * (d * i) = (r + n * (d * i)) % ledM n n' - r by omega] at h2
  · have : ledM n n' ∣ (r + n * (d * i)) % ledM n n' - (r + n * (d * i)) := ⟨-((r + n * (d * i)) / ledM n n'), by have := Int.mul_ediv_add_emod (r + n * (d * i)) (ledM n n'); rw [Int.mul_neg]; omega⟩
    have h1 := Int.dvd_trans ⟨a, by rw [e3, Int.mul_comm]⟩ this
    have hr : r' - r = (Int.gcd n n' : Int) * d := by rw [hd, Int.mul_ediv_cancel' (Int.dvd_of_emod_eq_zero h)]
    rw [e1, e2] at hi
    have hk : b ∣ a * i - 1 := Int.dvd_of_emod_eq_zero (Int.emod_eq_emod_iff_emod_sub_eq_zero.mp hi)
    obtain ⟨k, hk⟩ := hk
    have h2 : n' ∣ r + n * (d * i) - r' := by
      refine ⟨d * k, ?_⟩
      have e : n * (d * i) = (Int.gcd n n' : Int) * d * (a * i) := by
        conv => lhs; rw [ha]
        simp only [Int.mul_assoc, Int.mul_left_comm, Int.mul_comm]
      have e5 : n' * (d * k) = (Int.gcd n n' : Int) * d * (b * k) := by
        conv => lhs; rw [hb]
        simp only [Int.mul_assoc, Int.mul_left_comm, Int.mul_comm]
      rw [e, e5, ← hk, Int.mul_sub, Int.mul_one, ← hr]
      omega
    have h3 := Int.dvd_add h1 h2
    rwa [show (r + n * (d * i)) % ledM n n' - (r + n * (d * i)) + (r + n * (d * i) - r') = (r + n * (d * i)) % ledM n n' - r' by omega] at h3
theorem led_uniq {n n' z z' M : Int} (hn : 0 < n) (hn' : 0 < n') (hM : M = ledM n n') (h1 : n ∣ z - z') (h2 : n' ∣ z - z') (a : 0 ≤ z) (b : z < M) (a' : 0 ≤ z') (b' : z' < M) : z = z' := by
  have h := led_least hn hn' h1 h2
  rw [← hM] at h
  have e := Int.emod_eq_emod_iff_emod_sub_eq_zero.mpr (Int.emod_eq_zero_of_dvd h)
  rwa [Int.emod_eq_of_lt a b, Int.emod_eq_of_lt a' b'] at e
theorem ledM_comm {n m : Int} (hn : 0 < n) (hm : 0 < m) : ledM n m = ledM m n := by
  obtain ⟨a, b, ha, hb, a0, b0, e1, e2, e3, e4, _⟩ := ledM_eq hn hm
  obtain ⟨a', b', ha', hb', a0', b0', e1', e2', e3', e4', _⟩ := ledM_eq hm hn
  rw [e3, e4', ← e1, ← e2', Int.gcd_comm m n, Int.mul_comm]
theorem ledM_self {n : Int} (hn : 0 < n) : ledM n n = n := by
  unfold ledM
  rw [Int.gcd_self, Int.natAbs_of_nonneg (by omega), Int.ediv_self (by omega), Int.one_mul]
theorem OkLed.symm {r n r' n' z z' : Int} (hn : 0 < n) (hn' : 0 < n') (h : OkLed r n r' n' (some z)) (h' : OkLed r' n' r n (some z')) : z' = z := by
  obtain ⟨_, a, b, c, d⟩ := h
  obtain ⟨_, a', b', c', d'⟩ := h'
  rw [ledM_comm hn' hn] at b'
  exact led_uniq hn hn' rfl (by have := Int.dvd_sub d' c; rwa [show z' - r - (z - r) = z' - z by omega] at this) (by have := Int.dvd_sub c' d; rwa [show z' - r' - (z - r') = z' - z by omega] at this) a' b' a b
theorem OkLed.self {r n z : Int} (hn : 0 < n) (h0 : 0 ≤ r) (h1 : r < n) (h : OkLed r n r n (some z)) : z = r := by
  obtain ⟨_, a, b, c, d⟩ := h
  rw [ledM_self hn] at b
  exact led_uniq hn hn (ledM_self hn).symm c c a b h0 h1
theorem led_flip {r r' : Int} {n n' : Int} : (r' - r) % (Int.gcd n n' : Int) = 0 ↔ (r - r') % (Int.gcd n n' : Int) = 0 := by
  rw [← Int.neg_sub r r']
  constructor
  · exact fun h => Int.emod_eq_zero_of_dvd (by have := Int.dvd_neg.mpr (Int.dvd_of_emod_eq_zero h); rwa [Int.neg_neg] at this)
  · exact fun h => Int.emod_eq_zero_of_dvd (Int.dvd_neg.mpr (Int.dvd_of_emod_eq_zero h))
/-! ### factors joined -/
theorem dvd_of_num : ∀ {l : Int} {ps : List (Int × Int)} {x : Int}, 0 ≤ l → Asc l ps → (∀ q ∈ ps, q.1 ^ q.2.toNat ∣ x) → num ps ∣ x
  | _, [], x, _, _, _ => Int.one_dvd x
  | l, q :: r, x, h0, a, h => by
    have h1 := a.1
    have hr := dvd_of_num (l := q.1) (by omega) a.2.2.2 fun q' hq => h q' (List.mem_cons_of_mem _ hq)
    have hq := h q (List.mem_cons_self ..)
    rw [num_cons]
    have hc : Nat.Coprime (q.1.natAbs ^ q.2.toNat) (numN r) := cop_num a.2.2.1 _ (Asc.lt a.2.2.2)
    have e1 : (q.1 ^ q.2.toNat).natAbs = q.1.natAbs ^ q.2.toNat := Int.natAbs_pow _ _
    have e2 : (num r).natAbs = numN r := by rw [num_cast (l := q.1) (by omega) a.2.2.2, Int.natAbs_natCast]
    rw [← Int.natAbs_dvd_natAbs, Int.natAbs_mul, e1, e2]
    exact Nat.Coprime.mul_dvd_of_dvd_of_dvd hc (by rw [← e1]; exact Int.natAbs_dvd_natAbs.mpr hq) (by rw [← e2]; exact Int.natAbs_dvd_natAbs.mpr hr)
theorem num_of : ∀ {ps : List (Int × Int)} {q : Int × Int}, q ∈ ps → q.1 ^ q.2.toNat ∣ num ps
  | r :: ps, q, h => by
    rw [num_cons]
    rcases List.mem_cons.mp h with e | e
    · rw [e]
      exact Int.dvd_mul_right _ _
    · exact Int.dvd_trans (num_of e) (Int.dvd_mul_left _ _)
def putE (es : List (Int × Int)) (p k : Int) : List (Int × Int) := if (es.any fun q => decide (q.1 = p)) = true then es.map (fun q => if q.1 = p then (q.1, k) else q) else es ++ [(p, k)]
def look (es : List (Int × Int)) (p : Int) : Int := ((es.find? fun q => decide (q.1 = p)).map (·.2)).getD 0
def toK (es : List (Int × Int)) : List (Key × V) := es.map fun q => ((.inl q.1 : Key), V.int q.2)
theorem any_toK (p : Int) : ∀ es : List (Int × Int), ((toK es).any fun kv => decide (kv.1 = (.inl p : Key))) = es.any fun q => decide (q.1 = p)
  | [] => rfl
  | q :: r => by
    show (decide ((.inl q.1 : Key) = .inl p) || (toK r).any _) = (decide (q.1 = p) || r.any _)
    rw [any_toK p r]
    congr 1
    exact decide_eq_decide.mpr ⟨fun h => by cases h; rfl, fun h => by rw [h]⟩
theorem putK_toK (es : List (Int × Int)) (p k : Int) : putK (toK es) (.inl p) (.int k) = toK (putE es p k) := by
  unfold putK putE
  rw [any_toK]
  split
  · unfold toK
    rw [List.map_map, List.map_map]
    refine List.map_congr_left fun q _ => ?_
    show (if (Sum.inl q.1 : Key) = .inl p then _ else _) = _
    by_cases e : q.1 = p
    · rw [if_pos (by rw [e])]
      show _ = ((.inl (if q.1 = p then (q.1, k) else q).1 : Key), V.int (if q.1 = p then (q.1, k) else q).2)
      rw [if_pos e]
    · rw [if_neg (fun z => e (by cases z; rfl))]
      show _ = ((.inl (if q.1 = p then (q.1, k) else q).1 : Key), V.int (if q.1 = p then (q.1, k) else q).2)
      rw [if_neg e]
  · unfold toK
    rw [List.map_append]
    rfl
theorem val_toK (p : Int) : ∀ es : List (Int × Int), (valV (toK es) (.inl p)).getD (.int 0) = .int (look es p) ∧ ((valV (toK es) (.inl p)).isSome = es.any fun q => decide (q.1 = p))
  | [] => ⟨rfl, rfl⟩
  | q :: r => by
    have ih := val_toK p r
    by_cases e : q.1 = p
    · rw [show toK (q :: r) = ((.inl q.1 : Key), V.int q.2) :: toK r from rfl, valV_pos (by rw [e])]
      unfold look
      rw [List.find?_cons, decide_eq_true e, List.any_cons, decide_eq_true e]
      exact ⟨rfl, rfl⟩
    · rw [show toK (q :: r) = ((.inl q.1 : Key), V.int q.2) :: toK r from rfl, valV_neg (show ¬ (Sum.inl q.1 : Key) = .inl p from fun z => e (by cases z; rfl))]
      unfold look at ih ⊢
      rw [List.find?_cons, decide_eq_false e, List.any_cons, decide_eq_false e]
      exact ih
theorem look_mem : ∀ {es : List (Int × Int)} {q : Int × Int}, (es.map (·.1)).Nodup → q ∈ es → look es q.1 = q.2
  | r :: es, q, hn, h => by
    rw [List.map_cons, List.nodup_cons] at hn
    unfold look
    rw [List.find?_cons]
    rcases List.mem_cons.mp h with e | e
    · rw [e, decide_eq_true rfl]
      rfl
    · have ne : ¬ r.1 = q.1 := fun z => hn.1 (by rw [z]; exact List.mem_map_of_mem e)
      rw [decide_eq_false ne]
      exact look_mem hn.2 e
theorem look_zero {es : List (Int × Int)} {p : Int} (h : ∀ q ∈ es, q.1 ≠ p) : look es p = 0 := by
  unfold look
  rw [List.find?_eq_none.mpr fun q hq => by simpa using h q hq]
  rfl
/-- the pairs while the other's factors go in -/
structure Mg (ps seen es : List (Int × Int)) : Prop where
  nd : (es.map (·.1)).Nodup
  fr : ∀ q ∈ es, q ∈ ps ∨ q ∈ seen
  up : ∀ q, q ∈ ps ∨ q ∈ seen → ∃ e, q.2 ≤ e ∧ (q.1, e) ∈ es
  ln : es.length ≤ ps.length + seen.length
theorem asc_nd : ∀ {l : Int} {ps : List (Int × Int)}, Asc l ps → (ps.map (·.1)).Nodup
  | _, [], _ => List.nodup_nil
  | l, q :: r, a => by
    rw [List.map_cons, List.nodup_cons]
    refine ⟨fun h => ?_, asc_nd a.2.2.2⟩
    obtain ⟨z, hz, e⟩ := List.mem_map.mp h
    have := (Asc.lt a.2.2.2 z hz).1
    omega
theorem Mg.start {l : Int} {ps : List (Int × Int)} (a : Asc l ps) : Mg ps [] ps :=
  ⟨asc_nd a, fun q h => .inl h, fun q h => ⟨q.2, Int.le_refl _, h.elim id fun z => by cases z⟩, by simp⟩
theorem Mg.step {ps seen es : List (Int × Int)} {q : Int × Int} (hq0 : 0 < q.2) (M : Mg ps seen es) : Mg ps (seen ++ [q]) (if q.2 > look es q.1 then putE es q.1 q.2 else es) := by
  split
  · rename_i hgt
    unfold putE
    by_cases hin : (es.any fun r => decide (r.1 = q.1)) = true
    · rw [if_pos hin]
      refine ⟨?_, ?_, ?_, ?_⟩
      · rw [List.map_map]
        rw [show List.map ((fun x : Int × Int => x.1) ∘ fun r => if r.1 = q.1 then (r.1, q.2) else r) es = es.map (·.1) from List.map_congr_left fun r _ => by
          show (if r.1 = q.1 then (r.1, q.2) else r).1 = r.1
          split <;> rfl]
        exact M.nd
      · intro r hr
        obtain ⟨z, hz, e⟩ := List.mem_map.mp hr
        split at e
        · rename_i e1
          right
          rw [← e, e1]
          exact List.mem_append_right _ (List.mem_singleton.mpr rfl)
        · rw [← e]
          exact (M.fr z hz).imp id (List.mem_append_left _)
      · intro r hr
        by_cases e1 : r.1 = q.1
        · obtain ⟨z, hz, ez⟩ := List.any_eq_true.mp hin
          have ez : z.1 = q.1 := of_decide_eq_true ez
          refine ⟨q.2, ?_, List.mem_map.mpr ⟨z, hz, by rw [if_pos ez, ez, e1]⟩⟩
          rcases hr with hr | hr
          · obtain ⟨e, he, hm⟩ := M.up r (.inl hr)
            have := look_mem M.nd hm
            rw [show (r.1, e).1 = q.1 from e1] at this
            have : look es q.1 = e := this
            omega
          · rcases List.mem_append.mp hr with hr | hr
            · obtain ⟨e, he, hm⟩ := M.up r (.inr hr)
              have := look_mem M.nd hm
              rw [show (r.1, e).1 = q.1 from e1] at this
              have : look es q.1 = e := this
              omega
            · rw [List.mem_singleton.mp hr]
              exact Int.le_refl _
        · have hr' : r ∈ ps ∨ r ∈ seen := hr.imp id fun h => by
            rcases List.mem_append.mp h with h | h
            · exact h
            · exact absurd (by rw [List.mem_singleton.mp h]) e1
          obtain ⟨e, he, hm⟩ := M.up r hr'
          exact ⟨e, he, List.mem_map.mpr ⟨_, hm, by rw [if_neg e1]⟩⟩
      · rw [List.length_map, List.length_append]
        have := M.ln
        simp only [List.length_cons, List.length_nil]
        omega
    · rw [if_neg hin]
      have hno : ∀ r ∈ es, r.1 ≠ q.1 := fun r hr e => hin (List.any_eq_true.mpr ⟨r, hr, decide_eq_true e⟩)
      refine ⟨?_, ?_, ?_, ?_⟩
      · rw [List.map_append, List.nodup_append]
        refine ⟨M.nd, List.nodup_cons.mpr ⟨by simp, List.nodup_nil⟩, fun x hx y hy => ?_⟩
        obtain ⟨r, hr, e⟩ := List.mem_map.mp hx
        simp only [List.map_cons, List.map_nil, List.mem_singleton] at hy
        rw [← e, hy]
        exact hno r hr
      · intro r hr
        rcases List.mem_append.mp hr with hr | hr
        · exact (M.fr r hr).imp id (List.mem_append_left _)
        · right
          rw [List.mem_singleton.mp hr]
          exact List.mem_append_right _ (List.mem_singleton.mpr rfl)
      · intro r hr
        have hr' : (r ∈ ps ∨ r ∈ seen) ∨ r = q := by
          rcases hr with hr | hr
          · exact .inl (.inl hr)
          · rcases List.mem_append.mp hr with hr | hr
            · exact .inl (.inr hr)
            · exact .inr (List.mem_singleton.mp hr)
        rcases hr' with hr' | hr'
        · obtain ⟨e, he, hm⟩ := M.up r hr'
          exact ⟨e, he, List.mem_append_left _ hm⟩
        · rw [hr']
          exact ⟨q.2, Int.le_refl _, List.mem_append_right _ (List.mem_singleton.mpr rfl)⟩
      · rw [List.length_append, List.length_append]
        have := M.ln
        simp only [List.length_cons, List.length_nil]
        omega
  · rename_i hle
    refine ⟨M.nd, fun r hr => (M.fr r hr).imp id (List.mem_append_left _), fun r hr => ?_, by rw [List.length_append]; have := M.ln; omega⟩
    have hr' : (r ∈ ps ∨ r ∈ seen) ∨ r = q := by
      rcases hr with hr | hr
      · exact .inl (.inl hr)
      · rcases List.mem_append.mp hr with hr | hr
        · exact .inl (.inr hr)
        · exact .inr (List.mem_singleton.mp hr)
    rcases hr' with hr' | hr'
    · exact M.up r hr'
    · rw [hr']
      cases hf : es.find? fun r => decide (r.1 = q.1) with
      | none =>
        have : look es q.1 = 0 := by
          unfold look
          rw [hf]
          rfl
        omega
      | some z =>
        have : look es q.1 = z.2 := by
          unfold look
          rw [hf]
          rfl
        have e1 := List.find?_some hf
        have e1 : z.1 = q.1 := by simpa using e1
        exact ⟨z.2, by omega, by rw [← e1]; exact List.mem_of_find?_eq_some hf⟩
/-! ### the joined modulus -/
theorem asc_keys {f : Int → Int} : ∀ {qs : List Int} {l : Int}, qs.Pairwise (· ≤ ·) → qs.Nodup → (∀ q ∈ qs, l < q ∧ 0 < f q ∧ Pr q) → Asc l (qs.map fun q => (q, f q))
  | [], _, _, _, _ => trivial
  | q :: r, l, hs, hn, h => by
    rw [List.pairwise_cons] at hs
    rw [List.nodup_cons] at hn
    have hq := h q (List.mem_cons_self ..)
    refine ⟨hq.1, hq.2.1, hq.2.2, asc_keys hs.2 hn.2 fun z hz => ⟨?_, (h z (List.mem_cons_of_mem _ hz)).2⟩⟩
    have h1 := hs.1 z hz
    have h2 : q ≠ z := fun e => hn.1 (by rw [e]; exact hz)
    show q < z
    omega
/-- factors: of the one, of the other, the joined ones -/
structure Jn (ps ps' zs : List (Int × Int)) : Prop where
  as : Asc 0 zs
  sm : Small zs
  nu : num zs = ledM (num ps) (num ps')
theorem join_ok {ps ps' es : List (Int × Int)} {qs : List Int} (a : Asc 0 ps) (a' : Asc 0 ps') (s : Small ps) (s' : Small ps') (l : ps.length ≤ 3) (l' : ps'.length ≤ 3) (M : Mg ps ps' es) (pm : List.Perm qs (es.map (·.1))) (so : qs.Pairwise (· ≤ ·)) : Jn ps ps' (qs.map fun p => (p, look es p)) := by
  have nq : qs.Nodup := pm.nodup_iff.mpr M.nd
  have hin : ∀ q ∈ qs, (q, look es q) ∈ es := fun q hq => by
    obtain ⟨z, hz, e⟩ := List.mem_map.mp (pm.mem_iff.mp hq)
    have := look_mem M.nd hz
    rw [← e, this]
    exact hz
  have hgood : ∀ z ∈ es, 0 < z.2 ∧ Pr z.1 ∧ 0 < z.1 ∧ z.1 < 1024 ∧ z.2 ≤ 100 := fun z hz => by
    rcases M.fr z hz with h | h
    · have h1 := a.lt z h
      have h2 := s.1 z h
      exact ⟨h1.2.1, h1.2.2, h2.1, h2.2.1, h2.2.2.2⟩
    · have h1 := a'.lt z h
      have h2 := s'.1 z h
      exact ⟨h1.2.1, h1.2.2, h2.1, h2.2.1, h2.2.2.2⟩
  have hlen := M.ln
  have hql : qs.length = es.length := by rw [pm.length_eq, List.length_map]
  have as : Asc 0 (qs.map fun p => (p, look es p)) := asc_keys so nq fun q hq => by
    have := hgood _ (hin q hq)
    exact ⟨this.2.2.1, this.1, this.2.1⟩
  have sm : Small (qs.map fun p => (p, look es p)) := by
    refine ⟨fun z hz => ?_, by rw [List.length_map]; omega⟩
    obtain ⟨q, hq, e⟩ := List.mem_map.mp hz
    have := hgood _ (hin q hq)
    rw [← e]
    exact ⟨this.2.2.1, this.2.2.2.1, this.1, this.2.2.2.2⟩
  refine ⟨as, sm, ?_⟩
  have n0 := num_pos s
  have n0' := num_pos s'
  obtain ⟨u, v, hu, hv, u0, v0, e1, e2, e3, e4, hL⟩ := ledM_eq n0 n0'
  have hdn : ∀ q, q ∈ ps ∨ q ∈ ps' → q.1 ^ q.2.toNat ∣ num (qs.map fun p => (p, look es p)) := fun q hq => by
    obtain ⟨e, he, hm⟩ := M.up q hq
    have hm2 : q.1 ∈ qs := pm.mem_iff.mpr (List.mem_map.mpr ⟨_, hm, rfl⟩)
    have e5 : look es q.1 = e := look_mem M.nd hm
    have h6 := num_of (List.mem_map.mpr ⟨q.1, hm2, rfl⟩ : ((fun p => (p, look es p)) q.1) ∈ qs.map fun p => (p, look es p))
    refine Int.dvd_trans ?_ h6
    show q.1 ^ q.2.toNat ∣ q.1 ^ (look es q.1).toNat
    rw [e5]
    have : e.toNat = q.2.toNat + (e.toNat - q.2.toNat) := by omega
    rw [this, Int.pow_add]
    exact Int.dvd_mul_right _ _
  have d1 : ledM (num ps) (num ps') ∣ num (qs.map fun p => (p, look es p)) := led_least n0 n0' (dvd_of_num (by omega) a fun q hq => hdn q (.inl hq)) (dvd_of_num (by omega) a' fun q hq => hdn q (.inr hq))
  have d2 : num (qs.map fun p => (p, look es p)) ∣ ledM (num ps) (num ps') := dvd_of_num (by omega) as fun z hz => by
    obtain ⟨q, hq, e⟩ := List.mem_map.mp hz
    rw [← e]
    rcases M.fr _ (hin q hq) with h | h
    · exact Int.dvd_trans (num_of h) ⟨v, e4⟩
    · exact Int.dvd_trans (num_of h) ⟨u, by rw [e3, Int.mul_comm]⟩
  exact Int.dvd_antisymm (by have := num_pos sm; omega) (by omega) d2 d1
/-! ### the joined way's marks -/
def vP (low : Bool) (s b : Int) (ls : List Int) : Int := hv (if low then ls.reverse else ls) b + s * geo b ls.length
theorem mark_vP (low : Bool) (s b n : Int) (ls : List Int) : mark ⟨low, s, false⟩ b n ls = vP low s b ls % n := by
  rw [mark_hv]
  unfold vP
  simp
theorem hv_congr {n b b' : Int} (h : n ∣ b - b') (cs : List Int) : n ∣ hv cs b - hv cs b' := by
  have e : b % n = b' % n := Int.emod_eq_emod_iff_emod_sub_eq_zero.mpr (Int.emod_eq_zero_of_dvd h)
  refine Int.dvd_of_emod_eq_zero (Int.emod_eq_emod_iff_emod_sub_eq_zero.mp ?_)
  rw [← hv_mod b, ← hv_mod b', e]
theorem geo_cong {n b b' : Int} (h : n ∣ b - b') (k : Nat) : n ∣ geo b k - geo b' k := by
  have := hv_congr h (List.replicate k 1)
  exact this
theorem vP_cong {n b b' s s' : Int} (low : Bool) (h : n ∣ b - b') (hs : n ∣ s - s') (ls : List Int) : n ∣ vP low s b ls - vP low s' b' ls := by
  unfold vP
  have h1 := hv_congr h (if low then ls.reverse else ls)
  obtain ⟨k, hk⟩ := geo_cong h ls.length
  obtain ⟨j, hj⟩ := hs
  obtain ⟨i, hi⟩ := h1
  have e : s * geo b ls.length - s' * geo b' ls.length = n * (s * k + j * geo b' ls.length) := by
    have e1 : geo b ls.length = geo b' ls.length + n * k := by omega
    have e2 : s = s' + n * j := by omega
    rw [Int.mul_add, ← Int.mul_assoc n j, show n * j = s - s' by omega, e1, Int.mul_add, Int.sub_mul, Int.mul_left_comm s n k]
    omega
  refine ⟨i + (s * k + j * geo b' ls.length), ?_⟩
  rw [Int.mul_add, ← hi, ← e]
  omega
theorem agree_vP {y : Sty} {b n : Int} (hn : 0 < n) (ls ms : List Int) : mark y b n ls = mark y b n ms ↔ n ∣ vP y.low (plainS y b n) b ls - vP y.low (plainS y b n) b ms := by
  have e : ∀ xs, (vP y.low (plainS y b n) b xs % n + (if y.lead then 1 else 0)) % n = mark y b n xs := fun xs => by
    rw [← mark_vP]
    exact plain_mark y b n xs
  rw [← e ls, ← e ms]
  constructor
  · intro h
    rw [Int.emod_add_emod, Int.emod_add_emod] at h
    have := Int.dvd_of_emod_eq_zero (Int.emod_eq_emod_iff_emod_sub_eq_zero.mp h)
    rwa [show ∀ u v w : Int, u + w - (v + w) = u - v from fun u v w => by omega] at this
  · intro h
    rw [Int.emod_eq_emod_iff_emod_sub_eq_zero.mpr (Int.emod_eq_zero_of_dvd h)]
/-- texts agree by the joined way just if they agree by both -/
theorem joined_agree {y y' : Sty} {b n b' n' z s N : Int} (hn : 0 < n) (hn' : 0 < n') (hl : y.low = y'.low) (hN : N = ledM n n') (zb : n ∣ z - b) (zb' : n' ∣ z - b') (sb : n ∣ s - plainS y b n) (sb' : n' ∣ s - plainS y' b' n') (ls ms : List Int) :
    rAgree ⟨y.low, s, false⟩ z N ls ms = (rAgree y b n ls ms && rAgree y' b' n' ls ms) := by
  have h1 := Int.dvd_sub (vP_cong y.low zb sb ls) (vP_cong y.low zb sb ms)
  have h2 := Int.dvd_sub (vP_cong y.low zb' sb' ls) (vP_cong y.low zb' sb' ms)
  obtain ⟨u, v, hu, hv, u0, v0, e1, e2, e3, e4, hL⟩ := ledM_eq hn hn'
  unfold rAgree
  rw [mark_vP, mark_vP]
  have a1 := agree_vP (y := y) (b := b) hn ls ms
  have a2 := agree_vP (y := y') (b := b') hn' ls ms
  rw [← hl] at a2
  generalize vP y.low s z ls = A at *
  generalize vP y.low s z ms = B at *
  generalize vP y.low (plainS y b n) b ls = A1 at *
  generalize vP y.low (plainS y b n) b ms = B1 at *
  generalize vP y.low (plainS y' b' n') b' ls = A2 at *
  generalize vP y.low (plainS y' b' n') b' ms = B2 at *
  have k1 : n ∣ A1 - B1 ↔ n ∣ A - B := by
    constructor
    · intro h
      have := Int.dvd_add h1 h
      rwa [show A - A1 - (B - B1) + (A1 - B1) = A - B by omega] at this
    · intro h
      have := Int.dvd_sub h h1
      rwa [show A - B - (A - A1 - (B - B1)) = A1 - B1 by omega] at this
  have k2 : n' ∣ A2 - B2 ↔ n' ∣ A - B := by
    constructor
    · intro h
      have := Int.dvd_add h2 h
      rwa [show A - A2 - (B - B2) + (A2 - B2) = A - B by omega] at this
    · intro h
      have := Int.dvd_sub h h2
      rwa [show A - B - (A - A2 - (B - B2)) = A2 - B2 by omega] at this
  rw [← Bool.decide_and]
  refine decide_eq_decide.mpr ?_
  rw [a1, a2, k1, k2, hN]
  constructor
  · intro h
    have := Int.dvd_of_emod_eq_zero (Int.emod_eq_emod_iff_emod_sub_eq_zero.mp h)
    exact ⟨Int.dvd_trans ⟨v, e4⟩ this, Int.dvd_trans ⟨u, by rw [e3, Int.mul_comm]⟩ this⟩
  · rintro ⟨h, h'⟩
    exact Int.emod_eq_emod_iff_emod_sub_eq_zero.mpr (Int.emod_eq_zero_of_dvd (led_least hn hn' h h'))
/-! ### what the law's functions do -/
def optV : Option Int → V
  | none => .non
  | some z => .int z
def WayS (c : CA) (H : Hp) (x : Addr) (b : Int) (ps : List (Int × Int)) (y : Sty) : Prop := WayAt c H x b ps y ∧ (num ps).natAbs < 2 ^ 200 ∧ ps.length ≤ 3
theorem WayS.same {c : CA} {H H' : Hp} {x : Addr} {b : Int} {ps : List (Int × Int)} {y : Sty} (h : WayS c H x b ps y) (s : Same H H') : WayS c H' x b ps y := ⟨h.1.same s, h.2⟩
def spLed : Sp := fun vs H Q _ => ∃ (r n r' n' : Int), vs = [.int r, .int n, .int r', .int n'] ∧ 0 < n ∧ 0 < n' ∧ n.natAbs < 2 ^ 200 ∧ n'.natAbs < 2 ^ 200 ∧ r.natAbs < 2 ^ 200 ∧ r'.natAbs < 2 ^ 200 ∧
  ∀ (p : Addr) (H' : Hp) (o : Option Int), Same H H' → OkLed r n r' n' o → H' p = some (.tup [optV o, .int (ledM n n')]) → Q (.ref p) H'
def spBoth (K : PySem.W.Frag) (c : CA) (Ci Cu : Addr) : Sp := fun vs H Q E => ∃ v u : V, vs = [v, u] ∧
  ((∃ t, TyX K H v t ∧ PySem.W.kitOne K t (.ref c.wy) = some false ∧ ErrTo E Ci "thing" v H) ∨
   (∃ (x : Addr) (b : Int) (ps : List (Int × Int)) (y : Sty) (t : Value), v = .ref x ∧ WayAt c H x b ps y ∧ TyX K H u t ∧ PySem.W.kitOne K t (.ref c.wy) = some false ∧ ErrTo E Ci "thing" u H) ∨
   (∃ (x x' : Addr) (b b' : Int) (ps ps' : List (Int × Int)) (y y' : Sty), v = .ref x ∧ u = .ref x' ∧ WayS c H x b ps y ∧ WayS c H x' b' ps' y' ∧ (y.low ≠ y'.low → E (.ref Cu) none H) ∧
     (y.low = y'.low → ∀ o o2 : Option Int, OkLed b (num ps) b' (num ps') o → OkLed (plainS y b (num ps)) (num ps) (plainS y' b' (num ps')) (num ps') o2 →
       ((o = none ∨ o2 = none) → ∀ H', Same H H' → Q .non H') ∧
       ∀ z s, o = some z → o2 = some s → ∀ (w : Addr) (H' : Hp) (zs : List (Int × Int)), Same H H' → Jn ps ps' zs → WayAt c H' w z zs ⟨y.low, s, false⟩ → Q (.ref w) H')))
def spCaught7 (K : PySem.W.Frag) (c : CA) : Sp := fun vs H Q _ => ∃ (v u : V), vs = [v, u] ∧
  ((∃ t, TyX K H v t ∧ PySem.W.kitOne K t (.ref c.wy) = some false ∧ ∀ l H', H l = none → Same H H' → H' l = some (.lst [.str "way", v]) → Q (.ref l) H') ∨
   (∃ (x : Addr) (b : Int) (ps : List (Int × Int)) (y : Sty) (t : Value), v = .ref x ∧ WayAt c H x b ps y ∧ TyX K H u t ∧ PySem.W.kitOne K t (.ref c.wy) = some false ∧ ∀ l H', H l = none → Same H H' → H' l = some (.lst [.str "way", u]) → Q (.ref l) H') ∨
   (∃ (x x' : Addr) (b b' : Int) (ps ps' : List (Int × Int)) (y y' : Sty), v = .ref x ∧ u = .ref x' ∧ WayS c H x b ps y ∧ WayS c H x' b' ps' y' ∧ y.low ≠ y'.low ∧ ∀ l H', H l = none → Same H H' → H' l = some (.lst [.str "unlike"]) → Q (.ref l) H'))
def spSome70 : Sp := fun vs H Q _ => ∃ (a : Addr) (c : Int), vs = [.ref a] ∧ c < 2 ^ 48 ∧ Purse H a c ∧
  ∀ (l : Addr) (H' : Hp) (ps : List (Int × Int)), Same (rm a H) (rm a H') → Purse H' a (c + 1) → PrL (rm a H') l ps → Asc 0 ps → Small ps → (num ps).natAbs < 2 ^ 200 → ps.length ≤ 3 → Q (.ref l) H'
def spDrawn70 (ca : CA) : Sp := fun vs H Q _ => ∃ (a : Addr) (c : Int), vs = [.ref a] ∧ c < 2 ^ 47 ∧ Purse H a c ∧
  ∀ (t x g : Addr) (H' : Hp) (b : Int) (ps : List (Int × Int)) (y : Sty), Same (rm a H) (rm a H') → Purse H' a (c + 100) → rm a H' t = some (.tup [.ref x, .ref g]) → WayS ca (rm a H') x b ps y → rm a H' g = some (.lst [.bl y.low, .int y.shift, .bl y.lead]) → Q (.ref t) H'
def spNear70 (ca : CA) : Sp := fun vs H Q _ => ∃ (a x g : Addr) (b c : Int) (ps : List (Int × Int)) (y : Sty), vs = [.ref a, .ref x, .ref g] ∧ c < 2 ^ 47 ∧ Purse H a c ∧ WayS ca (rm a H) x b ps y ∧ rm a H g = some (.lst [.bl y.low, .int y.shift, .bl y.lead]) ∧
  ∀ (x' : Addr) (b' : Int) (ps' : List (Int × Int)) (y' : Sty) (H' : Hp), Same (rm a H) (rm a H') → Purse H' a (c + 300) → WayS ca (rm a H') x' b' ps' y' → Q (.ref x') H'
def spTexts70 (ca : CA) : Sp := fun vs H Q _ => ∃ (a x x' w : Addr) (b b' z s c : Int) (ps ps' zs : List (Int × Int)) (y y' : Sty), vs = [.ref a, .ref x, .ref x', .ref w] ∧ c < 2 ^ 46 + 5000 ∧ Purse H a c ∧ WayS ca (rm a H) x b ps y ∧ WayS ca (rm a H) x' b' ps' y' ∧ WayAt ca (rm a H) w z zs ⟨y.low, s, false⟩ ∧
  (∀ ls ms, rAgree ⟨y.low, s, false⟩ z (num zs) ls ms = (rAgree y b (num ps) ls ms && rAgree y' b' (num ps') ls ms)) ∧ ∀ H', Same (rm a H) (rm a H') → Purse H' a (c + 3000) → Q (.bl true) H'
theorem toK_paired {K : PySem.W.Frag} {H : Hp} : ∀ {ps : List (Int × Int)} {ts : List Addr}, Paired (Tp H) ps ts → Paired (fun p kv => SqT K H p [kV kv.1, kv.2]) ts (toK ps)
  | _, _, .nil => .nil
  | _, _, .cons h t => .cons (sqt h) (toK_paired t)
theorem mergeK_toK : ∀ (ps es : List (Int × Int)), ((es ++ ps).map (·.1)).Nodup → mergeK (toK es) (toK ps) = toK (es ++ ps)
  | [], es, _ => by
    rw [List.append_nil]
    rfl
  | q :: r, es, h => by
    show mergeK (putK (toK es) (.inl q.1) (.int q.2)) (toK r) = _
    have hno : (es.any fun r => decide (r.1 = q.1)) = false := by
      cases hb : es.any fun r => decide (r.1 = q.1) with
      | false => rfl
      | true =>
        obtain ⟨z, hz, e⟩ := List.any_eq_true.mp hb
        have e : z.1 = q.1 := of_decide_eq_true e
        rw [List.map_append, List.nodup_append] at h
        exact absurd e (h.2.2 z.1 (List.mem_map_of_mem hz) q.1 (by simp))
    rw [putK_toK]
    unfold putE
    rw [if_neg (by rw [hno]; decide), show es ++ q :: r = es ++ [q] ++ r by rw [List.append_assoc]; rfl]
    exact mergeK_toK r (es ++ [q]) (by rwa [List.append_assoc])
/-! ### the walk of the dict -/
theorem w_dget2 {td ty tx : TE} {σ : L2.St} {H : Hp} {Q : VK} (q : td σ H fun x H1 => ∃ a, x = .ref a ∧ IsD H1 a ∧ ty σ H1 fun y H2 => tx σ H2 fun z H3 => ∃ o, DGet H3 a y o ∧ Q (o.getD z) H3) : tDGet2 td ty tx σ H Q := q
theorem w_dget {td ty : TE} {σ : L2.St} {H : Hp} {Q : VK} (q : td σ H fun x H1 => ty σ H1 fun y H2 => ∃ a v, x = .ref a ∧ DGet H2 a y (some v) ∧ Q v H2) : tDGet td ty σ H Q := q
theorem w_setD {o i v : V} {H : Hp} {Q : Hp → Prop} (q : ∃ a H', o = .ref a ∧ DPut H a i v H' ∧ Q H') : rSetD o i v H Q := q
theorem walk_es {d : Addr} {od : Obj} {es : List (Int × Int)} : Walk (Itk d od (toK es)) ((es.map (·.1)).map V.int).length (fun H => H d = some (.frz od (.dK (toK es)))) (YAt ((es.map (·.1)).map V.int)) := by
  have w := walk_keys (d := d) (o := od) (kvs := toK es)
  have e : (toK es).length = ((es.map (·.1)).map V.int).length := by simp [toK]
  rw [← e]
  refine w.mono (fun _ h => h) fun i H x H' hi _ y => ?_
  obtain ⟨rfl, k, v, h1, rfl⟩ := y
  refine ⟨rfl, ?_⟩
  unfold toK at h1
  rw [List.getElem?_map] at h1
  cases hq : es[i]? with
  | none =>
    rw [hq] at h1
    cases h1
  | some q =>
    rw [hq] at h1
    cases h1
    simp [hq, kV]
theorem prl_of {G : Hp} {f : Int → Int} : ∀ {qs : List Int} {ys : List V}, Paired (fun x y => ∃ (p : Int) (t : Addr), x = V.int p ∧ y = V.ref t ∧ G t = some (.tup [.int p, .int (f p)])) (qs.map V.int) ys → ∃ ts : List Addr, ys = ts.map V.ref ∧ Paired (Tp G) (qs.map fun p => (p, f p)) ts
  | [], ys, h => by
    cases h
    exact ⟨[], rfl, .nil⟩
  | q :: r, ys, h => by
    cases h with
    | cons h1 h2 =>
      obtain ⟨p, t, e1, e2, e3⟩ := h1
      cases e1
      obtain ⟨ts, e4, e5⟩ := prl_of h2
      exact ⟨t :: ts, by rw [e2, e4]; rfl, .cons e3 e5⟩
theorem val_some {es : List (Int × Int)} {q : Int × Int} (hn : (es.map (·.1)).Nodup) (h : q ∈ es) : valV (toK es) (.inl q.1) = some (.int (look es q.1)) := by
  have e := (val_toK q.1 es).1
  have e2 := (val_toK q.1 es).2
  have : (es.any fun r => decide (r.1 = q.1)) = true := List.any_eq_true.mpr ⟨q, h, decide_eq_true rfl⟩
  rw [this] at e2
  cases hv : valV (toK es) (.inl q.1) with
  | none =>
    rw [hv] at e2
    cases e2
  | some v =>
    rw [hv] at e
    exact congrArg some e
/-! ### ranges of wide numbers -/
theorem turn_long {P : Program} {w : World} {K : PySem.W.Frag} {tg : Expr} (it : Addr) (lo : Int) (n : Nat) : Turn P w K tg (Itr lo n) [it] it (fun i h => IsLongIter h it (lo + (i : Nat) * 1) ((n : Int) - (i : Nat)) 1) where
  mem := by simp
  obj := fun i h st b hb => by
    have e : b = it := by simpa using hb
    subst e
    exact ⟨_, st, fun v z => by
      have z' : Data.fields _ = Data.cell v := z
      cases z'⟩
  keep := fun i h h' st k => k it (by simp) _ st
  item := by
    intro X hP hw hK hc i pins s σ H E I hf st hg
    subst hP hw hK
    obtain ⟨f0, f1, f2, f3, f4, f5⟩ := hf it (by simp)
    have W := Walks.longrange (prog := X.prog) (w := X.w) (I.ok.hd hc) it lo 1 n
    refine W.item i s _ _ hg st fun v h' tk hv st' kk => ?_
    obtain ⟨t, rfl⟩ := hv
    have I1 : Inv X pins σ H { s with heap := h', toks := tk } := I.turned (fun b o hb e => kk b o (by simpa using hb) e) f0 f1 f3 f4 f5
    refine ⟨_, rfl, go_of (s := { s with heap := h', toks := tk }) (n := "longrange_iterator") st' rfl rfl (by decide) ⟨.int (lo + i), H, I1, ⟨t, ?_⟩, ⟨rfl, rfl⟩, st', fun b hb => (hf b hb).1⟩⟩
    rw [Int.mul_one]
  done := by
    intro X hP hw hK hc i pins s σ H E I hf st hg
    subst hP hw hK
    obtain ⟨f0, f1, f2, f3, f4, f5⟩ := hf it (by simp)
    exact wpAny_pyNext_long_end (I.ok.hd hc) st (by have : n ≤ i := hg; omega) fun h' eb => ⟨rfl, I.turned (t' := s.toks) (fun b o hb e => eb b o hb e) f0 f1 f3 f4 f5⟩
  self := fun _ _ _ _ _ st h => wpAny_pyIter_longiter st h
theorem range_itW {X : Cx} {tg : Expr} {pins : List (Addr × Obj)} {σ : L2.St} {H : Hp} {s : Shared} {R : It → Hp → Prop} {E : Value → Shared → Prop} {lo hi : Int} {t u v : Tok} {tk : Nat} (I : Inv X pins σ H s)
    (q : R (Itr lo (hi - lo).toNat) H) : wpAny (model X.prog X.w) X.A (pyIter (.ref s.heap.objs.size)) (PIE X pins σ tg R) E { s with heap := s.heap.push { cls := .type "range", data := .fields #[.int lo t, .int hi u, .int 1 v] }, toks := tk } := by
  have I1 : Inv X pins σ H { s with heap := s.heap.push { cls := .type "range", data := .fields #[.int lo t, .int hi u, .int 1 v] }, toks := tk } := I.kept fun b o e => Heap.get?_push_of_some _ e
  have e1 : lo + ((0 : Nat) : Int) * 1 = lo := by simp
  have e2 : (((hi - lo).toNat : Nat) : Int) - ((0 : Nat) : Int) = Builtin.Range.rangeSize lo hi 1 := by rw [rangeSize_one]; split <;> omega
  cases hsm : Builtin.Range.small lo hi 1 with
  | true =>
    refine wpAny_pyIter_range (IsRange.new ..) hsm ?_
    refine ⟨(s.heap.push { cls := .type "range", data := .fields #[.int lo t, .int hi u, .int 1 v] }).objs.size, [(s.heap.push { cls := .type "range", data := .fields #[.int lo t, .int hi u, .int 1 v] }).objs.size], _, _, H, rfl,
      I1.kept (t' := tk) fun b o e => Heap.get?_push_of_some _ e, turn_range _ lo (hi - lo).toNat, ?_, fun b hb => ?_, q⟩
    · show IsRangeIter _ _ (lo + ((0 : Nat) : Int) * 1) ((((hi - lo).toNat : Nat) : Int) - ((0 : Nat) : Int)) 1
      rw [e1, e2]
      exact Heap.get?_push_size _ rfl
    · have e : b = (s.heap.push { cls := .type "range", data := .fields #[.int lo t, .int hi u, .int 1 v] }).objs.size := by simpa using hb
      subst e
      exact I1.fpOk (Nat.le_refl _) (I1.hok.fresh (Nat.le_refl _))
  | false =>
    refine wpAny_pyIter_longrange (IsRange.new ..) hsm ?_
    refine ⟨(s.heap.push { cls := .type "range", data := .fields #[.int lo t, .int hi u, .int 1 v] }).objs.size, [(s.heap.push { cls := .type "range", data := .fields #[.int lo t, .int hi u, .int 1 v] }).objs.size], _, _, H, rfl,
      I1.kept (t' := tk) fun b o e => Heap.get?_push_of_some _ e, turn_long _ lo (hi - lo).toNat, ?_, fun b hb => ?_, q⟩
    · show IsLongIter _ _ (lo + ((0 : Nat) : Int) * 1) ((((hi - lo).toNat : Nat) : Int) - ((0 : Nat) : Int)) 1
      rw [e1, e2]
      exact Heap.get?_push_size _ rfl
    · have e : b = (s.heap.push { cls := .type "range", data := .fields #[.int lo t, .int hi u, .int 1 v] }).objs.size := by simpa using hb
      subst e
      exact I1.fpOk (Nat.le_refl _) (I1.hok.fresh (Nat.le_refl _))
def iRngW (ta : TA) : TI := fun σ H R => ta σ H fun vs H1 => ∃ i j : Int, vs = [.int i, .int j] ∧ R (Itr i (j - i).toNat) H1
theorem pi_rangeW {X : Cx} {tg : Expr} {a b : Expr} {ta : TA} {p pos : Pos} (hg : Gl X "range") (hm : X.mg "range" = none) (ha : PA X [a, b] ta) (hs : starEach [a, b] X.env = [(false, eval a X.env), (false, eval b X.env)] := by rfl) (hs2 : starEach [b] X.env = [(false, eval b X.env)] := by rfl) :
    PI X tg (.Call (.Name "range" p) [a, b] [] pos) (iRngW ta) := by
  refine ⟨fun pins s σ H R I h => ?_⟩
  refine Call_ (ld_blt I hg hm boot_range (PyProof.Rows.callWith_type1 (thn (ha.run pos pins s σ H _ I h) fun us s1 ⟨vs, H1, I1, r1, q1⟩ => ?_) (by rw [hs, hs2]) (by rw [hs2]; rfl)))
  obtain ⟨i, j, e, q⟩ := q1
  subst e
  cases r1 with
  | cons r rr =>
    cases rr with
    | cons r' rr =>
      cases rr
      obtain ⟨t, rfl⟩ := r
      obtain ⟨t', rfl⟩ := r'
      exact call_range_2 (range_itW I1 q)
theorem w_rngW {ta : TA} {σ : L2.St} {H : Hp} {R : It → Hp → Prop} (q : ta σ H fun vs H1 => ∃ i j : Int, vs = [.int i, .int j] ∧ R (Itr i (j - i).toNat) H1) : iRngW ta σ H R := q
theorem ints_of : ∀ {xs ys : List V}, Paired (fun _ z => ∃ n : Int, z = V.int n) xs ys → ∃ ms : List Int, ys = ms.map V.int ∧ ms.length = xs.length
  | _, _, .nil => ⟨[], rfl, rfl⟩
  | _, _, .cons h t => by
    obtain ⟨n, e⟩ := h
    obtain ⟨ms, e1, e2⟩ := ints_of t
    exact ⟨n :: ms, by rw [e, e1]; rfl, by rw [List.length_cons, List.length_cons, e2]⟩
theorem eqWay_self {b n b' n' : Int} {y y' : Sty} (h1 : b = b') (h2 : n = n') (h3 : y = y') : eqWay b n y b' n' y' = true := by
  subst h1 h2 h3
  unfold eqWay eqSty
  simp
def stepsN (g : Int) (v : V) : Bool := match v with | .int z => decide (z % g ≠ 0) | _ => false
theorem stepsN_fil (g d1 d2 : Int) : (([V.int d1, V.int d2].filter (stepsN g)).map fun v => v) = (([d1, d2].filter fun z => decide (z % g ≠ 0)) : List Int).map V.int := by
  rw [show [V.int d1, V.int d2] = [d1, d2].map V.int from rfl, List.filter_map, List.map_map]
  rfl
theorem stepsN_nil {g d1 d2 : Int} : ([d1, d2].filter fun z => decide (z % g ≠ 0)) = [] ↔ d1 % g = 0 ∧ d2 % g = 0 := by
  rw [List.filter_eq_nil_iff]
  simp
theorem OkLed.uni {r n r' n' z c : Int} (hn : 0 < n) (hn' : 0 < n') (h : OkLed r n r' n' (some z)) (h' : OkLed r n r' n' (some c)) : z = c := by
  obtain ⟨_, a, b, d, e⟩ := h
  obtain ⟨_, a', b', d', e'⟩ := h'
  exact led_uniq hn hn' rfl (by have := Int.dvd_sub d d'; rwa [show z - r - (c - r) = z - c by omega] at this) (by have := Int.dvd_sub e e'; rwa [show z - r' - (c - r') = z - c by omega] at this) a b a' b'
theorem OkLed.yes {r n r' n' : Int} {o : Option Int} {c : Int} (h : OkLed r n r' n' o) (hc : OkLed r n r' n' (some c)) : o ≠ none := fun e => by
  rw [e] at h
  exact h hc.1

end Bc
set_option maxHeartbeats 4000000
open Bc
local macro_rules | `(tactic| walk_at "same0") => `(tactic| first
  | with_reducible exact L2.Same.refl _
  | with_reducible assumption
  | with_reducible exact rm_le
  | with_reducible exact L2.Same.trans rm_le rm_le
  | ((with_reducible refine L2.Same.trans ?_ (by with_reducible assumption)); walk_at "same0")
  | ((with_reducible refine L2.Same.trans ?_ (L2.Same.rm (by with_reducible assumption))); walk_at "same0")
  | ((with_reducible refine L2.Same.trans ?_ (Same.new (by with_reducible assumption))); walk_at "same0")
  | ((with_reducible apply same_rm); (first | with_reducible assumption | ((with_reducible refine L2.Same.trans ?_ (by with_reducible assumption)); walk_at "same0") | ((with_reducible refine L2.Same.trans ?_ (L2.Same.rm (by with_reducible assumption))); walk_at "same0")))
  | ((with_reducible refine L2.Same.rm ?_); walk_at "same0"))
local macro_rules | `(tactic| walk_at "same") => `(tactic| first
  | walk_at "same0"
  | ((with_reducible apply same_rm); walk_at "same0")
  | ((with_reducible apply same_rm); (with_reducible apply same_rm); walk_at "same0"))
local macro_rules | `(tactic| walk_at "hp0") => `(tactic| first
  | with_reducible assumption
  | ((with_reducible apply hpL); (with_reducible assumption); walk_at "same")
  | exact L2.upd_same
  | assumption
  | ((with_reducible apply hpL); assumption; walk_at "same"))
local macro_rules | `(tactic| walk_at "hp") => `(tactic| first
  | with_reducible assumption
  | (exact sq (by walk_at "hp0"))
  | (exact sqt (by walk_at "hp0"))
  | ((with_reducible apply hpL); (with_reducible assumption); walk_at "same")
  | ((with_reducible apply WayAt.same); (with_reducible assumption); walk_at "same")
  | ((with_reducible apply MkAt.same); (with_reducible assumption); walk_at "same")
  | ((with_reducible apply ModAt.same); (with_reducible assumption); walk_at "same")
  | ((with_reducible apply PrL.same); (with_reducible assumption); walk_at "same")
  | ((with_reducible apply TextAt.same); (with_reducible assumption); walk_at "same")
  | ((with_reducible apply Purse.same); (with_reducible assumption); walk_at "same")
  | assumption)
local macro_rules | `(tactic| walk_at "side") => `(tactic| first
  | with_reducible assumption
  | assumption
  | (exact rfl)
  | (refine mx_l ⟨?_, ?_⟩ <;> decide)
  | (refine mx_r ⟨?_, ?_⟩ <;> decide)
  | (refine mx_l ⟨?_, ?_⟩ <;> omega)
  | (refine mx_r ⟨?_, ?_⟩ <;> omega)
  | (refine wdiv60 ?_ ?_ <;> omega)
  | decide
  | omega)
local macro_rules | `(tactic| walk_at "go1") => `(tactic| first
  | ((with_reducible apply w_st); ((simp only [L2.start, List.map_cons, List.map_nil, List.length_cons, List.length_nil, List.cons_append, List.nil_append, List.append_nil, Nat.reduceAdd, Nat.reduceSub, List.reduceReplicate]); exact rfl))
  | with_reducible refine w_seq ?_
  | with_reducible refine w_atV ?_
  | ((with_reducible refine w_nxD ?_); (with_reducible refine w_nx ?_))
  | ((with_reducible refine w_rtD ?_); (with_reducible refine w_rt ?_))
  | ((with_reducible refine w_ctD ?_); (with_reducible refine w_ct ?_))
  | ((with_reducible refine w_bkD ?_); (with_reducible refine w_bk ?_))
  | ((with_reducible apply w_var); (exact rfl))
  | with_reducible refine w_c ?_
  | with_reducible refine w_op ?_
  | with_reducible refine w_cons ?_
  | with_reducible refine w_nil ?_
  | with_reducible refine w_cb ?_
  | ((with_reducible apply w_setN); ((intro _; simp only [List.set_cons_zero, List.set_cons_succ]); exact rfl))
  | with_reducible refine w_set ?_
  | with_reducible refine w_ret ?_
  | with_reducible refine w_if ?_
  | with_reducible refine w_test ?_
  | with_reducible refine w_tB ?_
  | with_reducible refine w_bl ?_
  | with_reducible refine w_I0 ?_
  | ((with_reducible refine w_I ?_ ?_); (first | walk_at "side" | rotate_left))
  | ((with_reducible apply w_ixL); (walk_at "hp"); (exact rfl))
  | ((with_reducible apply w_ixT); (walk_at "hp"); (exact rfl))
  | with_reducible refine w_call ?_
  | with_reducible refine w_next ?_
  | with_reducible refine w_drop ?_
  | with_reducible refine w_retN ?_
  | with_reducible refine w_un ?_
  | with_reducible refine w_U ?_
  | ((with_reducible refine w_eq ?_ ?_); (exact rfl))
  | ((with_reducible refine w_ne ?_ ?_); (exact rfl))
  | with_reducible refine w_and ?_
  | with_reducible refine w_or ?_
  | with_reducible refine w_not ?_
  | with_reducible refine w_andV ?_
  | with_reducible refine w_orV ?_
  | with_reducible refine w_notV ?_
  | with_reducible refine w_ifE ?_
  | with_reducible refine w_tup ?_
  | with_reducible refine w_lst ?_
  | ((with_reducible refine w_andsz ?_ ?_); (exact rfl))
  | with_reducible refine w_par ?_
  | with_reducible refine w_par2 ?_
  | ((with_reducible apply w_aug); (exact rfl))
  | with_reducible refine w_ipI ?_
  | with_reducible refine w_yes ?_
  | with_reducible refine w_chain ?_
  | with_reducible refine w_int1 ?_
  | with_reducible refine w_int1b ?_
  | with_reducible refine w_abs ?_
  | with_reducible refine w_max2 ?_
  | with_reducible refine w_min2 ?_
  | with_reducible refine w_for ?_
  | with_reducible refine w_rng1 ?_
  | with_reducible refine w_rng2 ?_
  | ((with_reducible refine w_rng1i ?_ ?_ ?_); omega; omega)
  | ((with_reducible refine w_rng2i ?_ ?_); omega)
  | with_reducible refine w_iList ?_
  | with_reducible refine w_iTup ?_
  | with_reducible refine w_iAt ?_
  | with_reducible refine w_asg ?_
  | with_reducible refine w_name ?_
  | with_reducible refine w_gsub ?_
  | with_reducible refine w_sl ?_
  | with_reducible refine w_noPart ?_
  | with_reducible refine w_part ?_
  | with_reducible refine w_isI ?_
  | with_reducible refine w_revL ?_
  | with_reducible refine w_isN ?_
  | with_reducible refine w_notN ?_
  | with_reducible refine w_bits ?_
  | with_reducible refine w_gcons ?_
  | with_reducible refine w_gnil ?_
  | with_reducible refine w_fld ?_
  | ((with_reducible apply w_wbase); assumption; (walk_at "hp"))
  | ((with_reducible apply w_wnum); assumption; (walk_at "hp"))
  | ((with_reducible apply w_wmark); assumption; (walk_at "hp"); intro _ _)
  | (((with_reducible apply w_wmod); assumption; (walk_at "hp")); intro _ _)
  | ((with_reducible apply w_mnum); assumption; (walk_at "hp"))
  | (((with_reducible apply w_mfac); assumption; (walk_at "hp")); intro _ _ _ _)
  | ((with_reducible apply w_klow); assumption; (walk_at "hp"))
  | ((with_reducible apply w_kshift); assumption; (walk_at "hp"))
  | ((with_reducible apply w_klead); assumption; (walk_at "hp"))
  | ((with_reducible apply w_setL); (walk_at "hp"); (exact rfl))
  | ((with_reducible apply w_len); (walk_at "hp"))
  | ((with_reducible apply w_lenT); (walk_at "hp"))
  | with_reducible refine while_n ?_
  | with_reducible refine while_nm ?_
  | with_reducible refine w_cO ?_
  | with_reducible refine w_m1 ?_
  | with_reducible refine w_isStr ?_
  | ((with_reducible apply w_tyL); (walk_at "hp"))
  | with_reducible refine w_makeK ?_
  | with_reducible refine w_callN ?_
  | ((with_reducible apply w_gtup); (walk_at "hp"); (exact rfl))
  | ((with_reducible apply w_unl); (walk_at "hp"); (exact rfl))
  | with_reducible refine w_sfld ?_
  | with_reducible refine w_make ?_
  | with_reducible refine w_meth ?_
  | with_reducible refine w_iEnum ?_
  | with_reducible refine w_lc ?_
  | with_reducible refine w_iStr ?_
  | with_reducible refine w_isS ?_
  | with_reducible refine w_leS ?_
  | with_reducible refine w_ord ?_
  | ((with_reducible apply w_iL); (walk_at "hp"))
  | ((with_reducible apply w_iT); (walk_at "hp"))
  | with_reducible refine w_bm ?_
  | with_reducible refine w_callX ?_
  | with_reducible refine w_mkO ?_
  | with_reducible refine w_xf ?_
  | with_reducible refine w_lstRg ?_
  | with_reducible refine w_rg1 ?_
  | with_reducible refine w_rg2 ?_
  | with_reducible refine w_rg2i ?_
  | ((with_reducible refine w_rgok ?_ ?_); omega)
  | with_reducible refine w_dnew ?_
  | with_reducible refine w_isB ?_
  | with_reducible refine w_strB ?_
  | with_reducible refine w_iRng3 ?_
  | with_reducible refine w_lstB ?_
  | with_reducible refine w_iZip ?_
  | ((with_reducible apply w_zipi); (walk_at "hp"); (walk_at "hp"))
  | with_reducible refine w_methK ?_
  | with_reducible refine w_cOK ?_
  | with_reducible refine w_makeX ?_
  | with_reducible refine w_makeKS ?_
  | with_reducible refine w_methX ?_
  | with_reducible refine w_mkV ?_
  | with_reducible refine w_rev0 ?_
  | with_reducible refine w_xk ?_
  | with_reducible refine w_lenSet ?_
  | with_reducible refine w_cOX ?_
  | with_reducible refine w_bm0 ?_)
local macro_rules | `(tactic| walk_at "go") => `(tactic| repeat (walk_at "go1"))
local macro_rules | `(tactic| walk_at "goI") => `(tactic| repeat ((fail_if_success (with_reducible refine w_if ?_)); walk_at "go1"))
namespace Lw
open PySem PySem.Spec PyProof.Rows L2 Bc C8
def top (i : Nat) : Stmt := PySem.Challenge.pw_baseclash_k70_two_ways_at_once.main.body.getD i (.Pass ⟨0, 0, 0, 0⟩)
section
variable {P : Program} {w : World} {K : PySem.W.Frag} {mg : Str → Option Value} {base : Heap}

abbrev s_isint : Stmt := (top 10)
theorem sc_isint : FnScope ["thing"] ["thing"] (defScope s_isint) :=
  ⟨rfl, rfl, rfl, by decide +kernel, rfl, by decide +kernel, by decide +kernel⟩
theorem ok_isint (F : Dn K mg "is_integer" s_isint ["thing"]) (T : Bt mg) : Cal P w K mg base 1 "is_integer" (spIsInt K) [] := by
  refine F.cal sc_isint (fun vs H Q E h => ?_) (fun f cdv A outer s H vs Q E hr h => ?_)
  · obtain ⟨v, t, b1, b2, rfl, _⟩ := h
    rfl
  · obtain ⟨v, t, b1, b2, rfl, ty, k1, k2, q⟩ := h
    refine ⟨_, (pss_one (ps_ret (pe_and (pe_callB call_isi (by rfl) T.isinstance (by decide +kernel) (pa_cons (pv 0) (pa_cons (pe_bltn (v := .ty "int") (by rfl) T.int (by decide +kernel) rfl) pa_nil))) (pe_one (pe_not (pe_callB call_isi (by rfl) T.isinstance (by decide +kernel) (pa_cons (pv 0) (pa_cons (pe_bltn (v := .ty "bool") (by rfl) T.bool (by decide +kernel) rfl) pa_nil)))))))), ?_⟩
    walk_at "go"
    refine w_isi ty k1 ?_
    walk_at "go"
    cases b1 with
    | false => exact iteF q
    | true =>
      refine iteT ?_
      walk_at "go"
      refine w_isi ty k2 ?_
      walk_at "go"
      exact q
abbrev s_raised : Stmt := (top 11)
theorem sc_raised : FnScope ["factor", "power", "found", "turn"] ["factor", "power"] (defScope s_raised) :=
  ⟨rfl, rfl, rfl, by decide +kernel, rfl, by decide +kernel, by decide +kernel⟩
theorem ok_raised (F : Dn K mg "raised" s_raised ["factor", "power"]) (T : Bt mg) : Cal P w K mg base 1 "raised" spRaised [] := by
  refine F.cal sc_raised (fun vs H Q E h => ?_) (fun f cdv A outer s H vs Q E hr h => ?_)
  · obtain ⟨g, p, b, rfl, _⟩ := h
    rfl
  · obtain ⟨g, p, b, rfl, p0, p1, gb, hb, q⟩ := h
    refine ⟨_, (pss_cons (ps_set (i := 2) sc_raised.nd rfl (Or.inl rfl) pe_int)
      (pss_cons (ps_for PassesOwn.never rfl (pi_range1 (by rfl) T.range (pa_cons (pv 1) pa_nil)) (pg_name (i := 3) sc_raised.nd rfl (Or.inl rfl)) (pss_one (ps_set (i := 2) sc_raised.nd rfl (Or.inl rfl) (pe_op oMul (pv 2) (pv 0)))))
      (pss_one (ps_ret (pv 2))))), ?_⟩
    walk_at "go"
    refine for_range (lo := 0) (n := p.toNat) (fun i σ H' => ∃ (u : Option V), σ = [some (.int g), some (.int p), some (.int (g ^ i)), u] ∧ H' = H)
      ⟨none, by rw [Int.pow_zero], rfl⟩ ?_ ?_
    · rintro i σ H' hi ⟨u, rfl, rfl⟩
      walk_at "go"
      · exact ⟨_, by rw [Int.pow_succ], rfl⟩
      · refine mx_w (natAbs_pow_lt gb i) gb ?_
        have h1 : b * i ≤ b * p.toNat := Nat.mul_le_mul_left b (by omega)
        omega
    · rintro σ H' ⟨u, rfl, rfl⟩
      walk_at "go"
      exact q
abbrev s_gcd : Stmt := (top 12)
theorem sc_gcd : FnScope ["one", "other"] ["one", "other"] (defScope s_gcd) :=
  ⟨rfl, rfl, rfl, by decide +kernel, rfl, by decide +kernel, by decide +kernel⟩
theorem ok_gcd (F : Dn K mg "common_divisor" s_gcd ["one", "other"]) (T : Bt mg) : Cal P w K mg base 1 "common_divisor" spGcd [] := by
  refine F.cal sc_gcd (fun vs H Q E h => ?_) (fun f cdv A outer s H vs Q E hr h => ?_)
  · obtain ⟨a, b, rfl, _⟩ := h
    rfl
  · obtain ⟨a, b, rfl, q⟩ := h
    refine ⟨_, (pss_cons (ps_par (i := 0) (j := 1) (by rfl) sc_gcd.nd rfl rfl (by decide) rfl rfl (pa_cons (pe_callB cAbs (by rfl) T.abs (by decide +kernel) (pa_cons (pv 0) pa_nil)) (pa_cons (pe_callB cAbs (by rfl) T.abs (by decide +kernel) (pa_cons (pv 1) pa_nil)) pa_nil)) (by rfl))
      (pss_cons (ps_while PassesOwn.never (pt_cmpR op_ne (pv 1) pe_int (nomark _)) (pss_one (ps_par (i := 0) (j := 1) (by rfl) sc_gcd.nd rfl rfl (by decide) rfl rfl (pa_cons (pv 1) (pa_cons (pe_op op_mod (pv 0) (pv 1)) pa_nil)) (by rfl))))
      (pss_one (ps_ret (pv 0))))), ?_⟩
    walk_at "go"
    refine while_go (fun σ H' => ∃ x y : Int, σ = [some (.int x), some (.int y)] ∧ 0 ≤ x ∧ 0 ≤ y ∧ Int.gcd x y = Int.gcd a b ∧ H' = H) (fun σ _ => match σ with | [_, some (.int y)] => y.toNat | _ => 0)
      ⟨_, _, rfl, ?_, ?_, ?_, rfl⟩ ?_
    · split <;> omega
    · split <;> omega
    · split <;> split <;> simp only [Int.neg_gcd, Int.gcd_neg]
    · rintro σ H' ⟨x, y, rfl, x0, y0, e, rfl⟩
      walk_at "go"
      refine ite_nd (fun h => ?_) (fun h => ?_)
      · have hy : y ≠ 0 := fun z => h (by rw [z])
        walk_at "go"
        · refine ⟨?_, _, _, rfl, y0, Int.emod_nonneg _ hy, ?_, rfl⟩
          · have := Int.emod_lt_of_pos x (show 0 < y by omega)
            show (x % y).toNat < y.toNat
            omega
          · have h6 := Int.gcd_mul_left_add_right y (x % y) (x / y)
            rw [Int.mul_ediv_add_emod] at h6
            rw [← e, Int.gcd_comm x y, h6]
      · have hy : y = 0 := by injection h
        subst hy
        walk_at "go"
        rw [← e, Int.gcd_zero] at q
        rw [Int.natAbs_of_nonneg x0] at q
        exact q
abbrev s_prime : Stmt := (top 15)
theorem sc_prime : FnScope ["number", "divisor"] ["number"] (defScope s_prime) :=
  ⟨rfl, rfl, rfl, by decide +kernel, rfl, by decide +kernel, by decide +kernel⟩
theorem ok_prime (F : Dn K mg "is_prime_number" s_prime ["number"]) (T : Bt mg) : Cal P w K mg base 1 "is_prime_number" spPrime [] := by
  refine F.cal sc_prime (fun vs H Q E h => ?_) (fun f cdv A outer s H vs Q E hr h => ?_)
  · obtain ⟨n, rfl, _⟩ := h
    rfl
  · obtain ⟨n, rfl, n1, q⟩ := h
    refine ⟨_, (pss_cons (ps_set (i := 1) sc_prime.nd rfl (Or.inl rfl) pe_int)
      (pss_cons (ps_while PassesOwn.never (pt_cmpR op_le (pe_op oMul (pv 1) (pv 1)) (pv 0) (nomark _)) (pss_cons (ps_if (pt_cmpR op_eq (pe_op op_mod (pv 0) (pv 1)) pe_int (nomark _)) (pss_one (ps_ret pe_bl)) pss_nil)
      (pss_one (ps_aug (i := 1) sc_prime.nd rfl (Or.inl rfl) pe_int ip_add))))
      (pss_one (ps_ret (pe_cmpR op_gt (pv 0) pe_int (nomark _)))))), ?_⟩
    walk_at "go"
    refine while_go (fun σ H' => ∃ d : Int, σ = [some (.int n), some (.int d)] ∧ 2 ≤ d ∧ d ≤ 2 ^ 31 ∧ (∀ e : Int, 2 ≤ e → e < d → n % e ≠ 0) ∧ H' = H) (fun σ _ => match σ with | [_, some (.int d)] => (2 ^ 31 - d).toNat | _ => 0)
      ⟨2, rfl, by decide, by decide, fun e h1 h2 => by omega, rfl⟩ ?_
    rintro σ H' ⟨d, rfl, d2, d3, hd, rfl⟩
    walk_at "go"
    refine ite_d (fun h => ?_) (fun h => ?_)
    · have hd30 : d < 2 ^ 31 - 1 := by
        refine Int.not_le.mp fun z => ?_
        have h4 : (2 ^ 31 - 1) * (2 ^ 31 - 1) ≤ d * d := Int.mul_le_mul z z (by decide) (by omega)
        omega
      walk_at "go"
      refine ite_d (fun h2 => ?_) (fun h2 => ?_)
      · walk_at "go"
        have e0 : n % d = 0 := by injection h2
        exact q false ⟨(fun z => by cases z), fun z => absurd e0 (z.2 d d2 h)⟩
      · walk_at "go"
        have e0 : n % d ≠ 0 := fun z => h2 (by rw [z])
        refine ⟨?_, d + 1, rfl, by omega, by omega, fun e h3 h4 => ?_, rfl⟩
        · show (2 ^ 31 - (d + 1)).toNat < (2 ^ 31 - d).toNat
          omega
        · by_cases h5 : e = d
          · rw [h5]; exact e0
          · exact hd e h3 (by omega)
    · walk_at "go"
      refine q _ ?_
      rw [decide_eq_true_iff]
      refine ⟨fun z => ⟨z, fun e h1 h2 => ?_⟩, fun z => z.1⟩
      by_cases h5 : e < d
      · exact hd e h1 h5
      · exfalso
        have h4 : d * d ≤ e * e := Int.mul_le_mul (by omega) (by omega) (by omega) (by omega)
        omega

abbrev s_istext : Stmt := (top 21)
theorem sc_istext : FnScope ["thing", "sign", "letter"] ["thing"] (defScope s_istext) :=
  ⟨rfl, rfl, rfl, by decide +kernel, rfl, by decide +kernel, by decide +kernel⟩
theorem ok_istext (F : Dn K mg "is_text" s_istext ["thing"]) (T : Bt mg) (c_isint : Cal P w K mg base 1 "is_integer" (spIsInt K) []) : Cal P w K mg base 2 "is_text" spIsText [] := by
  refine F.cal sc_istext (fun vs H Q E h => ?_) (fun f cdv A outer s H vs Q E hr h => ?_)
  · obtain ⟨v, ls, rfl, _⟩ := h
    rfl
  · obtain ⟨v, ls, rfl, tx, k⟩ := h
    cases tx with
    | str z hz hl =>
      refine ⟨_, (pss_cons (ps_if (pt_val (pe_callB call_isi (by rfl) T.isinstance (by decide +kernel) (pa_cons (pv 0) (pa_cons (pe_bltn (v := .ty "str") (by rfl) T.str (by decide +kernel) rfl) pa_nil)))) (pss_one (ps_ret (pe_callB (cr_all rfl) (by rfl) T.all (by decide +kernel) (pa_cons (pe_lc (own := [("sign", 1)]) (g := gName 1) (tt := tYes) (te := (tChain _ _ _ (tVar 1) _)) rfl sc_istext.nd (pi_str (pv 0)) (blkOk_by (own := [("sign", 1)]) (N := ["thing", "sign", "letter"]) (sc := defScope s_istext) (by decide +kernel)) (fun _ _ _ _ _ => (pg_name (i := 1) sc_istext.nd rfl (Or.inl rfl))) (fun _ _ _ _ _ => pts_nil) (fun _ _ _ _ _ => (pe_chain oLeS oLeS pe_str (pv 1) pe_str))) pa_nil)))) pss_nil)
      (pss_one (ps_ret (pe_and (pe_callB call_isiT (by rfl) T.isinstance (by decide +kernel) (pa_cons (pv 0) (pa_cons (pe_tup (pa_cons (pe_bltn (v := .ty "list") (by rfl) T.list (by decide +kernel) rfl) (pa_cons (pe_bltn (v := .ty "tuple") (by rfl) T.tuple (by decide +kernel) rfl) pa_nil))) pa_nil))) (pe_one (pe_callB (cr_all rfl) (by rfl) T.all (by decide +kernel) (pa_cons (pe_lc (own := [("letter", 2)]) (g := gName 2) (tt := tYes) (te := (tCall _ _ _ (tCons (tVar 2) tNil))) rfl sc_istext.nd (pi_list (pv 0)) (blkOk_by (own := [("letter", 2)]) (N := ["thing", "sign", "letter"]) (sc := defScope s_istext) (by decide +kernel)) (fun _ _ _ _ _ => (pg_name (i := 2) sc_istext.nd rfl (Or.inl rfl))) (fun _ _ _ _ _ => pts_nil) (fun _ _ _ _ _ => (pe_c c_isint hr (by decide) (by rfl) (pa_cons (pv 2) pa_nil)))) pa_nil))))))), ?_⟩
      walk_at "go"
      refine w_isi (b := true) (.base (.str z)) (kit_ty (by decide +kernel)) ?_
      walk_at "go"
      refine iteT ?_
      walk_at "go"
      intro D hD
      refine lc_pure (z.cps.toList.map fun c => V.str ⟨#[c]⟩) ((z.cps.toList.map fun _ => true).map V.bl) walk_strY hD (fun _ _ => trivial) (by simp) (by simp; exact hl) (fun _ => rfl) ?_ ?_
      · intro i x y H' hx hy sm Q' q'
        obtain ⟨c, hc, rfl⟩ := get_map hx
        obtain ⟨b, hb, rfl⟩ := get_map hy
        obtain ⟨d, hd, rfl⟩ := get_map hb
        have hr := hz c (List.mem_of_getElem? hc)
        walk_at "go"
        rw [sign_lo hr.1]
        refine iteT ?_
        walk_at "go"
        rw [sign_hi hr.2]
        exact q' _ (Same.refl _)
      · intro H' sm hH
        walk_at "go"
        refine w_all (sq hH) ?_
        rw [all_true]
        exact k _ sm
    | lst a _ h l =>
      refine ⟨_, (pss_cons (ps_if (pt_val (pe_callB call_isi (by rfl) T.isinstance (by decide +kernel) (pa_cons (pv 0) (pa_cons (pe_bltn (v := .ty "str") (by rfl) T.str (by decide +kernel) rfl) pa_nil)))) (pss_one (ps_ret (pe_callB (cr_all rfl) (by rfl) T.all (by decide +kernel) (pa_cons (pe_lc (own := [("sign", 1)]) (g := gName 1) (tt := tYes) (te := (tChain _ _ _ (tVar 1) _)) rfl sc_istext.nd (pi_str (pv 0)) (blkOk_by (own := [("sign", 1)]) (N := ["thing", "sign", "letter"]) (sc := defScope s_istext) (by decide +kernel)) (fun _ _ _ _ _ => (pg_name (i := 1) sc_istext.nd rfl (Or.inl rfl))) (fun _ _ _ _ _ => pts_nil) (fun _ _ _ _ _ => (pe_chain oLeS oLeS pe_str (pv 1) pe_str))) pa_nil)))) pss_nil)
      (pss_one (ps_ret (pe_and (pe_callB call_isiT (by rfl) T.isinstance (by decide +kernel) (pa_cons (pv 0) (pa_cons (pe_tup (pa_cons (pe_bltn (v := .ty "list") (by rfl) T.list (by decide +kernel) rfl) (pa_cons (pe_bltn (v := .ty "tuple") (by rfl) T.tuple (by decide +kernel) rfl) pa_nil))) pa_nil))) (pe_one (pe_callB (cr_all rfl) (by rfl) T.all (by decide +kernel) (pa_cons (pe_lc (own := [("letter", 2)]) (g := gName 2) (tt := tYes) (te := (tCall _ _ _ (tCons (tVar 2) tNil))) rfl sc_istext.nd (pi_list (pv 0)) (blkOk_by (own := [("letter", 2)]) (N := ["thing", "sign", "letter"]) (sc := defScope s_istext) (by decide +kernel)) (fun _ _ _ _ _ => (pg_name (i := 2) sc_istext.nd rfl (Or.inl rfl))) (fun _ _ _ _ _ => pts_nil) (fun _ _ _ _ _ => (pe_c c_isint hr (by decide) (by rfl) (pa_cons (pv 2) pa_nil)))) pa_nil))))))), ?_⟩
      walk_at "go"
      refine w_isi (b := false) (.base (.lst h)) (kit_ty (by decide +kernel)) ?_
      walk_at "go"
      refine iteF ?_
      walk_at "go"
      intro p hp
      walk_at "go"
      have h1 := upd_new (o := .tup [.ty "list", .ty "tuple"]) hp h
      refine w_isi2 (b := true) upd_same (.base (.lst h1)) (kitA (by decide +kernel)) ?_
      walk_at "go"
      refine iteT ?_
      walk_at "go"
      intro D hD
      refine lc_pure (ls.map V.int) ((ls.map fun _ => true).map V.bl) walk_list hD (fun _ sm => sq (sm _ _ h1)) (by simp) (by simp; exact l) (fun _ => rfl) ?_ ?_
      · intro i x y H' hx hy sm Q' q'
        obtain ⟨c, hc, rfl⟩ := get_map hx
        obtain ⟨b, hb, rfl⟩ := get_map hy
        obtain ⟨d, hd, rfl⟩ := get_map hb
        walk_at "go"
        refine use_isInt ?_
        exact q' _ (Same.refl _)
      · intro H' sm hH
        walk_at "go"
        refine w_all (sq hH) ?_
        rw [all_true]
        exact k _ ((Same.new hp).trans sm)
    | tup a _ h l =>
      refine ⟨_, (pss_cons (ps_if (pt_val (pe_callB call_isi (by rfl) T.isinstance (by decide +kernel) (pa_cons (pv 0) (pa_cons (pe_bltn (v := .ty "str") (by rfl) T.str (by decide +kernel) rfl) pa_nil)))) (pss_one (ps_ret (pe_callB (cr_all rfl) (by rfl) T.all (by decide +kernel) (pa_cons (pe_lc (own := [("sign", 1)]) (g := gName 1) (tt := tYes) (te := (tChain _ _ _ (tVar 1) _)) rfl sc_istext.nd (pi_str (pv 0)) (blkOk_by (own := [("sign", 1)]) (N := ["thing", "sign", "letter"]) (sc := defScope s_istext) (by decide +kernel)) (fun _ _ _ _ _ => (pg_name (i := 1) sc_istext.nd rfl (Or.inl rfl))) (fun _ _ _ _ _ => pts_nil) (fun _ _ _ _ _ => (pe_chain oLeS oLeS pe_str (pv 1) pe_str))) pa_nil)))) pss_nil)
      (pss_one (ps_ret (pe_and (pe_callB call_isiT (by rfl) T.isinstance (by decide +kernel) (pa_cons (pv 0) (pa_cons (pe_tup (pa_cons (pe_bltn (v := .ty "list") (by rfl) T.list (by decide +kernel) rfl) (pa_cons (pe_bltn (v := .ty "tuple") (by rfl) T.tuple (by decide +kernel) rfl) pa_nil))) pa_nil))) (pe_one (pe_callB (cr_all rfl) (by rfl) T.all (by decide +kernel) (pa_cons (pe_lc (own := [("letter", 2)]) (g := gName 2) (tt := tYes) (te := (tCall _ _ _ (tCons (tVar 2) tNil))) rfl sc_istext.nd (pi_tup (pv 0)) (blkOk_by (own := [("letter", 2)]) (N := ["thing", "sign", "letter"]) (sc := defScope s_istext) (by decide +kernel)) (fun _ _ _ _ _ => (pg_name (i := 2) sc_istext.nd rfl (Or.inl rfl))) (fun _ _ _ _ _ => pts_nil) (fun _ _ _ _ _ => (pe_c c_isint hr (by decide) (by rfl) (pa_cons (pv 2) pa_nil)))) pa_nil))))))), ?_⟩
      walk_at "go"
      refine w_isi (b := false) (.base (.tup h)) (kit_ty (by decide +kernel)) ?_
      walk_at "go"
      refine iteF ?_
      walk_at "go"
      intro p hp
      walk_at "go"
      have h1 := upd_new (o := .tup [.ty "list", .ty "tuple"]) hp h
      refine w_isi2 (b := true) upd_same (.base (.tup h1)) (kitA (by decide +kernel)) ?_
      walk_at "go"
      refine iteT ?_
      walk_at "go"
      intro D hD
      refine lc_pure (ls.map V.int) ((ls.map fun _ => true).map V.bl) walk_tup hD (fun _ sm => sqt (sm _ _ h1)) (by simp) (by simp; exact l) (fun _ => rfl) ?_ ?_
      · intro i x y H' hx hy sm Q' q'
        obtain ⟨c, hc, rfl⟩ := get_map hx
        obtain ⟨b, hb, rfl⟩ := get_map hy
        obtain ⟨d, hd, rfl⟩ := get_map hb
        walk_at "go"
        refine use_isInt ?_
        exact q' _ (Same.refl _)
      · intro H' sm hH
        walk_at "go"
        refine w_all (sq hH) ?_
        rw [all_true]
        exact k _ ((Same.new hp).trans sm)
abbrev s_read : Stmt := (top 22)
theorem sc_read : FnScope ["text", "sign"] ["text"] (defScope s_read) :=
  ⟨rfl, rfl, rfl, by decide +kernel, rfl, by decide +kernel, by decide +kernel⟩
theorem ok_read (F : Dn K mg "read" s_read ["text"]) (T : Bt mg) : Cal P w K mg base 1 "read" spRead [] := by
  refine F.cal sc_read (fun vs H Q E h => ?_) (fun f cdv A outer s H vs Q E hr h => ?_)
  · obtain ⟨v, ls, rfl, _⟩ := h
    rfl
  · obtain ⟨v, ls, rfl, tx, k⟩ := h
    refine ⟨_, (pss_cons (ps_if (pt_val (pe_callB call_isi (by rfl) T.isinstance (by decide +kernel) (pa_cons (pv 0) (pa_cons (pe_bltn (v := .ty "str") (by rfl) T.str (by decide +kernel) rfl) pa_nil)))) (pss_one (ps_ret (pe_callTy cTupOf (by rfl) T.tuple (by decide +kernel) (pa_cons (pe_lc (own := [("sign", 1)]) (g := gName 1) (tt := tYes) (te := (tCB _ (tCons (tVar 1) tNil))) rfl sc_read.nd (pi_str (pv 0)) (blkOk_by (own := [("sign", 1)]) (N := ["text", "sign"]) (sc := defScope s_read) (by decide +kernel)) (fun _ _ _ _ _ => (pg_name (i := 1) sc_read.nd rfl (Or.inl rfl))) (fun _ _ _ _ _ => pts_nil) (fun _ _ _ _ _ => (pe_callB cOrd (by rfl) T.ord (by decide +kernel) (pa_cons (pv 1) pa_nil)))) pa_nil)))) pss_nil)
      (pss_one (ps_ret (pe_callTy cTupOf (by rfl) T.tuple (by decide +kernel) (pa_cons (pv 0) pa_nil))))), ?_⟩
    cases tx with
    | str z hz hl =>
      walk_at "go"
      refine w_isi (b := true) (.base (.str z)) (kit_ty (by decide +kernel)) ?_
      walk_at "go"
      refine iteT ?_
      walk_at "go"
      intro D hD
      refine lc_pure (z.cps.toList.map fun c => V.str ⟨#[c]⟩) ((z.cps.toList.map Int.ofNat).map V.int) walk_strY hD (fun _ _ => trivial) (by simp) (by simp; exact hl) (fun _ => rfl) ?_ ?_
      · intro i x y H' hx hy sm Q' q'
        obtain ⟨c, hc, rfl⟩ := get_map hx
        obtain ⟨b, hb, rfl⟩ := get_map hy
        obtain ⟨d, hd, rfl⟩ := get_map hb
        rw [hc] at hd
        cases hd
        walk_at "go"
        exact q' _ (Same.refl _)
      · intro H' sm hH
        walk_at "go"
        refine w_tupL (sq hH) fun t ht => ?_
        walk_at "go"
        exact k _ _ (sm.trans (Same.new ht)) upd_same
    | lst a _ h l =>
      walk_at "go"
      refine w_isi (b := false) (.base (.lst h)) (kit_ty (by decide +kernel)) ?_
      walk_at "go"
      refine iteF ?_
      walk_at "go"
      refine w_tupL (sq h) fun t ht => ?_
      walk_at "go"
      exact k _ _ (Same.new ht) upd_same
    | tup a _ h l =>
      walk_at "go"
      refine w_isi (b := false) (.base (.tup h)) (kit_ty (by decide +kernel)) ?_
      walk_at "go"
      refine iteF ?_
      walk_at "go"
      refine w_tupT (sqt h) ?_
      walk_at "go"
      exact k _ _ (Same.refl _) h
abbrev s_reqtext : Stmt := (top 23)
theorem sc_reqtext : FnScope ["thing"] ["thing"] (defScope s_reqtext) :=
  ⟨rfl, rfl, rfl, by decide +kernel, rfl, by decide +kernel, by decide +kernel⟩
theorem ok_reqtext (F : Dn K mg "require_text" s_reqtext ["thing"]) (T : Bt mg) (c_istext : Cal P w K mg base 2 "is_text" spIsText []) (c_read : Cal P w K mg base 1 "read" spRead []) : Cal P w K mg base 3 "require_text" spRead [] := by
  refine F.cal sc_reqtext (fun vs H Q E h => ?_) (fun f cdv A outer s H vs Q E hr h => ?_)
  · obtain ⟨v, ls, rfl, _⟩ := h
    rfl
  · obtain ⟨v, ls, rfl, tx, k⟩ := h
    refine ⟨_, (pss_cons (ps_if (pt_not (pt_val (pe_c c_istext hr (by decide) (by rfl) (pa_cons (pv 0) pa_nil)))) (pss_one ps_never) pss_nil)
      (pss_one (ps_ret (pe_c c_read hr (by decide) (by rfl) (pa_cons (pv 0) pa_nil))))), ?_⟩
    walk_at "go"
    refine ⟨v, ls, rfl, tx, fun H1 s1 => ?_⟩
    walk_at "go"
    refine iteF ?_
    walk_at "go"
    refine ⟨v, ls, rfl, tx.same s1, fun H2 t s2 ht => ?_⟩
    walk_at "go"
    exact k _ _ (s1.trans s2) ht

abbrev s_isfac : Stmt := (top 17)
theorem sc_isfac : FnScope ["thing", "least", "prime", "power"] ["thing", "least"] (defScope s_isfac) :=
  ⟨rfl, rfl, rfl, by decide +kernel, rfl, by decide +kernel, by decide +kernel⟩
theorem ok_isfac (F : Dn K mg "is_factor" s_isfac ["thing", "least"]) (T : Bt mg) (c_isint : Cal P w K mg base 1 "is_integer" (spIsInt K) []) (c_prime : Cal P w K mg base 1 "is_prime_number" spPrime []) : Cal P w K mg base 2 "is_factor" spIsFactor [] := by
  refine F.cal sc_isfac (fun vs H Q E h => ?_) (fun f cdv A outer s H vs Q E hr h => ?_)
  · obtain ⟨t, l, p, k, rfl, _⟩ := h
    rfl
  · obtain ⟨t, l, p, k, rfl, ht, hp, q⟩ := h
    refine ⟨_, (pss_cons (ps_if (PW.pt (pw_or (pt_not (pt_val (pe_callB call_isi (by rfl) T.isinstance (by decide +kernel) (pa_cons (pv 0) (pa_cons (pe_bltn (v := .ty "tuple") (by rfl) T.tuple (by decide +kernel) rfl) pa_nil))))) (pw_or1 (pt_cmpR op_ne (pe_callB cLen (by rfl) T.len (by decide +kernel) (pa_cons (pv 0) pa_nil)) pe_int (nomark _))))) (pss_one (ps_ret pe_bl)) pss_nil)
      (pss_cons (ps_asg (pv 0) (pg_tup rfl (pgs_cons (pg_name (i := 2) sc_isfac.nd rfl (Or.inl rfl)) (pgs_cons (pg_name (i := 3) sc_isfac.nd rfl (Or.inl rfl)) pgs_nil))))
      (pss_cons (ps_if (PW.pt (pw_or (pt_not (pt_val (pe_c c_isint hr (by decide) (by rfl) (pa_cons (pv 2) pa_nil)))) (pw_or1 (pt_not (pt_val (pe_c c_isint hr (by decide) (by rfl) (pa_cons (pv 3) pa_nil))))))) (pss_one (ps_ret pe_bl)) pss_nil)
      (pss_one (ps_ret (pe_and (pe_cmpR op_gt (pv 2) (pv 1) (nomark _)) (pe_and (pe_cmpR op_gt (pv 3) pe_int (nomark _)) (pe_one (pe_c c_prime hr (by decide) (by rfl) (pa_cons (pv 2) pa_nil)))))))))), ?_⟩
    walk_at "go"
    refine w_isi (b := true) (.base (.tup ht)) (kit_ty (by decide +kernel)) ?_
    walk_at "go"
    refine iteF ?_
    walk_at "go"
    refine iteNS rfl ?_
    walk_at "go"
    refine use_isInt ?_
    walk_at "go"
    refine iteF ?_
    walk_at "go"
    refine use_isInt ?_
    walk_at "go"
    refine iteF ?_
    walk_at "go"
    refine ite_d (fun h1 => ?_) (fun h1 => ?_)
    · walk_at "go"
      refine ite_d (fun h2 => ?_) (fun h2 => ?_)
      · walk_at "go"
        refine ⟨p, rfl, hp, fun b hb => ?_⟩
        walk_at "go"
        exact q b (hb.trans ⟨fun z => ⟨h1, h2, z⟩, fun z => z.2.2⟩)
      · walk_at "go"
        exact q false ⟨(fun z => by cases z), fun z => absurd z.2.1 h2⟩
    · walk_at "go"
      exact q false ⟨(fun z => by cases z), fun z => absurd z.1 h1⟩
abbrev s_modinit : Stmt := (inClass (top 18) 0)
theorem sc_modinit : FnScope ["self", "factors", "number", "least", "place", "factor"] ["self", "factors"] (defScope s_modinit) :=
  ⟨rfl, rfl, rfl, by decide +kernel, rfl, by decide +kernel, by decide +kernel⟩
theorem ok_modinit {c : CA} {f : Addr} {fd : FuncData} (F : FunD K "__init__" "Modulus.__init__" (defArgs s_modinit) (defBody s_modinit) (defScope s_modinit) [] [] f fd) (T : Bt mg) (X : Kx K mg c) (c_isfac : Cal P w K mg base 2 "is_factor" spIsFactor []) (c_raised : Cal P w K mg base 1 "raised" spRaised []) :
    FnOk P w K mg base L2.CX0 3 f fd ["self", "factors"] (spModInit c) := by
  refine fnD_ok F sc_modinit (fun vs H Q E h => ?_) (fun cdv A outer s H vs Q E hr h => ?_)
  · obtain ⟨x, dx, l, ts, ps, rfl, _⟩ := h
    rfl
  · obtain ⟨x, dx, l, ts, ps, rfl, hx, hl, hp, ha, hs, k⟩ := h
    refine ⟨_, (pss_cons (ps_if (pt_not (pt_val (pe_callB call_isiT (by rfl) T.isinstance (by decide +kernel) (pa_cons (pv 1) (pa_cons (pe_tup (pa_cons (pe_bltn (v := .ty "list") (by rfl) T.list (by decide +kernel) rfl) (pa_cons (pe_bltn (v := .ty "tuple") (by rfl) T.tuple (by decide +kernel) rfl) pa_nil))) pa_nil))))) (pss_one ps_never) pss_nil)
      (pss_cons (ps_set (i := 2) sc_modinit.nd rfl (Or.inl rfl) pe_int)
      (pss_cons (ps_set (i := 3) sc_modinit.nd rfl (Or.inl rfl) pe_int)
      (pss_cons (ps_for PassesOwn.never rfl (pi_enum (by rfl) T.enumerate (pa_cons (pv 1) pa_nil)) (pg_tup rfl (pgs_cons (pg_name (i := 4) sc_modinit.nd rfl (Or.inl rfl)) (pgs_cons (pg_name (i := 5) sc_modinit.nd rfl (Or.inl rfl)) pgs_nil))) (pss_cons (ps_if (pt_not (pt_val (pe_c c_isfac hr (by decide) (by rfl) (pa_cons (pv 5) (pa_cons (pv 3) pa_nil))))) (pss_one ps_never) pss_nil)
      (pss_cons (ps_set (i := 3) sc_modinit.nd rfl (Or.inl rfl) (pe_ix ix_tup (pv 5) pe_int (fun _ _ => rfl)))
      (pss_one (ps_set (i := 2) sc_modinit.nd rfl (Or.inl rfl) (pe_op oMul (pv 2) (pe_c c_raised hr (by decide) (by rfl) (pa_cons (pe_ix ix_tup (pv 5) pe_int (fun _ _ => rfl)) (pa_cons (pe_ix ix_tup (pv 5) pe_int (fun _ _ => rfl)) pa_nil)))))))))
      (pss_cons (ps_fld (pv 0) (pv 2) rfl)
      (pss_one (ps_fld (pv 0) (pe_callTy cTupF (by rfl) T.tuple (by decide +kernel) (pa_cons (pv 1) pa_nil)) rfl))))))), ?_⟩
    walk_at "go"
    intro p np
    walk_at "go"
    have hl1 := upd_new (o := .tup [.ty "list", .ty "tuple"]) np hl
    have hx1 := upd_new (o := .tup [.ty "list", .ty "tuple"]) np hx
    refine w_isi2 (b := true) upd_same (.base (.lst hl1)) (kitA (by decide +kernel)) ?_
    walk_at "go"
    refine iteF ?_
    walk_at "go"
    refine w_enumi (sq hl1) ?_
    refine for_it (walk_enum (xs := ts.map V.ref)) (fun i σ H' => ∃ (u1 u2 : Option V), σ = [some (.ref x), some (.ref l), some (.int (num (ps.take i))), some (.int (((ps.take i).getLast?.map (·.1)).getD 0)), u1, u2] ∧ Same (upd H p (.tup [.ty "list", .ty "tuple"])) H')
      ⟨none, none, rfl, Same.refl _⟩ (fun i σ H' _ z => by obtain ⟨_, _, _, z⟩ := z; exact sq (z _ _ hl1)) ?_ ?_
    · rintro i y σ H1 H2 hi ⟨u1, u2, rfl, sm⟩ ⟨t, z1, z2, rfl, nt, rfl, e1, e2⟩
      cases e1
      obtain ⟨tt, htt, rfl⟩ := get_map e2
      obtain ⟨pr, hpr, ht⟩ := paired_get hp htt
      have s2 : Same H (upd H1 t (.tup [.int (i : Nat), .ref tt])) := (Same.new np).trans (sm.trans (Same.new nt))
      have ht2 := s2 _ _ ht
      have hsm := hs.1 pr (List.mem_of_getElem? hpr)
      have hasc := ha.at_ hpr
      refine w_gtup (sqt upd_same) rfl ?_
      walk_at "go"
      refine ⟨tt, _, pr.1, pr.2, rfl, ht2, by omega, fun b hb => ?_⟩
      have hb1 : b = true := hb.mpr hasc
      subst hb1
      walk_at "go"
      refine iteF ?_
      walk_at "go"
      refine ⟨pr.1, pr.2, 10, rfl, by omega, by omega, by show pr.1.natAbs < 1024; omega, by omega, ?_⟩
      walk_at "go"
      · refine ⟨some (.int (i : Nat)), some (.ref tt), ?_, (sm.trans (Same.new nt))⟩
        have hi2 : i < ps.length := (List.getElem?_eq_some_iff.mp hpr).1
        have e3 : (ps.take (i + 1)).getLast? = some pr := by
          rw [List.take_succ_eq_append_getElem hi2, List.getLast?_concat, (List.getElem?_eq_some_iff.mp hpr).2]
        rw [num_take hpr, e3]
        rfl
      · have hi2 : i < ps.length := (List.getElem?_eq_some_iff.mp hpr).1
        have h7 := num_bound hs i (by omega)
        refine mx_w h7.2 (natAbs_pow_lt (b := 10) (by show pr.1.natAbs < 1024; omega) pr.2.toNat) ?_
        have := hs.2
        omega
    · rintro σ H1 ⟨u1, u2, rfl, sm⟩
      have hlen : (ts.map V.ref).length = ps.length := by
        rw [List.length_map]
        exact hp.length.symm
      rw [hlen, List.take_length]
      have hx2 := sm _ _ hx1
      have hl2 := sm _ _ hl1
      walk_at "go"
      refine w_sfldi hx2 X.md.cl X.number (by decide) ?_
      walk_at "go"
      have nxl : l ≠ x := fun z => by rw [z, hx] at hl; cases hl
      refine w_tupF (sq ((upd_ne nxl).trans hl2)) fun t oo ht od => ?_
      walk_at "go"
      have nxt : x ≠ t := fun z => by rw [z, upd_same] at ht; cases ht
      refine w_sfldi ((upd_ne nxt).trans upd_same) X.md.cl X.factors (by show 1 < 1000; decide) ?_
      walk_at "go"
      refine k _ t (fun b o nb hb => ?_) ?_ ?_
      · have hb2 := sm _ _ (Same.new np _ _ hb)
        have hbt : b ≠ t := fun z => by rw [z] at nb hb2; rw [upd_ne nb, hb2] at ht; cases ht
        rw [upd_ne nb, upd_ne hbt, upd_ne nb]
        exact hb2
      · rw [upd_same]
        show some (HO.ins c.md dx (putF "factors" (.ref t) [("number", _)])) = _
        rw [putS (by decide +kernel)]
        rfl
      · exact ⟨oo, od, by rw [upd_ne nxt.symm, upd_same]⟩

abbrev s_reqmod : Stmt := (top 19)
theorem sc_reqmod : FnScope ["modulus"] ["modulus"] (defScope s_reqmod) :=
  ⟨rfl, rfl, rfl, by decide +kernel, rfl, by decide +kernel, by decide +kernel⟩
theorem ok_reqmod {c : CA} (F : Dn K mg "require_modulus" s_reqmod ["modulus"]) (T : Bt mg) (X : Kx K mg c) : Cal P w K mg base 1 "require_modulus" (spReqMod c) [] := by
  refine F.cal sc_reqmod (fun vs H Q E h => ?_) (fun f cdv A outer s H vs Q E hr h => ?_)
  · obtain ⟨m, dx, fs, rfl, _⟩ := h
    rfl
  · obtain ⟨m, dx, fs, rfl, hm, q⟩ := h
    refine ⟨_, (pss_one (ps_if (pt_not (pt_val (pe_callB call_isi (by rfl) T.isinstance (by decide +kernel) (pa_cons (pv 0) (pa_cons (pe_glob (v := .ref c.md) (by rfl) X.mgMd rfl) pa_nil))))) (pss_one ps_never) pss_nil)), ?_⟩
    walk_at "go"
    refine w_isiC (X.md.ty hm) kit_own ?_
    walk_at "go"
    refine iteF ?_
    walk_at "go"
    exact q
abbrev s_mkinit : Stmt := (inClass (top 25) 0)
theorem sc_mkinit : FnScope ["self", "low", "shift", "lead"] ["self", "low", "shift", "lead"] (defScope s_mkinit) :=
  ⟨rfl, rfl, rfl, by decide +kernel, rfl, by decide +kernel, by decide +kernel⟩
theorem ok_mkinit {c : CA} {f : Addr} {fd : FuncData} {kws : List (Str × V)} (F : FunD K "__init__" "Marking.__init__" (defArgs s_mkinit) (defBody s_mkinit) (defScope s_mkinit) [] kws f fd) (T : Bt mg) (X : Kx K mg c) (c_isint : Cal P w K mg base 1 "is_integer" (spIsInt K) []) :
    FnOk P w K mg base L2.CX0 2 f fd ["self", "low", "shift", "lead"] (spMkInit c) := by
  refine fnD_ok F sc_mkinit (fun vs H Q E h => ?_) (fun cdv A outer s H vs Q E hr h => ?_)
  · obtain ⟨x, dx, l, sh, d, rfl, _⟩ := h
    rfl
  · obtain ⟨x, dx, l, sh, d, rfl, hx, k⟩ := h
    refine ⟨_, (pss_cons (ps_if (pt_not (pt_val (pe_callB call_isi (by rfl) T.isinstance (by decide +kernel) (pa_cons (pv 1) (pa_cons (pe_bltn (v := .ty "bool") (by rfl) T.bool (by decide +kernel) rfl) pa_nil))))) (pss_one ps_never) pss_nil)
      (pss_cons (ps_if (pt_not (pt_val (pe_c c_isint hr (by decide) (by rfl) (pa_cons (pv 2) pa_nil)))) (pss_one ps_never) pss_nil)
      (pss_cons (ps_if (pt_not (pt_val (pe_callB call_isi (by rfl) T.isinstance (by decide +kernel) (pa_cons (pv 3) (pa_cons (pe_bltn (v := .ty "bool") (by rfl) T.bool (by decide +kernel) rfl) pa_nil))))) (pss_one ps_never) pss_nil)
      (pss_cons (ps_fld (pv 0) (pv 1) rfl)
      (pss_cons (ps_fld (pv 0) (pv 2) rfl)
      (pss_one (ps_fld (pv 0) (pv 3) rfl))))))), ?_⟩
    walk_at "go"
    refine w_isi (b := true) (.base (.bl l)) (kit_ty (by decide +kernel)) ?_
    walk_at "go"
    refine iteF ?_
    walk_at "go"
    refine use_isInt ?_
    walk_at "go"
    refine iteF ?_
    walk_at "go"
    refine w_isi (b := true) (.base (.bl d)) (kit_ty (by decide +kernel)) ?_
    walk_at "go"
    refine iteF ?_
    walk_at "go"
    refine w_sfldi hx X.kg.cl X.low (by decide) ?_
    walk_at "go"
    refine w_sfldi upd_same X.kg.cl X.shift (by show 1 < 1000; decide) ?_
    walk_at "go"
    refine w_sfldi upd_same X.kg.cl X.lead (by rw [put0, putS (by decide +kernel)]; show 2 < 1000; decide) ?_
    walk_at "go"
    refine k _ (fun b o nb hb => by rw [upd_ne nb, upd_ne nb, upd_ne nb]; exact hb) ?_
    rw [upd_same, put0, putS (by decide +kernel), put0, putS (by decide +kernel), putS (by decide +kernel)]
    rfl
abbrev s_hf : Stmt := (inClass (top 25) 2)
theorem sc_hf : FnScope ["self", "letters", "found", "letter"] ["self", "letters"] (defScope s_hf) :=
  ⟨rfl, rfl, rfl, by decide +kernel, rfl, by decide +kernel, by decide +kernel⟩
theorem ok_hf {c : CA} {f : Addr} {fd : FuncData} (F : FunD K "highest_first" "Marking.highest_first" (defArgs s_hf) (defBody s_hf) (defScope s_hf) [] [] f fd) (T : Bt mg) (X : Kx K mg c) :
    FnOk P w K mg base L2.CX0 1 f fd ["self", "letters"] (spHf c) := by
  refine fnD_ok F sc_hf (fun vs H Q E h => ?_) (fun cdv A outer s H vs Q E hr h => ?_)
  · obtain ⟨k, a, y, ls, rfl, _⟩ := h
    rfl
  · obtain ⟨k, a, y, ls, rfl, ⟨dx, hk⟩, ha, hl, q⟩ := h
    refine ⟨_, (pss_cons (ps_setLc (i := 2) (own := [("letter", 3)]) (g := gName 3) (tt := tYes) (te := (tOp _ (tVar 3) (tFld K (tVar 0) "shift"))) rfl sc_hf.nd rfl rfl (sw_true rfl rfl rfl (by decide +kernel)) (pi_tup (pv 1)) (blkOk_by (own := [("letter", 3)]) (N := ["self", "letters", "found", "letter"]) (sc := defScope s_hf) (by decide +kernel)) (fun _ _ _ _ _ => (pg_name (i := 3) sc_hf.nd rfl (Or.inl rfl))) (fun _ _ _ _ _ => pts_nil) (fun _ _ _ _ _ => (pe_op op_add (pv 3) (pe_fld (pv 0) rfl))))
      (pss_cons (ps_if (pt_val (pe_fld (pv 0) rfl)) (pss_one (ps_set (i := 2) sc_hf.nd rfl (Or.inl rfl) (pe_revL (pv 2)))) pss_nil)
      (pss_one (ps_ret (pe_op op_cat (pe_lst (pa_cons (pe_callTy cInt1 (by rfl) T.int (by decide +kernel) (pa_cons (pe_fld (pv 0) rfl) pa_nil)) pa_nil)) (pv 2)))))), ?_⟩
    walk_at "go"
    intro D hD
    refine lc_pure (ls.map V.int) ((ls.map (· + y.shift)).map V.int) walk_tup hD (fun _ sm => sqt (sm _ _ ha)) (by simp) (by simp; exact hl) (fun _ => rfl) ?_ ?_
    · intro i x z H' hx hz sm Q' q'
      obtain ⟨u, hu, rfl⟩ := get_map hx
      obtain ⟨v, hv, rfl⟩ := get_map hz
      obtain ⟨v', hv', rfl⟩ := get_map hv
      rw [hu] at hv'
      cases hv'
      walk_at "go"
      refine w_fldi (sm _ _ hk) X.kg.cl X.shift mk_shift ?_
      walk_at "go"
      exact q' _ (Same.refl _)
    · intro H1 s1 hD1
      walk_at "go"
      refine w_fldi (s1 _ _ hk) X.kg.cl X.low mk_low ?_
      walk_at "go"
      have fin : ∀ (H2 : Hp) (d : Addr), Same H1 H2 → H2 d = some (.lst ((if y.low then (ls.map (· + y.shift)).reverse else ls.map (· + y.shift)).map V.int)) →
          ∀ p, H2 p = none → ∀ r, (upd H2 p (.lst [.int (if y.lead then 1 else 0)])) r = none → Q (.ref r) (upd (upd H2 p (.lst [.int (if y.lead then 1 else 0)])) r (.lst ([V.int (if y.lead then 1 else 0)] ++ (if y.low then (ls.map (· + y.shift)).reverse else ls.map (· + y.shift)).map V.int))) := fun H2 d s2 hd p hp r hr =>
        q _ r ((s1.trans s2).trans ((Same.new hp).trans (Same.new hr))) (by rw [upd_same]; rfl)
      have hlen : (if y.low then (ls.map (· + y.shift)).reverse else ls.map (· + y.shift)).length = ls.length := by split <;> simp
      have hsz : ([V.int (if y.lead then 1 else 0)] : List V).length + ((if y.low then (ls.map (· + y.shift)).reverse else ls.map (· + y.shift)).map V.int).length ≤ sizeLine := by
        rw [List.length_map, hlen]
        have : (100001 : Nat) ≤ sizeLine := by decide
        simp only [List.length_cons, List.length_nil]
        omega
      by_cases hlow : y.low = true
      · rw [hlow]
        refine iteT ?_
        walk_at "go"
        refine w_revi (sq hD1) fun e he => ?_
        walk_at "go"
        have hk2 := upd_new (o := .lst (((ls.map (· + y.shift)).map V.int).reverse)) he (s1 _ _ hk)
        refine w_fldi hk2 X.kg.cl X.lead mk_lead ?_
        walk_at "go"
        intro p hp
        walk_at "go"
        have hd2 : upd H1 e (.lst (((ls.map (· + y.shift)).map V.int).reverse)) e = some (.lst ((if y.low then (ls.map (· + y.shift)).reverse else ls.map (· + y.shift)).map V.int)) := by
          rw [upd_same, if_pos hlow, map_rev]
        refine w_cat upd_same (upd_new hp hd2) hsz ?_
        exact fin _ e (Same.new he) hd2 p hp
      · have hlow' : y.low = false := by simpa using hlow
        rw [hlow']
        refine iteF ?_
        walk_at "go"
        refine w_fldi (s1 _ _ hk) X.kg.cl X.lead mk_lead ?_
        walk_at "go"
        intro p hp
        walk_at "go"
        have hd2 : H1 D = some (.lst ((if y.low then (ls.map (· + y.shift)).reverse else ls.map (· + y.shift)).map V.int)) := by
          rw [hD1, if_neg hlow]
        refine w_cat upd_same (upd_new hp hd2) hsz ?_
        exact fin _ D (Same.refl _) hd2 p hp
abbrev s_mkof : Stmt := (top 26)
theorem sc_mkof : FnScope ["marking"] ["marking"] (defScope s_mkof) :=
  ⟨rfl, rfl, rfl, by decide +kernel, rfl, by decide +kernel, by decide +kernel⟩
theorem ok_mkof {c : CA} (F : Dn K mg "marking_of" s_mkof ["marking"]) (T : Bt mg) (X : Kx K mg c) (c_mk0 : Mak P w K mg base 2 "Marking" c.kg (spMkInit c) [.bl false, .int 0, .bl false]) : Cal P w K mg base 4 "marking_of" (spMkOf c) [] := by
  refine F.cal sc_mkof (fun vs H Q E h => ?_) (fun f cdv A outer s H vs Q E hr h => ?_)
  · obtain ⟨v, y, rfl, _⟩ := h
    rfl
  · obtain ⟨v, y, rfl, hv, q⟩ := h
    refine ⟨_, (pss_cons (ps_if (pt_cmpR op_isN1 (pv 0) pe_non (nomark _)) (pss_one (ps_ret (pe_mk0 c_mk0 hr (by decide) (by rfl)))) pss_nil)
      (pss_cons (ps_if (pt_not (pt_val (pe_callB call_isi (by rfl) T.isinstance (by decide +kernel) (pa_cons (pv 0) (pa_cons (pe_glob (v := .ref c.kg) (by rfl) X.mgMk rfl) pa_nil))))) (pss_one ps_never) pss_nil)
      (pss_one (ps_ret (pv 0))))), ?_⟩
    rcases hv with ⟨rfl, rfl⟩ | ⟨k, rfl, hk⟩
    · walk_at "go"
      refine iteT ?_
      walk_at "go"
      refine use_mk fun m H' _ s1 hm => ?_
      walk_at "go"
      exact q _ _ s1 hm
    · walk_at "go"
      refine iteF ?_
      walk_at "go"
      obtain ⟨dx, hk1⟩ := id hk
      refine w_isiC (X.kg.ty hk1) kit_own ?_
      walk_at "go"
      refine iteF ?_
      walk_at "go"
      exact q _ _ (Same.refl _) hk
abbrev s_restat : Stmt := (top 27)
theorem sc_restat : FnScope ["coefficients", "base", "number", "found", "coefficient"] ["coefficients", "base", "number"] (defScope s_restat) :=
  ⟨rfl, rfl, rfl, by decide +kernel, rfl, by decide +kernel, by decide +kernel⟩
theorem ok_restat (F : Dn K mg "rest_at" s_restat ["coefficients", "base", "number"]) (T : Bt mg) : Cal P w K mg base 1 "rest_at" spRestAt [] := by
  refine F.cal sc_restat (fun vs H Q E h => ?_) (fun f cdv A outer s H vs Q E hr h => ?_)
  · obtain ⟨a, cs, b, n, B, rfl, _⟩ := h
    rfl
  · obtain ⟨a, cs, b, n, B, rfl, ha, b0, bn, hB, hB2, q⟩ := h
    refine ⟨_, (pss_cons (ps_set (i := 3) sc_restat.nd rfl (Or.inl rfl) pe_int)
      (pss_cons (ps_for PassesOwn.never rfl (pi_list (pv 0)) (pg_name (i := 4) sc_restat.nd rfl (Or.inl rfl)) (pss_one (ps_set (i := 3) sc_restat.nd rfl (Or.inl rfl) (pe_op op_mod (pe_op op_add (pe_op oMul (pv 3) (pv 1)) (pv 4)) (pv 2)))))
      (pss_one (ps_ret (pv 3))))), ?_⟩
    walk_at "go"
    refine for_list (K := K) (a := a) (xs := cs.map V.int) (fun i σ H' => ∃ (u : Option V), σ = [some (.ref a), some (.int b), some (.int n), some (.int (restAt (cs.take i) b n)), u] ∧ H' = H)
      ⟨none, rfl, rfl⟩ (fun i σ H' _ z => by obtain ⟨_, _, rfl⟩ := z; exact sq ha) ?_ ?_
    · rintro i x σ H' hi ⟨u, rfl, rfl⟩
      obtain ⟨v, hv, rfl⟩ := get_map hi
      have hr := rest_range (b := b) (show 0 < n by omega) (cs.take i)
      walk_at "go"
      · exact ⟨_, by rw [rest_take hv], rfl⟩
      · exact mx_w (a := B) (b := B) (wide_le hr.1 (Int.le_of_lt hr.2) hB) (wide_le b0 (Int.le_of_lt bn) hB) (by omega)
    · rintro σ H' ⟨u, rfl, rfl⟩
      rw [List.length_map, List.take_length]
      walk_at "go"
      exact q
abbrev s_wayinit : Stmt := (inClass (top 28) 0)
theorem sc_wayinit : FnScope ["self", "base", "modulus", "marking"] ["self", "base", "modulus", "marking"] (defScope s_wayinit) :=
  ⟨rfl, rfl, rfl, by decide +kernel, rfl, by decide +kernel, by decide +kernel⟩
theorem ok_wayinit {c : CA} {f : Addr} {fd : FuncData} {dvs : List V} (F : FunD K "__init__" "Way.__init__" (defArgs s_wayinit) (defBody s_wayinit) (defScope s_wayinit) dvs [] f fd) (T : Bt mg) (X : Kx K mg c) (c_isint : Cal P w K mg base 1 "is_integer" (spIsInt K) [])
    (c_reqmod : Cal P w K mg base 1 "require_modulus" (spReqMod c) []) (c_mkof : Cal P w K mg base 4 "marking_of" (spMkOf c) []) :
    FnOk P w K mg base L2.CX0 5 f fd ["self", "base", "modulus", "marking"] (spWayInit c) := by
  refine fnD_ok F sc_wayinit (fun vs H Q E h => ?_) (fun cdv A outer s H vs Q E hr h => ?_)
  · obtain ⟨x, dx, m, b, mv, ps, y, rfl, _⟩ := h
    rfl
  · obtain ⟨x, dx, m, b, mv, ps, y, rfl, hx, hm, hk, q⟩ := h
    obtain ⟨dm, t, ts, hm1, hm2, hm3, hm4, hm5⟩ := id hm
    have hn := num_pos hm5
    have nmx : m ≠ x := fun z => by
      rw [z, hx] at hm1
      have := Option.some.inj hm1
      injection this with _ _ e
      cases e
    refine ⟨_, (pss_cons (ps_if (pt_not (pt_val (pe_c c_isint hr (by decide) (by rfl) (pa_cons (pv 1) pa_nil)))) (pss_one ps_never) pss_nil)
      (pss_cons (ps_expr (pe_c c_reqmod hr (by decide) (by rfl) (pa_cons (pv 2) pa_nil)))
      (pss_cons (ps_fld (pv 0) (pe_c c_mkof hr (by decide) (by rfl) (pa_cons (pv 3) pa_nil)) rfl)
      (pss_cons (ps_fld (pv 0) (pv 2) rfl)
      (pss_cons (ps_fld (pv 0) (pe_fld (pv 2) rfl) rfl)
      (pss_one (ps_fld (pv 0) (pe_op op_mod (pv 1) (pe_fld (pv 2) rfl)) rfl))))))), ?_⟩
    walk_at "go"
    refine use_isInt ?_
    walk_at "go"
    refine iteF ?_
    walk_at "go"
    refine ⟨m, dm, _, rfl, hm1, ?_⟩
    walk_at "go"
    refine ⟨mv, y, rfl, hk, fun H1 k s1 hk1 => ?_⟩
    obtain ⟨dk, hk2⟩ := id hk1
    walk_at "go"
    have nkx : k ≠ x := fun z => by
      rw [z, s1 _ _ hx] at hk2
      have := Option.some.inj hk2
      injection this with _ _ e
      cases e
    refine w_sfldi (s1 _ _ hx) X.wy.cl X.marking (by decide) ?_
    walk_at "go"
    refine w_sfldi upd_same X.wy.cl X.modulus (by show 1 < 1000; decide) ?_
    walk_at "go"
    have e1 : putF "modulus" (.ref m) (putF "marking" (.ref k) []) = ([("marking", V.ref k), ("modulus", .ref m)] : List (Str × V)) := by
      rw [put0, putS (by decide +kernel)]
      rfl
    rw [e1]
    have hmA : ∀ (o1 o2 : HO), upd (upd H1 x o1) x o2 m = some (.ins c.md dm (mdF (num ps) t)) := fun o1 o2 => by rw [upd_ne nmx, upd_ne nmx]; exact s1 _ _ hm1
    refine w_fldi (hmA _ _) X.md.cl X.number md_number ?_
    walk_at "go"
    refine w_sfldi upd_same X.wy.cl X.wnumber (by show 2 < 1000; decide) ?_
    walk_at "go"
    refine w_fldi (by rw [upd_ne nmx]; exact hmA _ _) X.md.cl X.number md_number ?_
    walk_at "go"
    have e2 : putF "number" (.int (num ps)) [("marking", V.ref k), ("modulus", .ref m)] = ([("marking", V.ref k), ("modulus", .ref m), ("number", .int (num ps))] : List (Str × V)) := by
      rw [putS (by decide +kernel), putS (by decide +kernel)]
      rfl
    rw [e2]
    refine w_sfldi upd_same X.wy.cl X.base (by show 3 < 1000; decide) ?_
    walk_at "go"
    have e3 : putF "base" (.int (b % num ps)) [("marking", V.ref k), ("modulus", .ref m), ("number", .int (num ps))] = wyF k m (num ps) (b % num ps) := by
      rw [putS (by decide +kernel), putS (by decide +kernel), putS (by decide +kernel)]
      rfl
    rw [e3]
    refine q _ k (fun b o nb hb => by rw [upd_ne nb, upd_ne nb, upd_ne nb, upd_ne nb]; exact s1 _ _ hb) upd_same ⟨dk, ?_⟩
    rw [upd_ne nkx, upd_ne nkx, upd_ne nkx, upd_ne nkx]
    exact hk2
abbrev s_ofl : Stmt := (inClass (top 28) 2)
theorem sc_ofl : FnScope ["self", "letters"] ["self", "letters"] (defScope s_ofl) :=
  ⟨rfl, rfl, rfl, by decide +kernel, rfl, by decide +kernel, by decide +kernel⟩
theorem ok_ofl {c : CA} {f : Addr} {fd : FuncData} (F : FunD K "of_letters" "Way.of_letters" (defArgs s_ofl) (defBody s_ofl) (defScope s_ofl) [] [] f fd) (T : Bt mg) (X : Kx K mg c) (c_restat : Cal P w K mg base 1 "rest_at" spRestAt []) (c_hf : Met P w K mg base 1 c.kg "highest_first" (spHf c) []) :
    FnOk P w K mg base L2.CX0 2 f fd ["self", "letters"] (spOfLetters c) := by
  refine fnD_ok F sc_ofl (fun vs H Q E h => ?_) (fun cdv A outer s H vs Q E hr h => ?_)
  · obtain ⟨x, a, b, ps, y, ls, rfl, _⟩ := h
    rfl
  · obtain ⟨x, a, b, ps, y, ls, rfl, ⟨dx, m, k, hx, hm, ⟨dk, hk⟩, b0, bn⟩, ha, hl, q⟩ := h
    obtain ⟨_, _, _, _, _, _, _, hs⟩ := id hm
    refine ⟨_, (pss_one (ps_ret (pe_c c_restat hr (by decide) (by rfl) (pa_cons (pe_mt c_hf hr (by decide) (pe_fld (pv 0) rfl) (pa_cons (pv 1) pa_nil)) (pa_cons (pe_fld (pv 0) rfl) (pa_cons (pe_fld (pv 0) rfl) pa_nil)))))), ?_⟩
    walk_at "go"
    refine w_fldi hx X.wy.cl X.marking wy_marking ?_
    refine w_methi hk (mk_no (by decide +kernel) (by decide +kernel) (by decide +kernel)) ?_
    walk_at "go"
    refine ⟨k, a, y, ls, rfl, ⟨dk, hk⟩, ha, hl, fun H1 l s1 hl1 => ?_⟩
    walk_at "go"
    refine w_fldi (s1 _ _ hx) X.wy.cl X.base wy_base ?_
    walk_at "go"
    refine w_fldi (s1 _ _ hx) X.wy.cl X.wnumber wy_number ?_
    walk_at "go"
    refine ⟨l, hf y ls, b, num ps, 70000, rfl, hl1, b0, bn, num_lt hs, by decide, ?_⟩
    walk_at "go"
    exact q _ s1

abbrev s_mixed : Stmt := (top 36)
theorem sc_mixed : FnScope ["_law_cell", "_law_k", "_law_stirred"] ["_law_cell", "_law_k"] (defScope s_mixed) :=
  ⟨rfl, rfl, rfl, by decide +kernel, rfl, by decide +kernel, by decide +kernel⟩
theorem ok_mixed (F : Dn K mg "_law_mixed" s_mixed ["_law_cell", "_law_k"]) (T : Bt mg) : Cal P w K mg base 1 "_law_mixed" spMixed [] := by
  refine F.cal sc_mixed (fun vs H Q E h => ?_) (fun f cdv A outer s H vs Q E hr h => ?_)
  · obtain ⟨a, b, rfl, _⟩ := h
    rfl
  · obtain ⟨a, b, rfl, a0, a1, b0, b1, k⟩ := h
    refine ⟨_, (pss_cons (ps_set (i := 2) sc_mixed.nd rfl (Or.inl rfl) (pe_op op_mod (pe_callTy cInt1 (by rfl) T.int (by decide +kernel) (pa_cons (pe_op op_add (pe_op op_add (pe_op op_add (pe_op oMul (pv 0) pe_int) (pe_op oMul (pe_op oMul pe_int (pv 1)) (pv 1))) (pe_op oMul pe_int (pv 1))) pe_int) pa_nil)) pe_int))
      (pss_one (ps_ret (pe_op op_fdivW (pe_op op_mod (pe_callTy cInt1 (by rfl) T.int (by decide +kernel) (pa_cons (pe_op op_add (pe_op op_add (pe_op oMul (pv 2) (pv 2)) (pe_op oMul pe_int (pv 2))) pe_int) pa_nil)) pe_int) pe_int)))), ?_⟩
    walk_at "go"
    · exact k _ (by omega) (by omega)
abbrev s_purse : Stmt := (top 37)
theorem sc_purse : FnScope ["_law_cells", "_law_at", "_law_cell"] ["_law_cells", "_law_at"] (defScope s_purse) :=
  ⟨rfl, rfl, rfl, by decide +kernel, rfl, by decide +kernel, by decide +kernel⟩
theorem ok_purse (F : Dn K mg "_law_purse" s_purse ["_law_cells", "_law_at"]) (T : Bt mg) : Cal P w K mg base 1 "_law_purse" (spPurse K) [] := by
  refine F.cal sc_purse (fun vs H Q E h => ?_) (fun f cdv A outer s H vs Q E hr h => ?_)
  · obtain ⟨a, ns, i, rfl, _⟩ := h
    rfl
  · obtain ⟨a, ns, i, rfl, hS, i0, hl, k⟩ := h
    have e1 : CPowW 10 18 := ⟨by decide, by decide +kernel⟩
    have e2 : CPowW 10 60 := ⟨by decide, by decide +kernel⟩
    have e3 : CPowW (10 ^ Int.toNat 60) 8 := ⟨by decide, by decide +kernel⟩
    have e4 : (0 : Int) < (10 ^ Int.toNat 60) ^ Int.toNat 8 := by decide +kernel
    have e5 : ((10 : Int) ^ Int.toNat 60) ^ Int.toNat 8 < 2 ^ 1600 := by decide +kernel
    generalize e6 : ((10 : Int) ^ Int.toNat 60) ^ Int.toNat 8 = g at e4 e5
    have fin : ∀ c : Int, Q = Q → ∀ p, H p = none → Q (.ref p) (upd H p (.lst [.int ((if 0 > c - 10 ^ Int.toNat 18 then 0 else c - 10 ^ Int.toNat 18) % g), .int (c % 2147483647), .int (1000 * i)])) := fun c _ p np =>
      k p _ np (Same.new np) ⟨_, _, _, upd_same, Int.emod_nonneg _ (by omega), Int.lt_trans (Int.emod_lt_of_pos _ e4) e5, by omega, by omega, by omega, by omega⟩
    refine ⟨_, (pss_cons (ps_set (i := 2) sc_purse.nd rfl (Or.inl rfl) pe_int)
      (pss_cons (ps_if (pt_cmpR op_lt (pv 1) (pe_callB cLen (by rfl) T.len (by decide +kernel) (pa_cons (pv 0) pa_nil)) (nomark _)) (pss_one (ps_set (i := 2) sc_purse.nd rfl (Or.inl rfl) (pe_ix ix_list (pv 0) (pv 1) (fun _ _ => rfl)))) pss_nil)
      (pss_one (ps_ret (pe_lst (pa_cons (pe_op op_mod (pe_callTy cInt1 (by rfl) T.int (by decide +kernel) (pa_cons (pe_callB (cMax2 rfl) (by rfl) T.max (by decide +kernel) (pa_cons (pe_op op_sub (pv 2) (pe_op oPowW pe_int pe_int)) (pa_cons pe_int pa_nil))) pa_nil)) (pe_op oPowW (pe_op oPowW pe_int pe_int) pe_int)) (pa_cons (pe_op op_mod (pe_callTy cInt1 (by rfl) T.int (by decide +kernel) (pa_cons (pv 2) pa_nil)) pe_int) (pa_cons (pe_op oMul pe_int (pv 1)) pa_nil)))))))), ?_⟩
    walk_at "go"
    refine ite_d (fun h => ?_) (fun h => ?_)
    · walk_at "go"
      refine w_ixL hS (atI_ints i0 h) ?_
      walk_at "go"
      rw [e6]
      exact fin _ rfl
    · walk_at "go"
      rw [e6]
      exact fin _ rfl
abbrev s_draw : Stmt := (top 38)
theorem sc_draw : FnScope ["_law_purse_here", "_law_out_of", "_law_drawn"] ["_law_purse_here", "_law_out_of"] (defScope s_draw) :=
  ⟨rfl, rfl, rfl, by decide +kernel, rfl, by decide +kernel, by decide +kernel⟩
theorem ok_draw (F : Dn K mg "_law_draw" s_draw ["_law_purse_here", "_law_out_of"]) (T : Bt mg) (c_mixed : Cal P w K mg base 1 "_law_mixed" spMixed []) : Cal P w K mg base 2 "_law_draw" spDraw [] := by
  refine F.cal sc_draw (fun vs H Q E h => ?_) (fun f cdv A outer s H vs Q E hr h => ?_)
  · obtain ⟨a, n, c, rfl, _⟩ := h
    rfl
  · obtain ⟨a, n, c, rfl, n0, n1, hc, ⟨x, y, z, hp, x0, x1, y0, y1, z0, z1⟩, k⟩ := h
    refine ⟨_, (pss_cons (ps_if (pt_cmpR op_gt (pe_ix ix_list (pv 0) pe_int (fun _ _ => rfl)) pe_int (nomark _)) (pss_cons (ps_set (i := 2) sc_draw.nd rfl (Or.inl rfl) (pe_op op_mod (pe_callTy cInt1 (by rfl) T.int (by decide +kernel) (pa_cons (pe_ix ix_list (pv 0) pe_int (fun _ _ => rfl)) pa_nil)) (pv 1)))
      (pss_cons (ps_asg (pe_op op_fdivW (pe_ix ix_list (pv 0) pe_int (fun _ _ => rfl)) (pv 1)) (pg_sub (pv 0) pe_int set_list))
      (pss_one (ps_ret (pv 2))))) pss_nil)
      (pss_cons (ps_asg (pe_op op_add (pe_ix ix_list (pv 0) pe_int (fun _ _ => rfl)) pe_int) (pg_sub (pv 0) pe_int set_list))
      (pss_one (ps_ret (pe_op op_mod (pe_callTy cInt1 (by rfl) T.int (by decide +kernel) (pa_cons (pe_c c_mixed hr (by decide) (by rfl) (pa_cons (pe_ix ix_list (pv 0) pe_int (fun _ _ => rfl)) (pa_cons (pe_ix ix_list (pv 0) pe_int (fun _ _ => rfl)) pa_nil))) pa_nil)) (pv 1)))))), ?_⟩
    walk_at "go"
    refine ite_d (fun h => ?_) (fun h => ?_)
    · walk_at "go"
      exact k _ _ (Int.emod_nonneg _ (by omega)) (Int.emod_lt_of_pos _ n0) Keep.refl.upd ⟨_, _, _, upd_same, Int.ediv_nonneg x0 (by omega), Int.lt_of_le_of_lt (Int.ediv_le_self _ x0) x1, y0, y1, z0, by omega⟩
    · walk_at "go"
      refine ⟨_, _, rfl, y0, y1, (by omega), (by omega), fun r r0 r1 => ?_⟩
      walk_at "go"
      exact k _ _ (Int.emod_nonneg _ (by omega)) (Int.emod_lt_of_pos _ n0) Keep.refl.upd ⟨_, _, _, upd_same, x0, x1, y0, y1, by omega, by omega⟩
abbrev s_great : Stmt := (top 39)
theorem sc_great : FnScope ["_law_purse_here", "_law_figures", "_law_found", "_law_turn"] ["_law_purse_here", "_law_figures"] (defScope s_great) :=
  ⟨rfl, rfl, rfl, by decide +kernel, rfl, by decide +kernel, by decide +kernel⟩
theorem ok_great (F : Dn K mg "_law_great" s_great ["_law_purse_here", "_law_figures"]) (T : Bt mg) (c_draw : Cal P w K mg base 2 "_law_draw" spDraw []) : Cal P w K mg base 3 "_law_great" spGreat [] := by
  refine F.cal sc_great (fun vs H Q E h => ?_) (fun f cdv A outer s H vs Q E hr h => ?_)
  · obtain ⟨a, n, c, rfl, _⟩ := h
    rfl
  · obtain ⟨a, n, c, rfl, n0, n1, hc, p, k⟩ := h
    refine ⟨_, (pss_cons (ps_set (i := 2) sc_great.nd rfl (Or.inl rfl) pe_int)
      (pss_cons (ps_for PassesOwn.never rfl (pi_range1 (by rfl) T.range (pa_cons (pv 1) pa_nil)) (pg_name (i := 3) sc_great.nd rfl (Or.inl rfl)) (pss_one (ps_set (i := 2) sc_great.nd rfl (Or.inl rfl) (pe_op op_add (pe_op oMul pe_int (pv 2)) (pe_c c_draw hr (by decide) (by rfl) (pa_cons (pv 0) (pa_cons pe_int pa_nil)))))))
      (pss_one (ps_ret (pv 2))))), ?_⟩
    walk_at "go"
    refine for_range (lo := 0) (n := n.toNat) (fun i σ H' => ∃ (v : Int) (u : Option V), σ = [some (.ref a), some (.int n), some (.int v), u] ∧ 0 ≤ v ∧ v < 10 ^ i ∧ Keep a H H' ∧ Purse H' a (c + i))
      ⟨0, none, rfl, by decide, by decide, Keep.refl, p.le (by omega)⟩ ?_ ?_
    · rintro i σ H' hi ⟨v, u, rfl, v0, v1, kp, pu⟩
      walk_at "go"
      refine use_draw pu (by decide) (by decide) (by omega) (fun r H2 r0 r1 k2 p2 => ?_)
      walk_at "go"
      refine ⟨_, _, rfl, by omega, ?_, kp.trans k2, p2.le (by omega)⟩
      rw [Int.pow_succ]
      omega
    · rintro σ H' ⟨v, u, rfl, v0, v1, kp, pu⟩
      walk_at "go"
      exact k _ _ v0 v1 kp (pu.le (by omega))

abbrev s_style : Stmt := (top 44)
theorem sc_style : FnScope ["_law_purse_here", "_law_moved"] ["_law_purse_here"] (defScope s_style) :=
  ⟨rfl, rfl, rfl, by decide +kernel, rfl, by decide +kernel, by decide +kernel⟩
theorem ok_style (F : Dn K mg "_law_style" s_style ["_law_purse_here"]) (T : Bt mg) (c_draw : Cal P w K mg base 2 "_law_draw" spDraw []) (c_great : Cal P w K mg base 3 "_law_great" spGreat []) : Cal P w K mg base 4 "_law_style" spStyle [] := by
  refine F.cal sc_style (fun vs H Q E h => ?_) (fun f cdv A outer s H vs Q E hr h => ?_)
  · obtain ⟨a, c, rfl, _⟩ := h
    rfl
  · obtain ⟨a, c, rfl, hc, p, k⟩ := h
    refine ⟨_, (pss_cons (ps_set (i := 1) sc_style.nd rfl (Or.inl rfl) (pe_ix ix_list (pe_lst (pa_cons pe_int (pa_cons pe_int (pa_cons pe_int (pa_cons (pe_op op_sub pe_int pe_int) (pa_cons (pe_c c_great hr (by decide) (by rfl) (pa_cons (pv 0) (pa_cons (pe_op op_add pe_int (pe_c c_draw hr (by decide) (by rfl) (pa_cons (pv 0) (pa_cons pe_int pa_nil)))) pa_nil))) pa_nil)))))) (pe_c c_draw hr (by decide) (by rfl) (pa_cons (pv 0) (pa_cons pe_int pa_nil))) (fun _ _ => rfl)))
      (pss_one (ps_ret (pe_lst (pa_cons (pe_cmpR op_eq (pe_c c_draw hr (by decide) (by rfl) (pa_cons (pv 0) (pa_cons pe_int pa_nil))) pe_int (nomark _)) (pa_cons (pv 1) (pa_cons (pe_cmpR op_eq (pe_c c_draw hr (by decide) (by rfl) (pa_cons (pv 0) (pa_cons pe_int pa_nil))) pe_int (nomark _)) pa_nil))))))), ?_⟩
    walk_at "go"
    refine use_draw p (by decide) (by decide) (by omega) (fun r1 H1 r10 r11 k1 p1 => ?_)
    walk_at "go"
    refine use_great p1 (by omega) (by omega) (by omega) (fun g H2 g0 g1 k2 p2 => ?_)
    walk_at "go"
    intro q1 f1
    have s1 : Same H2 (upd H2 q1 (.lst (([0, 0, 1, 0 - 97, g] : List Int).map V.int))) := Same.new f1
    have m1 := p2.fresh f1
    walk_at "go"
    refine use_draw (p2.same s1) (by decide) (by decide) (by omega) (fun r2 H3 r20 r21 k3 p3 => ?_)
    have h1 := k3.at_ m1 (upd_same (H := H2) (a := q1) (o := .lst (([0, 0, 1, 0 - 97, g] : List Int).map V.int)))
    refine w_ixL (xs := ([0, 0, 1, 0 - 97, g] : List Int).map V.int) (sq h1) (atI_ints r20 (by simpa using r21)) ?_
    have hb : (([0, 0, 1, 0 - 97, g] : List Int).getD r2.toNat 0).natAbs < 10 ^ 31 := by
      have hg : g.natAbs < 10 ^ 31 := by
        have h2 : (10 : Int) ^ (1 + r1).toNat ≤ 10 ^ 30 := by
          have e : (10 : Int) ^ (1 + r1).toNat = ((10 ^ (1 + r1).toNat : Nat) : Int) := by rw [Int.natCast_pow]; rfl
          have e2 : 10 ^ (1 + r1).toNat ≤ 10 ^ 30 := Nat.pow_le_pow_right (by decide) (by omega)
          rw [e]
          omega
        omega
      have hr : r2 = 0 ∨ r2 = 1 ∨ r2 = 2 ∨ r2 = 3 ∨ r2 = 4 := by omega
      rcases hr with rfl | rfl | rfl | rfl | rfl
      · show (0 : Int).natAbs < 10 ^ 31; decide
      · show (0 : Int).natAbs < 10 ^ 31; decide
      · show (1 : Int).natAbs < 10 ^ 31; decide
      · show (0 - 97 : Int).natAbs < 10 ^ 31; decide
      · exact hg
    generalize ([0, 0, 1, 0 - 97, g] : List Int).getD r2.toNat 0 = sh at hb
    walk_at "go"
    refine use_draw p3 (by decide) (by decide) (by omega) (fun r4 H4 r40 r41 k4 p4 => ?_)
    walk_at "go"
    refine use_draw p4 (by decide) (by decide) (by omega) (fun r5 H5 r50 r51 k5 p5 => ?_)
    walk_at "go"
    intro q2 f2
    walk_at "go"
    have kp : Keep a H H5 := k1.trans (k2.trans ((Keep.of s1).trans (k3.trans (k4.trans k5))))
    have g2 : H q2 = none := by
      cases e : H q2 with
      | none => rfl
      | some o =>
        by_cases z : q2 = a
        · rw [z] at f2
          obtain ⟨_, _, _, e2, _⟩ := p5
          rw [e2] at f2
          cases f2
        · rw [kp _ _ z e] at f2
          cases f2
    exact k q2 _ ⟨_, sh, _⟩ g2 (kp.trans (Keep.of (Same.new f2))) ((p5.same (Same.new f2)).le (by omega)) upd_same hb
abbrev s_marking : Stmt := (top 45)
theorem sc_marking : FnScope ["_law_given"] ["_law_given"] (defScope s_marking) :=
  ⟨rfl, rfl, rfl, by decide +kernel, rfl, by decide +kernel, by decide +kernel⟩
theorem ok_marking {ca : CA} (F : Dn K mg "_law_marking" s_marking ["_law_given"]) (T : Bt mg) (c_mk3 : MakK P w K mg base 2 "Marking" ca.kg ["low", "shift", "lead"] (spMkInit ca) (fun vs zs => vs ++ zs)) : Cal P w K mg base 4 "_law_marking" (spMarking ca) [] := by
  refine F.cal sc_marking (fun vs H Q E h => ?_) (fun f cdv A outer s H vs Q E hr h => ?_)
  · obtain ⟨g, y, rfl, _⟩ := h
    rfl
  · obtain ⟨g, y, rfl, hg, q⟩ := h
    refine ⟨_, (pss_one (ps_ret (pe_mkK0 c_mk3 hr (by decide) (by rfl) (pk_cons (pe_ix ix_list (pv 0) pe_int (fun _ _ => rfl)) (pk_cons (pe_ix ix_list (pv 0) pe_int (fun _ _ => rfl)) (pk_cons (pe_ix ix_list (pv 0) pe_int (fun _ _ => rfl)) pk_nil)))))), ?_⟩
    walk_at "go"
    refine ⟨rfl, rfl, use_mk fun m H' nm s1 hm => ?_⟩
    walk_at "go"
    exact q _ _ nm s1 hm
abbrev s_signs : Stmt := (top 40)
theorem sc_signs : FnScope ["_law_purse_here", "_law_many", "_law_signs_here", "_law_some", "_law_k"] ["_law_purse_here", "_law_many"] (defScope s_signs) :=
  ⟨rfl, rfl, rfl, by decide +kernel, rfl, by decide +kernel, by decide +kernel⟩
theorem ok_signs (F : Dn K mg "_law_signs" s_signs ["_law_purse_here", "_law_many"]) (T : Bt mg) (c_draw : Cal P w K mg base 2 "_law_draw" spDraw []) : Cal P w K mg base 3 "_law_signs" spSigns [] := by
  refine F.cal sc_signs (fun vs H Q E h => ?_) (fun f cdv A outer s H vs Q E hr h => ?_)
  · obtain ⟨a, n, c, rfl, _⟩ := h
    rfl
  · obtain ⟨a, n, c, rfl, n0, n1, hc, p, k⟩ := h
    refine ⟨_, (pss_cons (ps_set (i := 2) sc_signs.nd rfl (Or.inl rfl) (pe_lst (pa_cons pe_str (pa_cons pe_str (pa_cons pe_str (pa_cons pe_str pa_nil))))))
      (pss_cons (ps_set (i := 3) sc_signs.nd rfl (Or.inr rfl) (pe_ix ix_list (pv 2) (pe_c c_draw hr (by decide) (by rfl) (pa_cons (pv 0) (pa_cons pe_int pa_nil))) (fun _ _ => rfl)))
      (pss_one (ps_ret (pe_join pe_str (pe_lc (own := [("_law_k", 4)]) (g := gName 4) (tt := tYes) (te := (tOp rIxS (tVar 3) (tCall _ _ _ (tCons (tVar 0) (tCons (tCB _ (tCons (tVar 3) tNil)) tNil))))) rfl sc_signs.nd (pi_range1 (by rfl) T.range (pa_cons (pv 1) pa_nil)) (blkOk_by (own := [("_law_k", 4)]) (N := ["_law_purse_here", "_law_many", "_law_signs_here", "_law_some", "_law_k"]) (sc := defScope s_signs) (by decide +kernel)) (fun _ _ _ _ _ => (pg_name (i := 4) sc_signs.nd rfl (Or.inl rfl))) (fun _ _ _ _ _ => pts_nil) (fun _ _ _ _ _ => (pe_ix ix_str (pv 3) (pe_c c_draw hr (by decide) (by rfl) (pa_cons (pv 0) (pa_cons (pe_callB cLenS (by rfl) T.len (by decide +kernel) (pa_cons (pv 3) pa_nil)) pa_nil))) (fun _ _ => rfl))))))))), ?_⟩
    walk_at "go"
    intro q1 f1
    walk_at "go"
    have p1 := p.same (Same.new (o := .lst [.str " ~", .str "ab", .str "abcdefghijklmnopqrstuvwxyz", .str " !#$&'()*+,-./09:;<=>?@AZ[]^_az{|}~"]) f1)
    have m1 := p.fresh f1
    refine use_draw p1 (by decide) (by decide) (by omega) (fun r H1 r0 r1 k1 p2 => ?_)
    have h1 := k1.at_ m1 upd_same
    obtain ⟨z, hz, hl, he⟩ : ∃ z : Str, Plain z ∧ (0 < z.length ∧ z.length ≤ 100) ∧ atI [V.str " ~", .str "ab", .str "abcdefghijklmnopqrstuvwxyz", .str " !#$&'()*+,-./09:;<=>?@AZ[]^_az{|}~"] r = some (.str z) := by
      have hr : r = 0 ∨ r = 1 ∨ r = 2 ∨ r = 3 := by omega
      rcases hr with rfl | rfl | rfl | rfl
      · exact ⟨" ~", by decide +kernel, by decide +kernel, atI_nat (j := 0) rfl⟩
      · exact ⟨"ab", by decide +kernel, by decide +kernel, atI_nat (j := 1) rfl⟩
      · exact ⟨"abcdefghijklmnopqrstuvwxyz", by decide +kernel, by decide +kernel, atI_nat (j := 2) rfl⟩
      · exact ⟨" !#$&'()*+,-./09:;<=>?@AZ[]^_az{|}~", by decide +kernel, by decide +kernel, atI_nat (j := 3) rfl⟩
    refine w_ixL (sq h1) he ?_
    have kp : Keep a H H1 := (Keep.of (Same.new f1)).trans k1
    walk_at "go"
    intro D hD
    refine lc_drawsV ((List.range n.toNat).map fun i : Nat => V.int (0 + (i : Int))) a _ 1 (fun y => ∃ c : Nat, (32 ≤ c ∧ c ≤ 126) ∧ y = .str ⟨#[c]⟩) walk_rangeY p2 hD (fun _ _ => trivial) (by rw [List.length_map, List.length_range]; omega) (fun _ => rfl) ?_ ?_
    · intro i x H2 hx k2 p3 Q' q'
      have hi : i < n.toNat := by
        have := (List.getElem?_eq_some_iff.mp hx).1
        rwa [List.length_map, List.length_range] at this
      walk_at "go"
      refine w_lenS (sz (by omega)) ?_
      walk_at "go"
      refine use_draw p3 (by omega) (by omega) (by omega) (fun r2 H3 r20 r21 k3 p4 => ?_)
      have hlt : r2.toNat < z.cps.toList.length := by
        have : (z.cps.toList.length : Int) = (z.length : Int) := by show ((z.cps.toList.length : Nat) : Int) = (z.cps.size : Nat); rw [Array.length_toList]
        omega
      refine w_ixS (sz (by omega)) (c := z.cps.toList[r2.toNat]) ?_ ?_
      · obtain ⟨j, rfl⟩ := Int.eq_ofNat_of_zero_le r20
        exact atI_nat (List.getElem?_eq_getElem _)
      · exact q' _ _ ⟨_, hz _ (List.getElem_mem hlt), rfl⟩ k3 (p4.le (by omega))
    · intro H2 ys hys hR hD2 k2 p3
      have hln : ((List.range n.toNat).map fun i : Nat => V.int (0 + (i : Int))).length = n.toNat := by rw [List.length_map, List.length_range]
      rw [hln] at hys p3
      obtain ⟨cs, hcs, rfl⟩ := signs_of hR
      have hcl : cs.length = n.toNat := by
        rw [List.length_map, List.length_map] at hys
        exact hys
      walk_at "go"
      refine ⟨_, D, _, rfl, rfl, .inl (sq hD2), ?_, ?_⟩
      · have e1 : ((cs.map fun c => (⟨#[c]⟩ : Str)).map (·.length)).sum = cs.length := by
          rw [List.map_map]
          clear hys hcl hD2 hR hcs
          induction cs with
          | nil => rfl
          | cons c r ih =>
            rw [List.map_cons, List.sum_cons, ih, List.length_cons]
            show 1 + r.length = r.length + 1
            omega
        rw [e1]
        show cs.length + _ * 0 ≤ _
        omega
      · walk_at "go"
        have hj := join_signs cs
        refine k _ _ (kp.trans k2) (p3.le (by omega)) ?_ ?_
        · intro c hc
          rw [hj] at hc
          exact hcs c hc
        · have : (Txt.join (Str.ofString "") (cs.map fun c => (⟨#[c]⟩ : Str))).length = cs.length := by
            show (Txt.join (Str.ofString "") (cs.map fun c => (⟨#[c]⟩ : Str))).cps.size = cs.length
            rw [← Array.length_toList, hj]
          rw [this, hcl]
          omega
abbrev s_letter : Stmt := (top 41)
theorem sc_letter : FnScope ["_law_purse_here", "_law_kind"] ["_law_purse_here"] (defScope s_letter) :=
  ⟨rfl, rfl, rfl, by decide +kernel, rfl, by decide +kernel, by decide +kernel⟩
theorem ok_letter (F : Dn K mg "_law_letter" s_letter ["_law_purse_here"]) (T : Bt mg) (c_draw : Cal P w K mg base 2 "_law_draw" spDraw []) (c_great : Cal P w K mg base 3 "_law_great" spGreat []) : Cal P w K mg base 4 "_law_letter" spLetter [] := by
  refine F.cal sc_letter (fun vs H Q E h => ?_) (fun f cdv A outer s H vs Q E hr h => ?_)
  · obtain ⟨a, c, rfl, _⟩ := h
    rfl
  · obtain ⟨a, c, rfl, hc, p, k⟩ := h
    refine ⟨_, (pss_cons (ps_set (i := 1) sc_letter.nd rfl (Or.inl rfl) (pe_c c_draw hr (by decide) (by rfl) (pa_cons (pv 0) (pa_cons pe_int pa_nil))))
      (pss_cons (ps_if (pt_cmpR op_eq (pv 1) pe_int (nomark _)) (pss_one (ps_ret (pe_op oMul (pe_ix ix_list (pe_lst (pa_cons pe_int (pa_cons (pe_un un_neg pe_int) pa_nil))) (pe_c c_draw hr (by decide) (by rfl) (pa_cons (pv 0) (pa_cons pe_int pa_nil))) (fun _ _ => rfl)) (pe_c c_great hr (by decide) (by rfl) (pa_cons (pv 0) (pa_cons (pe_op op_add pe_int (pe_c c_draw hr (by decide) (by rfl) (pa_cons (pv 0) (pa_cons pe_int pa_nil)))) pa_nil)))))) pss_nil)
      (pss_one (ps_ret (pe_op op_add (pe_c c_draw hr (by decide) (by rfl) (pa_cons (pv 0) (pa_cons (pe_ix ix_list (pe_lst (pa_cons pe_int (pa_cons pe_int (pa_cons pe_int (pa_cons pe_int pa_nil))))) (pe_op op_sub (pv 1) pe_int) (fun _ _ => rfl)) pa_nil))) (pe_ix ix_list (pe_lst (pa_cons pe_int (pa_cons (pe_un un_neg pe_int) (pa_cons (pe_un un_neg pe_int) (pa_cons pe_int pa_nil))))) (pe_op op_sub (pv 1) pe_int) (fun _ _ => rfl))))))), ?_⟩
    walk_at "go"
    refine use_draw p (by decide) (by decide) (by omega) (fun r H1 r0 r1 k1 p1 => ?_)
    walk_at "go"
    refine ite_d (fun hr => ?_) (fun hr => ?_)
    · walk_at "go"
      intro q1 f1
      have s1 : Same H1 (upd H1 q1 (.lst (([1, -1] : List Int).map V.int))) := Same.new f1
      have m1 := p1.fresh f1
      walk_at "go"
      refine use_draw (p1.same s1) (by decide) (by decide) (by omega) (fun r2 H2 r20 r21 k2 p2 => ?_)
      have h1 := k2.at_ m1 (upd_same (H := H1) (a := q1) (o := .lst (([1, -1] : List Int).map V.int)))
      refine w_ixL (xs := ([1, -1] : List Int).map V.int) (sq h1) (atI_ints r20 (by simpa using r21)) ?_
      have hs : ([1, -1] : List Int).getD r2.toNat 0 = 1 ∨ ([1, -1] : List Int).getD r2.toNat 0 = -1 := by
        have hr : r2 = 0 ∨ r2 = 1 := by omega
        rcases hr with rfl | rfl
        · exact .inl rfl
        · exact .inr rfl
      generalize ([1, -1] : List Int).getD r2.toNat 0 = sg at hs
      walk_at "go"
      refine use_draw p2 (by decide) (by decide) (by omega) (fun r3 H3 r30 r31 k3 p3 => ?_)
      walk_at "go"
      refine use_great p3 (by omega) (by omega) (by omega) (fun g H4 g0 g1 k4 p4 => ?_)
      walk_at "go"
      · refine k _ _ (k1.trans ((Keep.of s1).trans (k2.trans (k3.trans k4)))) (p4.le (by omega)) ?_
        have hg : g.natAbs < 10 ^ 31 := by
          have h2 : (10 : Int) ^ (1 + r3).toNat ≤ 10 ^ 30 := by
            have e : (10 : Int) ^ (1 + r3).toNat = ((10 ^ (1 + r3).toNat : Nat) : Int) := by rw [Int.natCast_pow]; rfl
            have e2 : 10 ^ (1 + r3).toNat ≤ 10 ^ 30 := Nat.pow_le_pow_right (by decide) (by omega)
            rw [e]
            omega
          omega
        rcases hs with rfl | rfl <;> omega
    · have hr' : r ≠ 0 := fun z => hr (by rw [z])
      walk_at "go"
      intro q1 f1
      have s1 : Same H1 (upd H1 q1 (.lst (([3, 9, 200, 96] : List Int).map V.int))) := Same.new f1
      walk_at "go"
      refine w_ixL (xs := ([3, 9, 200, 96] : List Int).map V.int) (sq upd_same) (atI_ints (by omega) (by show r - 1 < 4; omega)) ?_
      have hb : 0 < ([3, 9, 200, 96] : List Int).getD (r - 1).toNat 0 ∧ ([3, 9, 200, 96] : List Int).getD (r - 1).toNat 0 ≤ 200 := by
        have hr2 : r = 1 ∨ r = 2 ∨ r = 3 ∨ r = 4 := by omega
        rcases hr2 with rfl | rfl | rfl | rfl <;> decide
      generalize ([3, 9, 200, 96] : List Int).getD (r - 1).toNat 0 = m at hb
      walk_at "go"
      refine use_draw (p1.same s1) hb.1 (by omega) (by omega) (fun r2 H2 r20 r21 k2 p2 => ?_)
      walk_at "go"
      intro q2 f2
      have s2 : Same H2 (upd H2 q2 (.lst (([0, -4, -100, 31] : List Int).map V.int))) := Same.new f2
      walk_at "go"
      refine w_ixL (xs := ([0, -4, -100, 31] : List Int).map V.int) (sq upd_same) (atI_ints (by omega) (by show r - 1 < 4; omega)) ?_
      have hb2 : -100 ≤ ([0, -4, -100, 31] : List Int).getD (r - 1).toNat 0 ∧ ([0, -4, -100, 31] : List Int).getD (r - 1).toNat 0 ≤ 31 := by
        have hr2 : r = 1 ∨ r = 2 ∨ r = 3 ∨ r = 4 := by omega
        rcases hr2 with rfl | rfl | rfl | rfl <;> decide
      generalize ([0, -4, -100, 31] : List Int).getD (r - 1).toNat 0 = t at hb2
      walk_at "go"
      exact k _ _ (k1.trans ((Keep.of s1).trans (k2.trans (Keep.of s2)))) ((p2.same s2).le (by omega)) (by omega)
abbrev s_text : Stmt := (top 42)
theorem sc_text : FnScope ["_law_purse_here", "_law_longest", "_law_many", "_law_kind", "_law_found", "_law_k"] ["_law_purse_here", "_law_longest"] (defScope s_text) :=
  ⟨rfl, rfl, rfl, by decide +kernel, rfl, by decide +kernel, by decide +kernel⟩
theorem ok_text (F : Dn K mg "_law_text" s_text ["_law_purse_here", "_law_longest"]) (T : Bt mg) (c_draw : Cal P w K mg base 2 "_law_draw" spDraw []) (c_signs : Cal P w K mg base 3 "_law_signs" spSigns []) (c_letter : Cal P w K mg base 4 "_law_letter" spLetter []) : Cal P w K mg base 5 "_law_text" spText [] := by
  refine F.cal sc_text (fun vs H Q E h => ?_) (fun f cdv A outer s H vs Q E hr h => ?_)
  · obtain ⟨a, n, c, rfl, _⟩ := h
    rfl
  · obtain ⟨a, n, c, rfl, n0, n1, hc, p, k⟩ := h
    refine ⟨_, (pss_cons (ps_set (i := 2) sc_text.nd rfl (Or.inl rfl) (pe_c c_draw hr (by decide) (by rfl) (pa_cons (pv 0) (pa_cons (pe_op op_add (pv 1) pe_int) pa_nil))))
      (pss_cons (ps_set (i := 3) sc_text.nd rfl (Or.inl rfl) (pe_c c_draw hr (by decide) (by rfl) (pa_cons (pv 0) (pa_cons pe_int pa_nil))))
      (pss_cons (ps_if (pt_cmpR op_eq (pv 3) pe_int (nomark _)) (pss_one (ps_ret (pe_c c_signs hr (by decide) (by rfl) (pa_cons (pv 0) (pa_cons (pv 2) pa_nil))))) pss_nil)
      (pss_cons (ps_setLc (i := 4) (own := [("_law_k", 5)]) (g := gName 5) (tt := tYes) (te := (tCall _ _ _ (tCons (tVar 0) tNil))) rfl sc_text.nd rfl rfl (sw_true rfl rfl rfl (by decide +kernel)) (pi_range1 (by rfl) T.range (pa_cons (pv 2) pa_nil)) (blkOk_by (own := [("_law_k", 5)]) (N := ["_law_purse_here", "_law_longest", "_law_many", "_law_kind", "_law_found", "_law_k"]) (sc := defScope s_text) (by decide +kernel)) (fun _ _ _ _ _ => (pg_name (i := 5) sc_text.nd rfl (Or.inl rfl))) (fun _ _ _ _ _ => pts_nil) (fun _ _ _ _ _ => (pe_c c_letter hr (by decide) (by rfl) (pa_cons (pv 0) pa_nil))))
      (pss_one (ps_ret (pe_ix ix_list (pe_lst (pa_cons (pv 4) (pa_cons (pe_callTy cTupOf (by rfl) T.tuple (by decide +kernel) (pa_cons (pv 4) pa_nil)) pa_nil))) (pe_op op_sub (pv 3) pe_int) (fun _ _ => rfl)))))))), ?_⟩
    walk_at "go"
    refine use_draw p (by omega) (by omega) (by omega) (fun m H1 m0 m1 k1 p1 => ?_)
    walk_at "go"
    refine use_draw p1 (by decide) (by decide) (by omega) (fun r H2 r0 r1 k2 p2 => ?_)
    have k12 := k1.trans k2
    walk_at "go"
    refine ite_d (fun hr => ?_) (fun hr => ?_)
    · walk_at "go"
      refine ⟨a, m, _, rfl, m0, by omega, by omega, p2, fun z H3 k3 p3 hz hl => ?_⟩
      walk_at "go"
      refine k _ _ _ (k12.trans k3) (p3.le (by omega)) (.str z hz (by omega)) trivial ?_ (fun l hl2 => mem_ints hz hl2)
      rw [List.length_map]
      show ((z.cps.toList.length : Nat) : Int) ≤ n
      rw [Array.length_toList]
      have : ((z.cps.size : Nat) : Int) = m := hl
      omega
    · have hr' : r ≠ 0 := fun z => hr (by rw [z])
      walk_at "go"
      intro D hD
      refine lc_draws ((List.range m.toNat).map fun i : Nat => V.int (0 + (i : Int))) a _ 34 (fun x => x.natAbs < 10 ^ 31) walk_rangeY p2 hD (fun _ _ => trivial) (by rw [List.length_map, List.length_range]; omega) (fun _ => rfl) ?_ ?_
      · intro i x H3 hx k3 p3 Q' q'
        have hi : i < m.toNat := by
          have := (List.getElem?_eq_some_iff.mp hx).1
          rwa [List.length_map, List.length_range] at this
        walk_at "go"
        refine use_letter p3 (by omega) (fun x H4 k4 p4 hx4 => ?_)
        exact q' _ _ hx4 k4 (p4.le (by omega))
      · intro H3 ys hys hR hD3 k3 p3
        have hln : ((List.range m.toNat).map fun i : Nat => V.int (0 + (i : Int))).length = m.toNat := by rw [List.length_map, List.length_range]
        rw [hln] at hys p3
        have nD := p2.fresh hD
        walk_at "go"
        refine w_tupL (sq hD3) fun t ht => ?_
        have nt := p3.fresh ht
        have s4 : Same H3 (upd H3 t (.tup (ys.map V.int))) := Same.new ht
        walk_at "go"
        intro q1 f1
        walk_at "go"
        have s5 := s4.trans (Same.new (o := .lst [.ref D, .ref t]) f1)
        have kF := k12.trans (k3.trans (Keep.of s5))
        have pF := (p3.same s5).le (d := c + 2 + 34 * (n + 1)) (by omega)
        have hr2 : r = 1 ∨ r = 2 := by omega
        rcases hr2 with rfl | rfl
        · refine w_ixL (sq upd_same) (atI_nat (j := 0) rfl) ?_
          walk_at "go"
          exact k _ ys _ kF pF (.lst D ys (s5 _ _ hD3) (by omega)) nD (by omega) hR
        · refine w_ixL (sq upd_same) (atI_nat (j := 1) rfl) ?_
          walk_at "go"
          exact k _ ys _ kF pF (.tup t ys (upd_new f1 upd_same) (by omega)) nt (by omega) hR
abbrev s_letters : Stmt := (top 43)
theorem sc_letters : FnScope ["_law_string", "_law_sign"] ["_law_string"] (defScope s_letters) :=
  ⟨rfl, rfl, rfl, by decide +kernel, rfl, by decide +kernel, by decide +kernel⟩
theorem ok_letters (F : Dn K mg "_law_letters" s_letters ["_law_string"]) (T : Bt mg) : Cal P w K mg base 1 "_law_letters" spLetters [] := by
  refine F.cal sc_letters (fun vs H Q E h => ?_) (fun f cdv A outer s H vs Q E hr h => ?_)
  · obtain ⟨v, ls, rfl, _⟩ := h
    rfl
  · obtain ⟨v, ls, rfl, tx, k⟩ := h
    refine ⟨_, (pss_cons (ps_if (pt_val (pe_callB call_isi (by rfl) T.isinstance (by decide +kernel) (pa_cons (pv 0) (pa_cons (pe_bltn (v := .ty "str") (by rfl) T.str (by decide +kernel) rfl) pa_nil)))) (pss_one (ps_ret (pe_lc (own := [("_law_sign", 1)]) (g := gName 1) (tt := tYes) (te := (tCB _ (tCons (tVar 1) tNil))) rfl sc_letters.nd (pi_str (pv 0)) (blkOk_by (own := [("_law_sign", 1)]) (N := ["_law_string", "_law_sign"]) (sc := defScope s_letters) (by decide +kernel)) (fun _ _ _ _ _ => (pg_name (i := 1) sc_letters.nd rfl (Or.inl rfl))) (fun _ _ _ _ _ => pts_nil) (fun _ _ _ _ _ => (pe_callB cOrd (by rfl) T.ord (by decide +kernel) (pa_cons (pv 1) pa_nil)))))) pss_nil)
      (pss_one (ps_ret (pe_callTy cListOf (by rfl) T.list (by decide +kernel) (pa_cons (pv 0) pa_nil))))), ?_⟩
    cases tx with
    | str z hz hl =>
      walk_at "go"
      refine w_isi (b := true) (.base (.str z)) (kit_ty (by decide +kernel)) ?_
      walk_at "go"
      refine iteT ?_
      walk_at "go"
      intro D hD
      refine lc_pure (z.cps.toList.map fun c => V.str ⟨#[c]⟩) ((z.cps.toList.map Int.ofNat).map V.int) walk_strY hD (fun _ _ => trivial) (by simp) (by simp; exact hl) (fun _ => rfl) ?_ ?_
      · intro i x y H' hx hy sm Q' q'
        obtain ⟨c, hc, rfl⟩ := get_map hx
        obtain ⟨b, hb, rfl⟩ := get_map hy
        obtain ⟨d, hd, rfl⟩ := get_map hb
        rw [hc] at hd
        cases hd
        walk_at "go"
        exact q' _ (Same.refl _)
      · intro H' sm hH
        walk_at "go"
        exact k _ _ hD sm hH
    | lst a _ h l =>
      walk_at "go"
      refine w_isi (b := false) (.base (.lst h)) (kit_ty (by decide +kernel)) ?_
      walk_at "go"
      refine iteF ?_
      walk_at "go"
      refine w_listL (sq h) fun t ht => ?_
      walk_at "go"
      exact k _ _ ht (Same.new ht) upd_same
    | tup a _ h l =>
      walk_at "go"
      refine w_isi (b := false) (.base (.tup h)) (kit_ty (by decide +kernel)) ?_
      walk_at "go"
      refine iteF ?_
      walk_at "go"
      refine w_listT (sqt h) fun t ht => ?_
      walk_at "go"
      exact k _ _ ht (Same.new ht) upd_same

abbrev s_call : Stmt := (inClass (top 28) 3)
theorem sc_call : FnScope ["self", "text"] ["self", "text"] (defScope s_call) :=
  ⟨rfl, rfl, rfl, by decide +kernel, rfl, by decide +kernel, by decide +kernel⟩
theorem ok_call {c : CA} {f : Addr} {fd : FuncData} (F : FunD K "__call__" "Way.__call__" (defArgs s_call) (defBody s_call) (defScope s_call) [] [] f fd) (T : Bt mg) (X : Kx K mg c) (c_reqtext : Cal P w K mg base 3 "require_text" spRead []) (c_ofl : Met P w K mg base 2 c.wy "of_letters" (spOfLetters c) []) :
    FnOk P w K mg base L2.CX0 4 f fd ["self", "text"] (spMarkOf c) := by
  refine fnD_ok F sc_call (fun vs H Q E h => ?_) (fun cdv A outer s H vs Q E hr h => ?_)
  · obtain ⟨x, v, b, ps, y, ls, rfl, _⟩ := h
    rfl
  · obtain ⟨x, v, b, ps, y, ls, rfl, hw, tv, q⟩ := h
    obtain ⟨dx, m, k, hx, r⟩ := id hw
    refine ⟨_, (pss_one (ps_ret (pe_mt c_ofl hr (by decide) (pv 0) (pa_cons (pe_c c_reqtext hr (by decide) (by rfl) (pa_cons (pv 1) pa_nil)) pa_nil)))), ?_⟩
    walk_at "go"
    refine w_methi hx (wy_no (by decide +kernel) (by decide +kernel) (by decide +kernel) (by decide +kernel)) ?_
    walk_at "go"
    refine ⟨v, ls, rfl, tv, fun H1 t1 s1 h1 => ?_⟩
    walk_at "go"
    refine ⟨x, t1, b, ps, y, ls, rfl, hw.same s1, h1, tv.len, fun H3 s3 => ?_⟩
    walk_at "go"
    exact q _ (s1.trans s3)
abbrev s_agree : Stmt := (inClass (top 28) 4)
theorem sc_agree : FnScope ["self", "text", "other", "first", "second"] ["self", "text", "other"] (defScope s_agree) :=
  ⟨rfl, rfl, rfl, by decide +kernel, rfl, by decide +kernel, by decide +kernel⟩
theorem ok_agree {c : CA} {f : Addr} {fd : FuncData} (F : FunD K "agree" "Way.agree" (defArgs s_agree) (defBody s_agree) (defScope s_agree) [] [] f fd) (T : Bt mg) (X : Kx K mg c) (c_reqtext : Cal P w K mg base 3 "require_text" spRead []) (c_ofl : Met P w K mg base 2 c.wy "of_letters" (spOfLetters c) []) :
    FnOk P w K mg base L2.CX0 4 f fd ["self", "text", "other"] (spTwo c rAgree) := by
  refine fnD_ok F sc_agree (fun vs H Q E h => ?_) (fun cdv A outer s H vs Q E hr h => ?_)
  · obtain ⟨x, v, u, b, ps, y, ls, ms, rfl, _⟩ := h
    rfl
  · obtain ⟨x, v, u, b, ps, y, ls, ms, rfl, hw, tv, tu, q⟩ := h
    refine ⟨_, (pss_cons (ps_par (i := 3) (j := 4) (by rfl) sc_agree.nd rfl rfl (by decide) rfl rfl (pa_cons (pe_c c_reqtext hr (by decide) (by rfl) (pa_cons (pv 1) pa_nil)) (pa_cons (pe_c c_reqtext hr (by decide) (by rfl) (pa_cons (pv 2) pa_nil)) pa_nil)) (by rfl))
      (pss_one (ps_ret (pe_cmpR op_eq (pe_mt c_ofl hr (by decide) (pv 0) (pa_cons (pv 3) pa_nil)) (pe_mt c_ofl hr (by decide) (pv 0) (pa_cons (pv 4) pa_nil)) (nomark _))))), ?_⟩
    walk_at "go"
    refine ⟨v, ls, rfl, tv, fun H1 t1 s1 h1 => ?_⟩
    walk_at "go"
    refine ⟨u, ms, rfl, tu.same s1, fun H2 t2 s2 h2 => ?_⟩
    have s12 := s1.trans s2
    walk_at "go"
    obtain ⟨dx, m, k, hx, r⟩ := hw.same s12
    refine w_methi hx (wy_no (by decide +kernel) (by decide +kernel) (by decide +kernel) (by decide +kernel)) ?_
    walk_at "go"
    refine ⟨x, t1, b, ps, y, ls, rfl, ⟨dx, m, k, hx, r⟩, s2 _ _ h1, tv.len, fun H3 s3 => ?_⟩
    walk_at "go"
    obtain ⟨dx, m, k, hx, r⟩ := hw.same (s12.trans s3)
    refine w_methi hx (wy_no (by decide +kernel) (by decide +kernel) (by decide +kernel) (by decide +kernel)) ?_
    walk_at "go"
    refine ⟨x, t2, b, ps, y, ms, rfl, ⟨dx, m, k, hx, r⟩, s3 _ _ h2, tu.len, fun H4 s4 => ?_⟩
    walk_at "go"
    rw [decI]
    exact q H4 (s12.trans (s3.trans s4))

abbrev s_shiftof : Stmt := (top 30)
theorem sc_shiftof : FnScope ["way", "lead"] ["way"] (defScope s_shiftof) :=
  ⟨rfl, rfl, rfl, by decide +kernel, rfl, by decide +kernel, by decide +kernel⟩
theorem ok_shiftof {c : CA} (F : Dn K mg "shift_of" s_shiftof ["way"]) (T : Bt mg) (X : Kx K mg c) : Cal P w K mg base 1 "shift_of" (spShift c) [] := by
  refine F.cal sc_shiftof (fun vs H Q E h => ?_) (fun f cdv A outer s H vs Q E hr h => ?_)
  · obtain ⟨x, b, ps, y, rfl, _⟩ := h
    rfl
  · obtain ⟨x, b, ps, y, rfl, hw, q⟩ := h
    have hn := hw.pos
    obtain ⟨dx, m, k, hx, hm, ⟨dk, hk⟩, b0, bn⟩ := id hw
    refine ⟨_, (pss_cons (ps_set (i := 1) sc_shiftof.nd rfl (Or.inl rfl) (pe_ifExp (pt_val (pe_fld (pe_fld (pv 0) rfl) rfl)) (pe_op op_sub (pe_fld (pv 0) rfl) pe_int) pe_int))
      (pss_one (ps_ret (pe_op op_mod (pe_op op_add (pe_fld (pe_fld (pv 0) rfl) rfl) (pv 1)) (pe_fld (pv 0) rfl))))), ?_⟩
    walk_at "go"
    unfold plainS at q
    by_cases hl : y.lead = true
    · rw [hl]
      rw [if_pos hl] at q
      refine iteT ?_
      walk_at "go"
      exact q
    · have hl' : y.lead = false := by simpa using hl
      rw [hl']
      rw [if_neg hl] at q
      refine iteF ?_
      walk_at "go"
      exact q

abbrev s_invway : Stmt := (inClass (top 7) 0)
theorem sc_invway : FnScope ["self", "thing"] ["self", "thing"] (defScope s_invway) :=
  ⟨rfl, rfl, rfl, by decide +kernel, rfl, by decide +kernel, by decide +kernel⟩
theorem ok_invway {C f : Addr} {fd : FuncData} (F : FunD K "__init__" "InvalidWay.__init__" (defArgs s_invway) (defBody s_invway) (defScope s_invway) [] [] f fd) (T : Bt mg) (hC : OexC K C) (hf : PySem.W.findIn K (.ref C) "thing" = some none) : FnOk P w K mg base L2.CX0 1 f fd ["self", "thing"] (spErr C "thing") := by
  refine fnD_ok F sc_invway (fun vs H Q E h => ?_) (fun cdv A outer s H vs Q E hr h => ?_)
  · obtain ⟨a, v, rfl, _⟩ := h
    rfl
  · obtain ⟨a, v, rfl, ha, q⟩ := h
    refine ⟨_, (pss_one (ps_ost (pv 0) (pv 1))), ?_⟩
    walk_at "go"
    exact ⟨v, rfl, .ref a, rfl, a, C, rfl, hC, hf, .inl ⟨ha, q⟩⟩
abbrev s_reqonex : Stmt := (top 32)
theorem sc_reqonex : FnScope ["thing"] ["thing"] (defScope s_reqonex) :=
  ⟨rfl, rfl, rfl, by decide +kernel, rfl, by decide +kernel, by decide +kernel⟩
theorem ok_reqonex {c : CA} {Ci : Addr} (F : Dn K mg "require_one_way" s_reqonex ["thing"]) (T : Bt mg) (X : Kx K mg c) (c_invway : Err P w K mg base 1 "InvalidWay" Ci "thing") : CalX P w K mg base 3 "require_one_way" (spReqOneX K c Ci) [] := by
  refine F.calX sc_reqonex (fun vs H Q E h => ?_) (fun f cdv A outer s H vs Q E hr h => ?_)
  · obtain ⟨v, t, b, rfl, _⟩ := h
    rfl
  · obtain ⟨v, t, b, rfl, ht, hk, q1, q2⟩ := h
    refine ⟨_, (pss_one (ps_if (pt_not (pt_val (pe_callB call_isi (by rfl) T.isinstance (by decide +kernel) (pa_cons (pv 0) (pa_cons (pe_glob (v := .ref c.wy) (by rfl) X.mgWy rfl) pa_nil))))) (pss_one (ps_rse c_invway rfl hr (by decide) (takes_of rfl rfl rfl rfl) (by rfl) (pa_cons (pv 0) pa_nil))) pss_nil)), ?_⟩
    walk_at "go"
    refine w_isiC ht hk ?_
    walk_at "go"
    cases b with
    | true =>
      refine iteF ?_
      walk_at "go"
      exact q1 rfl
    | false =>
      refine iteT ?_
      walk_at "go"
      exact w_fly (q2 rfl)
abbrev s_plainx : Stmt := (top 31)
theorem sc_plainx : FnScope ["way"] ["way"] (defScope s_plainx) :=
  ⟨rfl, rfl, rfl, by decide +kernel, rfl, by decide +kernel, by decide +kernel⟩
theorem ok_plainx {c : CA} {Ci : Addr} {f : Addr} {fd : FuncData} (F : FunD K "plain_shift" "plain_shift" (defArgs s_plainx) (defBody s_plainx) (defScope s_plainx) [] [] f fd) (T : Bt mg) (X : Kx K mg c) (c_reqonex : CalX P w K mg base 3 "require_one_way" (spReqOneX K c Ci) []) (c_shiftof : Cal P w K mg base 1 "shift_of" (spShift c) []) : FnOk P w K mg base (L2.CX P w) 4 f fd ["way"] (spPlainX K c Ci) := by
  refine fnX_ok F sc_plainx (fun vs H Q E h => ?_) (fun cdv A outer s H vs Q E hr h => ?_)
  · obtain ⟨v, t, b, rfl, _⟩ := h
    rfl
  · obtain ⟨v, t, b, rfl, ht, hk, q1, q2⟩ := h
    refine ⟨_, (pss_cons (ps_expr (pe_cX c_reqonex hr (by decide) (by rfl) (takes_of rfl rfl rfl rfl) (pa_cons (pv 0) pa_nil)))
      (pss_one (ps_ret (pe_c c_shiftof hr (by decide) (by rfl) (pa_cons (pv 0) pa_nil))))), ?_⟩
    walk_at "go"
    refine ⟨v, t, b, rfl, ht, hk, fun hb => ?_, q2⟩
    obtain ⟨x, r, ps, y, rfl, hw, q⟩ := q1 hb
    walk_at "go"
    exact ⟨x, r, ps, y, rfl, hw, q⟩

abbrev s_reqlikex : Stmt := (top 33)
theorem sc_reqlikex : FnScope ["one", "other"] ["one", "other"] (defScope s_reqlikex) :=
  ⟨rfl, rfl, rfl, by decide +kernel, rfl, by decide +kernel, by decide +kernel⟩
theorem ok_reqlikex {c : CA} {Cu : Addr} (F : Dn K mg "require_like" s_reqlikex ["one", "other"]) (T : Bt mg) (X : Kx K mg c) (e_unlike : Err0 K mg "UnlikeMarkings" Cu) : CalX P w K mg base 1 "require_like" (spLikeX c Cu) [] := by
  refine F.calX sc_reqlikex (fun vs H Q E h => ?_) (fun f cdv A outer s H vs Q E hr h => ?_)
  · obtain ⟨x, x', b, b', ps, ps', y, y', rfl, _⟩ := h
    rfl
  · obtain ⟨x, x', b, b', ps, ps', y, y', rfl, hw, hw', q1, q2⟩ := h
    refine ⟨_, (pss_one (ps_if (pt_cmpR op_ne (pe_fld (pe_fld (pv 0) rfl) rfl) (pe_fld (pe_fld (pv 1) rfl) rfl) (nomark _)) (pss_one (ps_rse0 e_unlike rfl (takes_of rfl rfl rfl rfl) (by rfl))) pss_nil)), ?_⟩
    walk_at "go"
    rw [decB]
    refine ite_nd (fun h => ?_) (fun h => ?_)
    · exact q2 h
    · walk_at "go"
      exact q1 h
abbrev s_inverse : Stmt := (top 13)
theorem sc_inverse : FnScope ["unit", "number", "one", "other", "first", "second", "times"] ["unit", "number"] (defScope s_inverse) :=
  ⟨rfl, rfl, rfl, by decide +kernel, rfl, by decide +kernel, by decide +kernel⟩
theorem ok_inverse (F : Dn K mg "inverse" s_inverse ["unit", "number"]) (T : Bt mg) : Cal P w K mg base 1 "inverse" spInverse [] := by
  refine F.cal sc_inverse (fun vs H Q E h => ?_) (fun f cdv A outer s H vs Q E hr h => ?_)
  · obtain ⟨u, n, rfl, _⟩ := h
    rfl
  · obtain ⟨u, n, rfl, hn, hb, hg, q⟩ := h
    refine ⟨_, (pss_cons (ps_par (i := 2) (j := 3) (by rfl) sc_inverse.nd rfl rfl (by decide) rfl rfl (pa_cons (pv 1) (pa_cons (pe_op op_mod (pv 0) (pv 1)) pa_nil)) (by rfl))
      (pss_cons (ps_asg (pe_tup (pa_cons pe_int (pa_cons pe_int pa_nil))) (pg_tup rfl (pgs_cons (pg_name (i := 4) sc_inverse.nd rfl (Or.inl rfl)) (pgs_cons (pg_name (i := 5) sc_inverse.nd rfl (Or.inl rfl)) pgs_nil))))
      (pss_cons (ps_while PassesOwn.never (pt_cmpR op_ne (pv 3) pe_int (nomark _)) (pss_cons (ps_set (i := 6) sc_inverse.nd rfl (Or.inl rfl) (pe_op op_fdivW (pv 2) (pv 3)))
      (pss_cons (ps_par (i := 2) (j := 3) (by rfl) sc_inverse.nd rfl rfl (by decide) rfl rfl (pa_cons (pv 3) (pa_cons (pe_op op_sub (pv 2) (pe_op oMul (pv 6) (pv 3))) pa_nil)) (by rfl))
      (pss_one (ps_par (i := 4) (j := 5) (by rfl) sc_inverse.nd rfl rfl (by decide) rfl rfl (pa_cons (pv 5) (pa_cons (pe_op op_sub (pv 4) (pe_op oMul (pv 6) (pv 5))) pa_nil)) (by rfl))))))
      (pss_one (ps_ret (pe_op op_mod (pv 4) (pv 1))))))), ?_⟩
    walk_at "go"
    refine al fun p0 H1 n1 s1 h1 => ?_
    walk_at "go"
    have h00 := Int.emod_lt_of_pos u hn
    refine while_m (fun m σ H' => ∃ (one other first second : Int) (v : Option V), σ = [some (.int u), some (.int n), some (.int one), some (.int other), some (.int first), some (.int second), v] ∧ H' = H1 ∧ InvOk u n one other first second ∧ one ≤ n ∧ other ≤ n ∧ 0 < one ∧ m = other.toNat) _ ⟨n, u % n, 0, 1, none, rfl, rfl, InvOk.start hn, Int.le_refl _, by omega, hn, rfl⟩ ?_
    rintro m σ H' ⟨one, other, first, second, v, rfl, rfl, hI, hon, hot, hop, rfl⟩
    walk_at "go"
    refine ite_nd (fun h2 => ?_) (fun h2 => ?_)
    · have ho : 0 < other := by
        have := hI.2.1
        have : other ≠ 0 := fun z => h2 (by rw [z])
        omega
      obtain ⟨l1, l2, l3, l4⟩ := hI.le hn ho
      have l2 := l2 hop
      have hN := hI.step hn ho
      have hr1 := Int.emod_lt_of_pos one ho
      have hr : one - one / other * other = one % other := by
        have := Int.mul_ediv_add_emod one other
        rw [Int.mul_comm] at this
        omega
      have hd : CDivW one other := wdiv (b := 8000) ho (by omega) (by decide)
      have m1 : CMx (one / other) other := mx_w (a := 8000) (b := 8000) (by omega) (by omega) (by decide)
      have m2 : CMx (one / other) second := mx_w (a := 8000) (b := 8000) (by omega) (by omega) (by decide)
      walk_at "go"
      refine ⟨_, ?_, _, _, _, _, _, rfl, rfl, hN, hot, by omega, ho, rfl⟩
      have := hI.2.1
      omega
    · have hz : other = 0 := by injection h2
      subst hz
      walk_at "go"
      exact q _ _ s1 (Int.emod_nonneg _ (by omega)) (Int.emod_lt_of_pos _ hn) (hI.done hn hg)
abbrev s_eqmd : Stmt := (inClass (top 18) 1)
theorem sc_eqmd : FnScope ["self", "other"] ["self", "other"] (defScope s_eqmd) :=
  ⟨rfl, rfl, rfl, by decide +kernel, rfl, by decide +kernel, by decide +kernel⟩
theorem ok_eqmd {c : CA} {f : Addr} {fd : FuncData} (F : FunD K "__eq__" "Modulus.__eq__" (defArgs s_eqmd) (defBody s_eqmd) (defScope s_eqmd) [] [] f fd) (T : Bt mg) (X : Kx K mg c) : FnOk P w K mg base L2.CX0 1 f fd ["self", "other"] (spEqMd K c) := by
  refine fnD_ok F sc_eqmd (fun vs H Q E h => ?_) (fun cdv A outer s H vs Q E hr h => ?_)
  · obtain ⟨a, v, ps, rfl, _⟩ := h
    rfl
  · obtain ⟨a, v, ps, rfl, hm, h⟩ := h
    refine ⟨_, (pss_one (ps_ret (pe_and (pe_callB call_isiE (by rfl) T.isinstance (by decide +kernel) (pa_cons (pv 1) (pa_cons (pe_glob (v := .ref c.md) (by rfl) X.mgMd rfl) pa_nil))) (pe_one (pe_cmpR op_eq (pe_fld (pv 0) rfl) (pe_fld (pv 1) rfl) (nomark _)))))), ?_⟩
    walk_at "go"
    rcases h with ⟨t, ty, hk, q⟩ | ⟨b, ps', rfl, hm', q⟩
    · refine w_isiE ty hk ?_
      walk_at "go"
      refine iteF ?_
      exact q
    · obtain ⟨dx, tt, ts, hx, _⟩ := id hm'
      refine w_isiE (.x (X.md.ty hx)) kit_own ?_
      walk_at "go"
      refine iteT ?_
      walk_at "go"
      rw [decI]
      exact q
abbrev s_eqmk : Stmt := (inClass (top 25) 1)
theorem sc_eqmk : FnScope ["self", "other"] ["self", "other"] (defScope s_eqmk) :=
  ⟨rfl, rfl, rfl, by decide +kernel, rfl, by decide +kernel, by decide +kernel⟩
theorem ok_eqmk {c : CA} {f : Addr} {fd : FuncData} (F : FunD K "__eq__" "Marking.__eq__" (defArgs s_eqmk) (defBody s_eqmk) (defScope s_eqmk) [] [] f fd) (T : Bt mg) (X : Kx K mg c) : FnOk P w K mg base L2.CX0 1 f fd ["self", "other"] (spEqMk K c) := by
  refine fnD_ok F sc_eqmk (fun vs H Q E h => ?_) (fun cdv A outer s H vs Q E hr h => ?_)
  · obtain ⟨a, v, y, rfl, _⟩ := h
    rfl
  · obtain ⟨a, v, y, rfl, hm, h⟩ := h
    refine ⟨_, (pss_cons (ps_if (pt_not (pt_val (pe_callB call_isiE (by rfl) T.isinstance (by decide +kernel) (pa_cons (pv 1) (pa_cons (pe_glob (v := .ref c.kg) (by rfl) X.mgMk rfl) pa_nil))))) (pss_one (ps_ret pe_bl)) pss_nil)
      (pss_one (ps_ret (pe_cmpR (op_eqD hr.units) (pe_tup (pa_cons (pe_fld (pv 0) rfl) (pa_cons (pe_fld (pv 0) rfl) (pa_cons (pe_fld (pv 0) rfl) pa_nil)))) (pe_tup (pa_cons (pe_fld (pv 1) rfl) (pa_cons (pe_fld (pv 1) rfl) (pa_cons (pe_fld (pv 1) rfl) pa_nil)))) (nomark _))))), ?_⟩
    walk_at "go"
    rcases h with ⟨t, ty, hk, q⟩ | ⟨b, y', rfl, hm', q⟩
    · refine w_isiE ty hk ?_
      walk_at "go"
      refine iteT ?_
      walk_at "go"
      exact q
    · obtain ⟨dx, hx⟩ := id hm'
      refine w_isiE (.x (X.kg.ty hx)) kit_own ?_
      walk_at "go"
      refine iteF ?_
      walk_at "go"
      refine al fun p1 H1 n1 s1 h1 => ?_
      walk_at "go"
      refine al fun p2 H2 n2 s2 h2 => ?_
      walk_at "go"
      refine ⟨_, _, .tup (sqt (s2 _ _ h1)) (.cons (.bl _) (.cons (.int _) (.cons (.bl _) .nil))), .tup (sqt h2) (.cons (.bl _) (.cons (.int _) (.cons (.bl _) .nil))), shp_sty _ _ _, shp_sty _ _ _, ?_⟩
      rw [eqv_sty]
      exact q _ (s1.trans s2)
abbrev s_eqwy : Stmt := (inClass (top 28) 1)
theorem sc_eqwy : FnScope ["self", "other"] ["self", "other"] (defScope s_eqwy) :=
  ⟨rfl, rfl, rfl, by decide +kernel, rfl, by decide +kernel, by decide +kernel⟩
theorem ok_eqwy {c : CA} {f : Addr} {fd : FuncData} (F : FunD K "__eq__" "Way.__eq__" (defArgs s_eqwy) (defBody s_eqwy) (defScope s_eqwy) [] [] f fd) (T : Bt mg) (X : Kx K mg c) (q_eqmk : EqO P w K mg base 1 c.kg (spEqMk K c)) : FnOk P w K mg base L2.CX0 3 f fd ["self", "other"] (spEqWy K c) := by
  refine fnD_ok F sc_eqwy (fun vs H Q E h => ?_) (fun cdv A outer s H vs Q E hr h => ?_)
  · obtain ⟨a, v, r, ps, y, rfl, _⟩ := h
    rfl
  · obtain ⟨a, v, r, ps, y, rfl, hm, h⟩ := h
    refine ⟨_, (pss_cons (ps_if (pt_not (pt_val (pe_callB call_isiE (by rfl) T.isinstance (by decide +kernel) (pa_cons (pv 1) (pa_cons (pe_glob (v := .ref c.wy) (by rfl) X.mgWy rfl) pa_nil))))) (pss_one (ps_ret pe_bl)) pss_nil)
      (pss_one (ps_ret (pe_and (pe_cmpR (op_eqD hr.units) (pe_tup (pa_cons (pe_fld (pv 0) rfl) (pa_cons (pe_fld (pv 0) rfl) pa_nil))) (pe_tup (pa_cons (pe_fld (pv 1) rfl) (pa_cons (pe_fld (pv 1) rfl) pa_nil))) (nomark _)) (pe_one (pe_cmpR (op_eqO q_eqmk hr (by decide)) (pe_fld (pv 0) rfl) (pe_fld (pv 1) rfl) (nomark _))))))), ?_⟩
    walk_at "go"
    rcases h with ⟨t, ty, hk, q⟩ | ⟨b, r', ps', y', rfl, hm', q⟩
    · refine w_isiE ty hk ?_
      walk_at "go"
      refine iteT ?_
      walk_at "go"
      exact q
    · obtain ⟨dx, m, k, hx, _⟩ := id hm'
      refine w_isiE (.x (X.wy.ty hx)) kit_own ?_
      walk_at "go"
      refine iteF ?_
      walk_at "go"
      refine al fun p1 H1 n1 s1 h1 => ?_
      walk_at "go"
      refine al fun p2 H2 n2 s2 h2 => ?_
      walk_at "go"
      refine ⟨_, _, .tup (sqt (s2 _ _ h1)) (.cons (.int _) (.cons (.int _) .nil)), .tup (sqt h2) (.cons (.int _) (.cons (.int _) .nil)), shp_two _ _, shp_two _ _, ?_⟩
      rw [eqv_two]
      walk_at "go"
      have S := s1.trans s2
      unfold eqWay at q
      cases hb : (decide (r = r') && decide (num ps = num ps')) with
      | false =>
        refine iteF ?_
        rw [hb] at q
        exact q _ S
      | true =>
        refine iteT ?_
        rw [hb] at q
        walk_at "go"
        rename_i k1 k2 k3 k4
        refine eqMk X (by walk_at "hp") (by walk_at "hp") fun H3 s3 => ?_
        exact q _ (S.trans s3)

abbrev s_common : Stmt := (top 48)
theorem sc_common : FnScope ["_law_here", "_law_there"] ["_law_here", "_law_there"] (defScope s_common) :=
  ⟨rfl, rfl, rfl, by decide +kernel, rfl, by decide +kernel, by decide +kernel⟩
theorem ok_common (F : Dn K mg "_law_common" s_common ["_law_here", "_law_there"]) (T : Bt mg) : Cal P w K mg base 1 "_law_common" spDiv [] := by
  refine F.cal sc_common (fun vs H Q E h => ?_) (fun f cdv A outer s H vs Q E hr h => ?_)
  · obtain ⟨a, b, rfl, _⟩ := h
    rfl
  · obtain ⟨a, b, rfl, a0, b0, q⟩ := h
    refine ⟨_, (pss_cons (ps_while PassesOwn.never (pt_cmpR op_ne (pv 1) pe_int (nomark _)) (pss_one (ps_par (i := 0) (j := 1) (by rfl) sc_common.nd rfl rfl (by decide) rfl rfl (pa_cons (pv 1) (pa_cons (pe_op op_mod (pv 0) (pv 1)) pa_nil)) (by rfl))))
      (pss_one (ps_ret (pv 0)))), ?_⟩
    walk_at "go"
    refine while_go (fun σ H' => ∃ x y : Int, σ = [some (.int x), some (.int y)] ∧ 0 ≤ x ∧ 0 ≤ y ∧ Int.gcd x y = Int.gcd a b ∧ H' = H) (fun σ _ => match σ with | [_, some (.int y)] => y.toNat | _ => 0)
      ⟨_, _, rfl, a0, b0, rfl, rfl⟩ ?_
    · rintro σ H' ⟨x, y, rfl, x0, y0, e, rfl⟩
      walk_at "go"
      refine ite_nd (fun h => ?_) (fun h => ?_)
      · have hy : y ≠ 0 := fun z => h (by rw [z])
        walk_at "go"
        · refine ⟨?_, _, _, rfl, y0, Int.emod_nonneg _ hy, ?_, rfl⟩
          · have := Int.emod_lt_of_pos x (show 0 < y by omega)
            show (x % y).toNat < y.toNat
            omega
          · have h6 := Int.gcd_mul_left_add_right y (x % y) (x / y)
            rw [Int.mul_ediv_add_emod] at h6
            rw [← e, Int.gcd_comm x y, h6]
      · have hy : y = 0 := by injection h
        subst hy
        walk_at "go"
        rw [← e, Int.gcd_zero] at q
        rw [Int.natAbs_of_nonneg x0] at q
        exact q

abbrev s_some : Stmt := (top 46)
theorem sc_some : FnScope ["_law_purse_here", "_law_some"] ["_law_purse_here"] (defScope s_some) :=
  ⟨rfl, rfl, rfl, by decide +kernel, rfl, by decide +kernel, by decide +kernel⟩
theorem ok_some (F : Dn K mg "_law_some_pairs" s_some ["_law_purse_here"]) (T : Bt mg) (c_draw : Cal P w K mg base 2 "_law_draw" spDraw []) : Cal P w K mg base 3 "_law_some_pairs" spSome70 [] := by
  refine F.cal sc_some (fun vs H Q E h => ?_) (fun f cdv A outer s H vs Q E hr h => ?_)
  · obtain ⟨a, c, rfl, _⟩ := h
    rfl
  · obtain ⟨a, c, rfl, hc, u0, q⟩ := h
    refine ⟨_, (pss_cons (ps_set (i := 1) sc_some.nd rfl (Or.inl rfl) (pe_lst (pa_cons (pe_lst (pa_cons (pe_tup (pa_cons pe_int (pa_cons pe_int pa_nil))) pa_nil)) (pa_cons (pe_lst (pa_cons (pe_tup (pa_cons pe_int (pa_cons pe_int pa_nil))) pa_nil)) (pa_cons (pe_lst (pa_cons (pe_tup (pa_cons pe_int (pa_cons pe_int pa_nil))) (pa_cons (pe_tup (pa_cons pe_int (pa_cons pe_int pa_nil))) pa_nil))) (pa_cons (pe_lst (pa_cons (pe_tup (pa_cons pe_int (pa_cons pe_int pa_nil))) pa_nil)) (pa_cons (pe_lst (pa_cons (pe_tup (pa_cons pe_int (pa_cons pe_int pa_nil))) (pa_cons (pe_tup (pa_cons pe_int (pa_cons pe_int pa_nil))) pa_nil))) (pa_cons (pe_lst pa_nil) (pa_cons (pe_lst (pa_cons (pe_tup (pa_cons pe_int (pa_cons pe_int pa_nil))) pa_nil)) (pa_cons (pe_lst (pa_cons (pe_tup (pa_cons pe_int (pa_cons pe_int pa_nil))) pa_nil)) (pa_cons (pe_lst (pa_cons (pe_tup (pa_cons pe_int (pa_cons pe_int pa_nil))) (pa_cons (pe_tup (pa_cons pe_int (pa_cons pe_int pa_nil))) pa_nil))) pa_nil)))))))))))
      (pss_one (ps_ret (pe_ix ix_list (pe_op op_cat (pv 1) (pe_lst (pa_cons (pe_lst (pa_cons (pe_tup (pa_cons pe_int (pa_cons pe_int pa_nil))) (pa_cons (pe_tup (pa_cons pe_int (pa_cons pe_int pa_nil))) pa_nil))) (pa_cons (pe_lst (pa_cons (pe_tup (pa_cons pe_int (pa_cons pe_int pa_nil))) pa_nil)) (pa_cons (pe_lst (pa_cons (pe_tup (pa_cons pe_int (pa_cons pe_int pa_nil))) (pa_cons (pe_tup (pa_cons pe_int (pa_cons pe_int pa_nil))) (pa_cons (pe_tup (pa_cons pe_int (pa_cons pe_int pa_nil))) pa_nil)))) pa_nil))))) (pe_c c_draw hr (by decide) (by rfl) (pa_cons (pv 0) (pa_cons pe_int pa_nil))) (fun _ _ => rfl))))), ?_⟩
    walk_at "go"
    refine alR u0 fun t1 H1 s1 u1 ht1 _ => ?_
    walk_at "go"
    refine alR u1 fun l0 H2 s2 u2 hl0 _ => ?_
    walk_at "go"
    have p0 : PrL (rm a H2) l0 [(2, 3)] := ⟨[t1], hl0, (.cons (show rm a H2 t1 = some (.tup [.int 2, .int 3]) by walk_at "hp") .nil)⟩
    clear ht1
    refine alR u2 fun t2 H3 s3 u3 ht2 _ => ?_
    walk_at "go"
    refine alR u3 fun l1 H4 s4 u4 hl1 _ => ?_
    walk_at "go"
    have p1 : PrL (rm a H4) l1 [(3, 2)] := ⟨[t2], hl1, (.cons (show rm a H4 t2 = some (.tup [.int 3, .int 2]) by walk_at "hp") .nil)⟩
    clear ht2
    refine alR u4 fun t3 H5 s5 u5 ht3 _ => ?_
    walk_at "go"
    refine alR u5 fun t4 H6 s6 u6 ht4 _ => ?_
    walk_at "go"
    refine alR u6 fun l2 H7 s7 u7 hl2 _ => ?_
    walk_at "go"
    have p2 : PrL (rm a H7) l2 [(2, 1), (3, 1)] := ⟨[t3, t4], hl2, (.cons (show rm a H7 t3 = some (.tup [.int 2, .int 1]) by walk_at "hp") (.cons (show rm a H7 t4 = some (.tup [.int 3, .int 1]) by walk_at "hp") .nil))⟩
    clear ht3
    clear ht4
    refine alR u7 fun t5 H8 s8 u8 ht5 _ => ?_
    walk_at "go"
    refine alR u8 fun l3 H9 s9 u9 hl3 _ => ?_
    walk_at "go"
    have p3 : PrL (rm a H9) l3 [(5, 1)] := ⟨[t5], hl3, (.cons (show rm a H9 t5 = some (.tup [.int 5, .int 1]) by walk_at "hp") .nil)⟩
    clear ht5
    refine alR u9 fun t6 H10 s10 u10 ht6 _ => ?_
    walk_at "go"
    refine alR u10 fun t7 H11 s11 u11 ht7 _ => ?_
    walk_at "go"
    refine alR u11 fun l4 H12 s12 u12 hl4 _ => ?_
    walk_at "go"
    have p4 : PrL (rm a H12) l4 [(2, 2), (3, 1)] := ⟨[t6, t7], hl4, (.cons (show rm a H12 t6 = some (.tup [.int 2, .int 2]) by walk_at "hp") (.cons (show rm a H12 t7 = some (.tup [.int 3, .int 1]) by walk_at "hp") .nil))⟩
    clear ht6
    clear ht7
    refine alR u12 fun l5 H13 s13 u13 hl5 _ => ?_
    walk_at "go"
    have p5 : PrL (rm a H13) l5 [] := ⟨[], hl5, .nil⟩
    refine alR u13 fun t8 H14 s14 u14 ht8 _ => ?_
    walk_at "go"
    refine alR u14 fun l6 H15 s15 u15 hl6 _ => ?_
    walk_at "go"
    have p6 : PrL (rm a H15) l6 [(2, 2)] := ⟨[t8], hl6, (.cons (show rm a H15 t8 = some (.tup [.int 2, .int 2]) by walk_at "hp") .nil)⟩
    clear ht8
    refine alR u15 fun t9 H16 s16 u16 ht9 _ => ?_
    walk_at "go"
    refine alR u16 fun l7 H17 s17 u17 hl7 _ => ?_
    walk_at "go"
    have p7 : PrL (rm a H17) l7 [(7, 1)] := ⟨[t9], hl7, (.cons (show rm a H17 t9 = some (.tup [.int 7, .int 1]) by walk_at "hp") .nil)⟩
    clear ht9
    refine alR u17 fun t10 H18 s18 u18 ht10 _ => ?_
    walk_at "go"
    refine alR u18 fun t11 H19 s19 u19 ht11 _ => ?_
    walk_at "go"
    refine alR u19 fun l8 H20 s20 u20 hl8 _ => ?_
    walk_at "go"
    have p8 : PrL (rm a H20) l8 [(2, 1), (5, 1)] := ⟨[t10, t11], hl8, (.cons (show rm a H20 t10 = some (.tup [.int 2, .int 1]) by walk_at "hp") (.cons (show rm a H20 t11 = some (.tup [.int 5, .int 1]) by walk_at "hp") .nil))⟩
    clear ht10
    clear ht11
    refine alR u20 fun o1 H21 s21 u21 ho1 _ => ?_
    walk_at "go"
    refine alR u21 fun t12 H22 s22 u22 ht12 _ => ?_
    walk_at "go"
    refine alR u22 fun t13 H23 s23 u23 ht13 _ => ?_
    walk_at "go"
    refine alR u23 fun l9 H24 s24 u24 hl9 _ => ?_
    walk_at "go"
    have p9 : PrL (rm a H24) l9 [(2, 30), (997, 9)] := ⟨[t12, t13], hl9, (.cons (show rm a H24 t12 = some (.tup [.int 2, .int 30]) by walk_at "hp") (.cons (show rm a H24 t13 = some (.tup [.int 997, .int 9]) by walk_at "hp") .nil))⟩
    clear ht12
    clear ht13
    refine alR u24 fun t14 H25 s25 u25 ht14 _ => ?_
    walk_at "go"
    refine alR u25 fun l10 H26 s26 u26 hl10 _ => ?_
    walk_at "go"
    have p10 : PrL (rm a H26) l10 [(3, 20)] := ⟨[t14], hl10, (.cons (show rm a H26 t14 = some (.tup [.int 3, .int 20]) by walk_at "hp") .nil)⟩
    clear ht14
    refine alR u26 fun t15 H27 s27 u27 ht15 _ => ?_
    walk_at "go"
    refine alR u27 fun t16 H28 s28 u28 ht16 _ => ?_
    walk_at "go"
    refine alR u28 fun t17 H29 s29 u29 ht17 _ => ?_
    walk_at "go"
    refine alR u29 fun l11 H30 s30 u30 hl11 _ => ?_
    walk_at "go"
    have p11 : PrL (rm a H30) l11 [(2, 1), (3, 1), (5, 1)] := ⟨[t15, t16, t17], hl11, (.cons (show rm a H30 t15 = some (.tup [.int 2, .int 1]) by walk_at "hp") (.cons (show rm a H30 t16 = some (.tup [.int 3, .int 1]) by walk_at "hp") (.cons (show rm a H30 t17 = some (.tup [.int 5, .int 1]) by walk_at "hp") .nil)))⟩
    clear ht15
    clear ht16
    clear ht17
    refine alR u30 fun o2 H31 s31 u31 ho2 _ => ?_
    walk_at "go"
    refine w_cat (xs := [.ref l0, .ref l1, .ref l2, .ref l3, .ref l4, .ref l5, .ref l6, .ref l7, .ref l8]) (ys := [.ref l9, .ref l10, .ref l11]) (by walk_at "hp") (by walk_at "hp") (show 12 ≤ sizeLine by decide) (alR u31 fun o3 H32 s32 u32 ho3 _ => ?_)
    walk_at "go"
    refine use_drawR u32 (by decide) (by decide) (by omega) fun k H33 k0 k1 s33 u33 => ?_
    have ho : rm a H33 o3 = some (.lst [.ref l0, .ref l1, .ref l2, .ref l3, .ref l4, .ref l5, .ref l6, .ref l7, .ref l8, .ref l9, .ref l10, .ref l11]) := s33 _ _ ho3
    have ck : k = 0 ∨ k = 1 ∨ k = 2 ∨ k = 3 ∨ k = 4 ∨ k = 5 ∨ k = 6 ∨ k = 7 ∨ k = 8 ∨ k = 9 ∨ k = 10 ∨ k = 11 := by omega
    rcases ck with rfl | rfl | rfl | rfl | rfl | rfl | rfl | rfl | rfl | rfl | rfl | rfl
    · refine w_ixL (xs := [.ref l0, .ref l1, .ref l2, .ref l3, .ref l4, .ref l5, .ref l6, .ref l7, .ref l8, .ref l9, .ref l10, .ref l11]) (sq (rm_le _ _ ho)) (atI_nat (j := 0) rfl) ?_
      walk_at "go"
      exact q l0 _ [(2, 3)] (by walk_at "same") (u33.le (by omega)) (by walk_at "hp") ⟨by decide, by decide, by decide +kernel, trivial⟩ (by unfold Small; decide +kernel) (by decide +kernel) (by decide)
    · refine w_ixL (xs := [.ref l0, .ref l1, .ref l2, .ref l3, .ref l4, .ref l5, .ref l6, .ref l7, .ref l8, .ref l9, .ref l10, .ref l11]) (sq (rm_le _ _ ho)) (atI_nat (j := 1) rfl) ?_
      walk_at "go"
      exact q l1 _ [(3, 2)] (by walk_at "same") (u33.le (by omega)) (by walk_at "hp") ⟨by decide, by decide, by decide +kernel, trivial⟩ (by unfold Small; decide +kernel) (by decide +kernel) (by decide)
    · refine w_ixL (xs := [.ref l0, .ref l1, .ref l2, .ref l3, .ref l4, .ref l5, .ref l6, .ref l7, .ref l8, .ref l9, .ref l10, .ref l11]) (sq (rm_le _ _ ho)) (atI_nat (j := 2) rfl) ?_
      walk_at "go"
      exact q l2 _ [(2, 1), (3, 1)] (by walk_at "same") (u33.le (by omega)) (by walk_at "hp") ⟨by decide, by decide, by decide +kernel, ⟨by decide, by decide, by decide +kernel, trivial⟩⟩ (by unfold Small; decide +kernel) (by decide +kernel) (by decide)
    · refine w_ixL (xs := [.ref l0, .ref l1, .ref l2, .ref l3, .ref l4, .ref l5, .ref l6, .ref l7, .ref l8, .ref l9, .ref l10, .ref l11]) (sq (rm_le _ _ ho)) (atI_nat (j := 3) rfl) ?_
      walk_at "go"
      exact q l3 _ [(5, 1)] (by walk_at "same") (u33.le (by omega)) (by walk_at "hp") ⟨by decide, by decide, by decide +kernel, trivial⟩ (by unfold Small; decide +kernel) (by decide +kernel) (by decide)
    · refine w_ixL (xs := [.ref l0, .ref l1, .ref l2, .ref l3, .ref l4, .ref l5, .ref l6, .ref l7, .ref l8, .ref l9, .ref l10, .ref l11]) (sq (rm_le _ _ ho)) (atI_nat (j := 4) rfl) ?_
      walk_at "go"
      exact q l4 _ [(2, 2), (3, 1)] (by walk_at "same") (u33.le (by omega)) (by walk_at "hp") ⟨by decide, by decide, by decide +kernel, ⟨by decide, by decide, by decide +kernel, trivial⟩⟩ (by unfold Small; decide +kernel) (by decide +kernel) (by decide)
    · refine w_ixL (xs := [.ref l0, .ref l1, .ref l2, .ref l3, .ref l4, .ref l5, .ref l6, .ref l7, .ref l8, .ref l9, .ref l10, .ref l11]) (sq (rm_le _ _ ho)) (atI_nat (j := 5) rfl) ?_
      walk_at "go"
      exact q l5 _ [] (by walk_at "same") (u33.le (by omega)) (by walk_at "hp") trivial (by unfold Small; decide +kernel) (by decide +kernel) (by decide)
    · refine w_ixL (xs := [.ref l0, .ref l1, .ref l2, .ref l3, .ref l4, .ref l5, .ref l6, .ref l7, .ref l8, .ref l9, .ref l10, .ref l11]) (sq (rm_le _ _ ho)) (atI_nat (j := 6) rfl) ?_
      walk_at "go"
      exact q l6 _ [(2, 2)] (by walk_at "same") (u33.le (by omega)) (by walk_at "hp") ⟨by decide, by decide, by decide +kernel, trivial⟩ (by unfold Small; decide +kernel) (by decide +kernel) (by decide)
    · refine w_ixL (xs := [.ref l0, .ref l1, .ref l2, .ref l3, .ref l4, .ref l5, .ref l6, .ref l7, .ref l8, .ref l9, .ref l10, .ref l11]) (sq (rm_le _ _ ho)) (atI_nat (j := 7) rfl) ?_
      walk_at "go"
      exact q l7 _ [(7, 1)] (by walk_at "same") (u33.le (by omega)) (by walk_at "hp") ⟨by decide, by decide, by decide +kernel, trivial⟩ (by unfold Small; decide +kernel) (by decide +kernel) (by decide)
    · refine w_ixL (xs := [.ref l0, .ref l1, .ref l2, .ref l3, .ref l4, .ref l5, .ref l6, .ref l7, .ref l8, .ref l9, .ref l10, .ref l11]) (sq (rm_le _ _ ho)) (atI_nat (j := 8) rfl) ?_
      walk_at "go"
      exact q l8 _ [(2, 1), (5, 1)] (by walk_at "same") (u33.le (by omega)) (by walk_at "hp") ⟨by decide, by decide, by decide +kernel, ⟨by decide, by decide, by decide +kernel, trivial⟩⟩ (by unfold Small; decide +kernel) (by decide +kernel) (by decide)
    · refine w_ixL (xs := [.ref l0, .ref l1, .ref l2, .ref l3, .ref l4, .ref l5, .ref l6, .ref l7, .ref l8, .ref l9, .ref l10, .ref l11]) (sq (rm_le _ _ ho)) (atI_nat (j := 9) rfl) ?_
      walk_at "go"
      exact q l9 _ [(2, 30), (997, 9)] (by walk_at "same") (u33.le (by omega)) (by walk_at "hp") ⟨by decide, by decide, by decide +kernel, ⟨by decide, by decide, by decide +kernel, trivial⟩⟩ (by unfold Small; decide +kernel) (by decide +kernel) (by decide)
    · refine w_ixL (xs := [.ref l0, .ref l1, .ref l2, .ref l3, .ref l4, .ref l5, .ref l6, .ref l7, .ref l8, .ref l9, .ref l10, .ref l11]) (sq (rm_le _ _ ho)) (atI_nat (j := 10) rfl) ?_
      walk_at "go"
      exact q l10 _ [(3, 20)] (by walk_at "same") (u33.le (by omega)) (by walk_at "hp") ⟨by decide, by decide, by decide +kernel, trivial⟩ (by unfold Small; decide +kernel) (by decide +kernel) (by decide)
    · refine w_ixL (xs := [.ref l0, .ref l1, .ref l2, .ref l3, .ref l4, .ref l5, .ref l6, .ref l7, .ref l8, .ref l9, .ref l10, .ref l11]) (sq (rm_le _ _ ho)) (atI_nat (j := 11) rfl) ?_
      walk_at "go"
      exact q l11 _ [(2, 1), (3, 1), (5, 1)] (by walk_at "same") (u33.le (by omega)) (by walk_at "hp") ⟨by decide, by decide, by decide +kernel, ⟨by decide, by decide, by decide +kernel, ⟨by decide, by decide, by decide +kernel, trivial⟩⟩⟩ (by unfold Small; decide +kernel) (by decide +kernel) (by decide)
abbrev s_drawnw : Stmt := (top 47)
theorem sc_drawnw : FnScope ["_law_purse_here", "_law_pairs", "_law_given", "_law_root"] ["_law_purse_here"] (defScope s_drawnw) :=
  ⟨rfl, rfl, rfl, by decide +kernel, rfl, by decide +kernel, by decide +kernel⟩
theorem ok_drawnw {c : CA} (F : Dn K mg "_law_drawn_way" s_drawnw ["_law_purse_here"]) (T : Bt mg) (X : Kx K mg c) (c_draw : Cal P w K mg base 2 "_law_draw" spDraw []) (c_great : Cal P w K mg base 3 "_law_great" spGreat []) (c_some : Cal P w K mg base 3 "_law_some_pairs" spSome70 []) (c_style : Cal P w K mg base 4 "_law_style" spStyle [])
    (c_marking : Cal P w K mg base 4 "_law_marking" (spMarking c) []) (c_modinit : Mak P w K mg base 3 "Modulus" c.md (spModInit c) []) (c_way3 : Mak P w K mg base 5 "Way" c.wy (spWayInit c) []) : Cal P w K mg base 7 "_law_drawn_way" (spDrawn70 c) [] := by
  refine F.cal sc_drawnw (fun vs H Q E h => ?_) (fun f cdv A outer s H vs Q E hr h => ?_)
  · obtain ⟨a, c, rfl, _⟩ := h
    rfl
  · obtain ⟨a, cc, rfl, hc, u0, q⟩ := h
    refine ⟨_, (pss_cons (ps_set (i := 1) sc_drawnw.nd rfl (Or.inl rfl) (pe_c c_some hr (by decide) (by rfl) (pa_cons (pv 0) pa_nil)))
      (pss_cons (ps_set (i := 2) sc_drawnw.nd rfl (Or.inl rfl) (pe_c c_style hr (by decide) (by rfl) (pa_cons (pv 0) pa_nil)))
      (pss_cons (ps_set (i := 3) sc_drawnw.nd rfl (Or.inl rfl) (pe_ix ix_list (pe_lst (pa_cons (pe_c c_draw hr (by decide) (by rfl) (pa_cons (pv 0) (pa_cons pe_int pa_nil))) (pa_cons (pe_c c_great hr (by decide) (by rfl) (pa_cons (pv 0) (pa_cons pe_int pa_nil))) (pa_cons (pe_op op_sub pe_int (pe_c c_draw hr (by decide) (by rfl) (pa_cons (pv 0) (pa_cons pe_int pa_nil)))) pa_nil)))) (pe_c c_draw hr (by decide) (by rfl) (pa_cons (pv 0) (pa_cons pe_int pa_nil))) (fun _ _ => rfl)))
      (pss_one (ps_ret (pe_tup (pa_cons (pe_mk c_way3 hr (by decide) (by rfl) (pa_cons (pv 3) (pa_cons (pe_mk c_modinit hr (by decide) (by rfl) (pa_cons (pv 1) pa_nil)) (pa_cons (pe_c c_marking hr (by decide) (by rfl) (pa_cons (pv 2) pa_nil)) pa_nil)))) (pa_cons (pv 2) pa_nil)))))))), ?_⟩
    walk_at "go"
    refine ⟨a, _, rfl, by omega, u0, fun l H1 ps s1 u1 hl ha hs hB hL => ?_⟩
    walk_at "go"
    refine use_styleR u1 (by omega) fun g H2 y s2 u2 hg hy => ?_
    walk_at "go"
    refine use_drawR u2 (by decide) (by decide) (by omega) fun r1 H3 _ _ s3 u3 => ?_
    walk_at "go"
    refine use_greatR u3 (by decide) (by decide) (by omega) fun r2 H4 _ _ s4 u4 => ?_
    walk_at "go"
    refine use_drawR u4 (by decide) (by decide) (by omega) fun r3 H5 _ _ s5 u5 => ?_
    walk_at "go"
    refine alR u5 fun p H6 s6 u6 hp _ => ?_
    walk_at "go"
    refine use_drawR u6 (by decide) (by decide) (by omega) fun k H7 k0 k1 s7 u7 => ?_
    obtain ⟨rt, hrt⟩ : ∃ rt : Int, atI [V.int r1, V.int r2, V.int (0 - r3)] k = some (.int rt) := by
      have ck : k = 0 ∨ k = 1 ∨ k = 2 := by omega
      rcases ck with rfl | rfl | rfl
      · exact ⟨_, atI_nat (j := 0) rfl⟩
      · exact ⟨_, atI_nat (j := 1) rfl⟩
      · exact ⟨_, atI_nat (j := 2) rfl⟩
    refine w_ixL (by walk_at "hp") hrt ?_
    walk_at "go"
    refine use_modR u7 (by walk_at "hp") ha hs fun m H8 s8 u8 hm => ?_
    walk_at "go"
    refine use_markingR u8 (by walk_at "hp") fun kg H9 s9 u9 hk => ?_
    walk_at "go"
    refine use_wayR u9 (y := y) (by walk_at "hp") (by walk_at "hp") fun x H10 s10 u10 hw => ?_
    walk_at "go"
    refine alR u10 fun t H11 s11 u11 ht _ => ?_
    walk_at "go"
    exact q t x g H11 _ ps y (by walk_at "same") (u11.le (by omega)) ht ⟨by walk_at "hp", hB, hL⟩ (by walk_at "hp")

abbrev s_led : Stmt := (top 14)
theorem sc_led : FnScope ["rest", "number", "other_rest", "other_number", "shared", "multiple", "steps"] ["rest", "number", "other_rest", "other_number"] (defScope s_led) :=
  ⟨rfl, rfl, rfl, by decide +kernel, rfl, by decide +kernel, by decide +kernel⟩
theorem ok_led (F : Dn K mg "led_together" s_led ["rest", "number", "other_rest", "other_number"]) (T : Bt mg) (c_gcd : Cal P w K mg base 1 "common_divisor" spGcd []) (c_inverse : Cal P w K mg base 1 "inverse" spInverse []) : Cal P w K mg base 2 "led_together" spLed [] := by
  refine F.cal sc_led (fun vs H Q E h => ?_) (fun f cdv A outer s H vs Q E hr h => ?_)
  · obtain ⟨r, n, r', n', rfl, _⟩ := h
    rfl
  · obtain ⟨r, n, r', n', rfl, hn, hn', bn, bn', br, br', q⟩ := h
    obtain ⟨u, v, hu, hv, u0, v0, e1, e2, e3, e4, hL⟩ := ledM_eq hn hn'
    have g0 := gcd_pos' (m := n') hn
    have hcop := led_cop hn hn'
    have ule : u ≤ n := by
      rw [hu]
      have := Int.mul_le_mul_of_nonneg_right (show (1 : Int) ≤ (Int.gcd n n' : Int) by omega) (Int.le_of_lt u0)
      omega
    have vle : v ≤ n' := by
      conv => rhs; rw [hv]
      have := Int.mul_le_mul_of_nonneg_right (show (1 : Int) ≤ (Int.gcd n n' : Int) by omega) (Int.le_of_lt v0)
      omega
    have gle : (Int.gcd n n' : Int) ≤ n := Int.le_of_dvd hn (Int.gcd_dvd_left ..)
    have bu : u.natAbs < 2 ^ 200 := wide_le (Int.le_of_lt u0) ule bn
    have bv : v.natAbs < 2 ^ 200 := wide_le (Int.le_of_lt v0) vle bn'
    have bg : (Int.gcd n n' : Int).natAbs < 2 ^ 200 := wide_le (Int.le_of_lt g0) gle bn
    refine ⟨_, (pss_cons (ps_set (i := 4) sc_led.nd rfl (Or.inl rfl) (pe_c c_gcd hr (by decide) (by rfl) (pa_cons (pv 1) (pa_cons (pv 3) pa_nil))))
      (pss_cons (ps_set (i := 5) sc_led.nd rfl (Or.inl rfl) (pe_op oMul (pe_op op_fdivW (pv 1) (pv 4)) (pv 3)))
      (pss_cons (ps_if (pt_cmpR op_ne (pe_op op_mod (pe_op op_sub (pv 2) (pv 0)) (pv 4)) pe_int (nomark _)) (pss_one (ps_ret (pe_tup (pa_cons pe_non (pa_cons (pv 5) pa_nil))))) pss_nil)
      (pss_cons (ps_set (i := 6) sc_led.nd rfl (Or.inl rfl) (pe_op oMul (pe_op op_fdivW (pe_op op_sub (pv 2) (pv 0)) (pv 4)) (pe_c c_inverse hr (by decide) (by rfl) (pa_cons (pe_op op_fdivW (pv 1) (pv 4)) (pa_cons (pe_op op_fdivW (pv 3) (pv 4)) pa_nil)))))
      (pss_one (ps_ret (pe_tup (pa_cons (pe_op op_mod (pe_op op_add (pv 0) (pe_op oMul (pv 1) (pv 6))) (pv 5)) (pa_cons (pv 5) pa_nil))))))))), ?_⟩
    walk_at "go"
    refine ⟨n, n', rfl, ?_⟩
    have hd : CDivW n (Int.gcd n n' : Int) := wdiv (b := 200) g0 bg (by decide)
    have hd' : CDivW n' (Int.gcd n n' : Int) := wdiv (b := 200) g0 bg (by decide)
    have hdd : CDivW (r' - r) (Int.gcd n n' : Int) := wdiv (b := 200) g0 bg (by decide)
    have m1 : CMx (n / (Int.gcd n n' : Int)) n' := by
      rw [e1]
      exact mx_w bu bn' (by decide)
    have em : n / (Int.gcd n n' : Int) * n' = ledM n n' := rfl
    walk_at "go"
    rw [decI]
    refine ite_nd (fun h1 => ?_) (fun h1 => ?_)
    · walk_at "go"
      refine al fun p H1 _ s1 hp => ?_
      walk_at "go"
      exact q p H1 none s1 h1 hp
    · walk_at "go"
      refine ⟨_, _, rfl, by rw [e2]; exact v0, by rw [e2]; exact Nat.lt_trans bv (Nat.pow_lt_pow_right (by decide) (by decide)), hcop, fun i H1 s1 i0 i1 hi => ?_⟩
      rw [e2] at i1
      have bi : i.natAbs < 2 ^ 200 := wide_le i0 (Int.le_of_lt i1) bv
      have b201 : (2 : Nat) ^ 201 = 2 * 2 ^ 200 := by decide
      have bs : (r' - r).natAbs < 2 ^ 201 := by omega
      have bd : ((r' - r) / (Int.gcd n n' : Int)).natAbs < 2 ^ 201 := Nat.lt_of_le_of_lt (Int.natAbs_ediv_le_natAbs _ _) bs
      have m2 : CMx ((r' - r) / (Int.gcd n n' : Int)) i := mx_w bd bi (by decide)
      have m3 : CMx n ((r' - r) / (Int.gcd n n' : Int) * i) := by
        refine mx_w (b := 401) bn ?_ (by decide)
        rw [Int.natAbs_mul, show (2 : Nat) ^ 401 = 2 ^ 201 * 2 ^ 200 by decide]
        exact Nat.mul_lt_mul'' bd bi
      walk_at "go"
      refine al fun p H2 _ s2 hp => ?_
      walk_at "go"
      exact q p H2 (some _) (s1.trans s2) (led_ok hn hn' h1 hi rfl) hp
abbrev s_both : Stmt := (top 34)
theorem sc_both : FnScope ["one", "other", "base", "shift", "powers", "prime", "power", "factors"] ["one", "other"] (defScope s_both) :=
  ⟨rfl, rfl, rfl, by decide +kernel, rfl, by decide +kernel, by decide +kernel⟩
theorem ok_both {c : CA} {Ci Cu : Addr} {f : Addr} {fd : FuncData} (F : FunD K "both" "both" (defArgs s_both) (defBody s_both) (defScope s_both) [] [] f fd) (T : Bt mg) (X : Kx K mg c) (zdict : mg "dict" = none) (zsorted : mg "sorted" = none) (c_reqonex : CalX P w K mg base 3 "require_one_way" (spReqOneX K c Ci) []) (c_reqlikex : CalX P w K mg base 1 "require_like" (spLikeX c Cu) []) (c_shiftof : Cal P w K mg base 1 "shift_of" (spShift c) []) (c_led : Cal P w K mg base 2 "led_together" spLed [])
    (c_modinit : Mak P w K mg base 3 "Modulus" c.md (spModInit c) []) (c_way3 : Mak P w K mg base 5 "Way" c.wy (spWayInit c) []) (c_mkLS : MakK P w K mg base 2 "Marking" c.kg ["low", "shift"] (spMkInit c) (fun vs zs => vs ++ zs ++ [.bl false])) :
    FnOk P w K mg base (L2.CX P w) 7 f fd ["one", "other"] (spBoth K c Ci Cu) := by
  refine fnX_ok F sc_both (fun vs H Q E h => ?_) (fun cdv A outer s H vs Q E hr h => ?_)
  · obtain ⟨v, u, rfl, _⟩ := h
    rfl
  · obtain ⟨v, u, rfl, h⟩ := h
    refine ⟨_, (pss_cons (ps_expr (pe_cX c_reqonex hr (by decide) (by rfl) (takes_of rfl rfl rfl rfl) (pa_cons (pv 0) pa_nil)))
      (pss_cons (ps_expr (pe_cX c_reqonex hr (by decide) (by rfl) (takes_of rfl rfl rfl rfl) (pa_cons (pv 1) pa_nil)))
      (pss_cons (ps_expr (pe_cX c_reqlikex hr (by decide) (by rfl) (takes_of rfl rfl rfl rfl) (pa_cons (pv 0) (pa_cons (pv 1) pa_nil))))
      (pss_cons (ps_set (i := 2) sc_both.nd rfl (Or.inl rfl) (pe_ix ix_tup (pe_c c_led hr (by decide) (by rfl) (pa_cons (pe_fld (pv 0) rfl) (pa_cons (pe_fld (pv 0) rfl) (pa_cons (pe_fld (pv 1) rfl) (pa_cons (pe_fld (pv 1) rfl) pa_nil))))) pe_int (fun _ _ => rfl)))
      (pss_cons (ps_set (i := 3) sc_both.nd rfl (Or.inl rfl) (pe_ix ix_tup (pe_c c_led hr (by decide) (by rfl) (pa_cons (pe_c c_shiftof hr (by decide) (by rfl) (pa_cons (pv 0) pa_nil)) (pa_cons (pe_fld (pv 0) rfl) (pa_cons (pe_c c_shiftof hr (by decide) (by rfl) (pa_cons (pv 1) pa_nil)) (pa_cons (pe_fld (pv 1) rfl) pa_nil))))) pe_int (fun _ _ => rfl)))
      (pss_cons (ps_if (PW.pt (pw_or (pt_cmpR op_isN1 (pv 2) pe_non (nomark _)) (pw_or1 (pt_cmpR op_isN1 (pv 3) pe_non (nomark _))))) (pss_one (ps_ret pe_non)) pss_nil)
      (pss_cons (ps_set (i := 4) sc_both.nd rfl (Or.inr rfl) (pe_callTy (call_dictF rfl) (by rfl) zdict (by decide +kernel) (pa_cons (pe_fld (pe_fld (pv 0) rfl) rfl) pa_nil)))
      (pss_cons (ps_for (passes_of rfl) rfl (pi_tup (pe_fld (pe_fld (pv 1) rfl) rfl)) (pg_tup rfl (pgs_cons (pg_name (i := 5) sc_both.nd rfl (Or.inl rfl)) (pgs_cons (pg_name (i := 6) sc_both.nd rfl (Or.inl rfl)) pgs_nil))) (pss_one (ps_if (pt_cmpR op_gt (pv 6) (pe_dget2 (u66 hr) (pv 4) (pv 5) pe_int ⟨rfl, rfl, rfl, rfl⟩) (nomark _)) (pss_one (ps_asg (pv 6) (pg_sub (pv 4) (pv 5) (set_dict (u66 hr))))) pss_nil)))
      (pss_cons (ps_setLc (i := 7) (own := [("prime", 5)]) (g := gName 5) (tt := tYes) (te := (tTup (tCons (tVar 5) (tCons (tDGet (tVar 4) (tVar 5)) tNil)))) rfl sc_both.nd rfl rfl (sw_true rfl rfl rfl (by decide +kernel)) (pi_list (pe_callB cr_sorted (by rfl) zsorted (by decide +kernel) (pa_cons (pe_lock (pe_lc (own := [("prime", 5)]) (g := gName 5) (tt := tYes) (te := (tCB _ (tCons (tVar 5) tNil))) rfl sc_both.nd (pi_keys (pv 4)) (blkOk_by (own := [("prime", 5)]) (N := ["one", "other", "base", "shift", "powers", "prime", "power", "factors"]) (sc := defScope s_both) (by decide +kernel)) (fun _ _ _ _ _ => (pg_name (i := 5) sc_both.nd rfl (Or.inl rfl))) (fun _ _ _ _ _ => pts_nil) (fun _ _ _ _ _ => (pe_callTy cInt1 (by rfl) T.int (by decide +kernel) (pa_cons (pv 5) pa_nil))))) pa_nil))) (blkOk_by (own := [("prime", 5)]) (N := ["one", "other", "base", "shift", "powers", "prime", "power", "factors"]) (sc := defScope s_both) (by decide +kernel)) (fun _ _ _ _ _ => (pg_name (i := 5) sc_both.nd rfl (Or.inl rfl))) (fun _ _ _ _ _ => pts_nil) (fun _ _ _ _ _ => (pe_tup (pa_cons (pv 5) (pa_cons (pe_dget (u66 hr) (pv 4) (pv 5) (fun _ _ => rfl)) pa_nil)))))
      (pss_one (ps_ret (pe_mk c_way3 hr (by decide) (by rfl) (pa_cons (pv 2) (pa_cons (pe_mk c_modinit hr (by decide) (by rfl) (pa_cons (pv 7) pa_nil)) (pa_cons (pe_mkK0 c_mkLS hr (by decide) (by rfl) (pk_cons (pe_fld (pe_fld (pv 0) rfl) rfl) (pk_cons (pv 3) pk_nil))) pa_nil))))))))))))))), ?_⟩
    walk_at "go"
    rcases h with ⟨t, ht, hk, q⟩ | ⟨x, b, ps, y, t, rfl, hw, ht, hk, q⟩ | ⟨x, x', b, b', ps, ps', y, y', rfl, rfl, hW, hW', q1, q2⟩
    · exact ⟨v, t, false, rfl, ht, hk, (fun z => by cases z), fun _ => q⟩
    · obtain ⟨dx, m, k, hx, r⟩ := id hw
      refine ⟨.ref x, _, true, rfl, X.wy.ty hx, kit_own, fun _ => ?_, (fun z => by cases z)⟩
      walk_at "go"
      exact ⟨u, t, false, rfl, ht, hk, (fun z => by cases z), fun _ => q⟩
    · obtain ⟨hw, bn, l3⟩ := hW
      obtain ⟨hw', bn', l3'⟩ := hW'
      have hn := hw.pos
      have hn' := hw'.pos
      obtain ⟨dx, m, k, hx, hm, _, b0, b1⟩ := id hw
      obtain ⟨dx', m', k', hx', hm', _, b0', b1'⟩ := id hw'
      obtain ⟨_, _, _, _, _, _, has, hsm⟩ := id hm
      obtain ⟨_, _, _, _, _, _, has', hsm'⟩ := id hm'
      refine ⟨.ref x, _, true, rfl, X.wy.ty hx, kit_own, fun _ => ?_, (fun z => by cases z)⟩
      walk_at "go"
      refine ⟨.ref x', _, true, rfl, X.wy.ty hx', kit_own, fun _ => ?_, (fun z => by cases z)⟩
      walk_at "go"
      refine ⟨x, x', b, b', ps, ps', y, y', rfl, hw, hw', fun hl => ?_, q1⟩
      have q := q2 hl
      have p0 : 0 ≤ plainS y b (num ps) := Int.emod_nonneg _ (by omega)
      have p1 : plainS y b (num ps) < num ps := Int.emod_lt_of_pos _ hn
      have p0' : 0 ≤ plainS y' b' (num ps') := Int.emod_nonneg _ (by omega)
      have p1' : plainS y' b' (num ps') < num ps' := Int.emod_lt_of_pos _ hn'
      walk_at "go"
      refine ⟨_, _, _, _, rfl, hn, hn', bn, bn', wide_le b0 (Int.le_of_lt b1) bn, wide_le b0' (Int.le_of_lt b1') bn', fun t1 H1 o s1 ho ht1 => ?_⟩
      refine w_ixT (xs := [optV o, .int (ledM (num ps) (num ps'))]) (by walk_at "hp") (atI_nat (j := 0) rfl) ?_
      walk_at "go"
      refine ⟨x, b, ps, y, rfl, hw.same s1, ?_⟩
      walk_at "go"
      refine ⟨x', b', ps', y', rfl, hw'.same s1, ?_⟩
      walk_at "go"
      refine ⟨_, _, _, _, rfl, hn, hn', bn, bn', wide_le p0 (Int.le_of_lt p1) bn, wide_le p0' (Int.le_of_lt p1') bn', fun t2 H2 o2 s2 ho2 ht2 => ?_⟩
      refine w_ixT (xs := [optV o2, .int (ledM (num ps) (num ps'))]) (by walk_at "hp") (atI_nat (j := 0) rfl) ?_
      walk_at "go"
      have S2 := s1.trans s2
      clear ht1 ht2
      obtain ⟨qa, qb⟩ := q o o2 ho ho2
      cases o with
      | none =>
        refine iteT (iteT ?_)
        walk_at "go"
        exact qa (.inl rfl) _ S2
      | some z =>
        refine iteF ?_
        cases o2 with
        | none =>
          walk_at "go"
          refine iteT ?_
          walk_at "go"
          exact qa (.inr rfl) _ S2
        | some s =>
          have q := qb z s rfl rfl
          clear qa qb
          walk_at "go"
          refine iteF ?_
          walk_at "go"
          rename_i m1 hm1 tt tts htt htts
          clear s1 s2
          refine ⟨tt, tts, toK ps, rfl, htt, toK_paired htts, fun d hd => ?_⟩
          rw [show mergeK [] (toK ps) = toK ps from mergeK_toK ps [] (asc_nd has)]
          have s3 : Same H2 (upd H2 d (.dK (toK ps))) := Same.new hd
          have h3 : upd H2 d (.dK (toK ps)) d = some (.dK (toK ps)) := upd_same
          have b3 : ∀ b o, b ≠ d → upd H2 d (.dK (toK ps)) b = some o → H2 b = some o := fun b o nb e => by rwa [upd_ne nb] at e
          generalize upd H2 d (.dK (toK ps)) = H3 at s3 h3 b3 ⊢
          walk_at "go"
          rename_i m2 hm2 t2 ts2 ht2 hts2
          clear hm1 htt htts
          have ht2 : TupF H2 t2 (ts2.map V.ref) := by
            obtain ⟨oo, od, e⟩ := ht2
            exact ⟨oo, od, b3 _ _ (fun z => by rw [z, h3] at e; cases e) e⟩
          have hts2 : Paired (Tp H2) ps' ts2 := paired_imp (fun _ _ e => b3 _ _ (fun z => by
            have e : H3 _ = some _ := e
            rw [z, h3] at e
            cases e) e) hts2
          refine ⟨⟨_, (ht2.same s3).sqt⟩, ?_⟩
          refine for_it (walk_tup (K := K) (xs := ts2.map V.ref)) (fun i σ H' => ∃ (es : List (Int × Int)) (v6 v7 : Option V), σ = [some (.ref x), some (.ref x'), some (.int z), some (.int s), some (.ref d), v6, v7, none] ∧ Same H2 H' ∧ H' d = some (.dK (toK es)) ∧ Mg ps (ps'.take i) es) ⟨ps, none, none, rfl, s3, h3, Mg.start has⟩ (fun i σ H' _ z => by obtain ⟨_, _, _, _, sm, _⟩ := z; exact (ht2.same sm).sqt) ?_ ?_
          · rintro i v σ H4 _ hi ⟨es, v6, v7, rfl, s4, h4, M⟩ ⟨rfl, hv⟩
            obtain ⟨t, ht, rfl⟩ := get_map hv
            obtain ⟨pr, hpr, htp⟩ := paired_get hts2 ht
            have hp1 := has'.at_ hpr
            have hi2 : i < ps'.length := (List.getElem?_eq_some_iff.mp hpr).1
            have tk : ps'.take (i + 1) = ps'.take i ++ [pr] := by rw [List.take_succ_eq_append_getElem hi2, (List.getElem?_eq_some_iff.mp hpr).2]
            refine w_gtup (sqt (s4 _ _ htp)) rfl ?_
            walk_at "go"
            refine w_dget2 ?_
            walk_at "go"
            refine ⟨.inl ⟨toK es, .inl h4⟩, ?_⟩
            walk_at "go"
            refine ⟨_, DGet.k (k := .inl pr.1) h4, ?_⟩
            rw [(val_toK pr.1 es).1]
            walk_at "go"
            have M2 := M.step (q := pr) hp1.2.1
            have hln := M.ln
            have htl : (ps'.take i).length ≤ 3 := by rw [List.length_take]; omega
            refine ite_d (fun hg => ?_) (fun hg => ?_)
            · walk_at "go"
              refine ⟨d, _, rfl, DPut.k (k := .inl pr.1) h4 (by have : (100 : Nat) < sizeLine := by decide
                                                                have : (toK es).length = es.length := by simp [toK]
                                                                omega), ?_⟩
              rw [putK_toK]
              rw [if_pos hg] at M2
              refine ⟨_, _, _, rfl, fun b o hb => ?_, upd_same, by rw [tk]; exact M2⟩
              rw [upd_ne (fun z => by rw [z, hd] at hb; cases hb)]
              exact s4 _ _ hb
            · rw [if_neg hg] at M2
              walk_at "go"
              exact ⟨_, _, _, rfl, s4, h4, by rw [tk]; exact M2⟩
          · rintro σ H4 ⟨es, v6, v7, rfl, s4, h4, M⟩
            rw [List.length_map, ← hts2.length, List.take_length] at M
            walk_at "go"
            refine ⟨d, .dK (toK es), h4, trivial, fun od => ?_⟩
            walk_at "go"
            refine ⟨_, rfl, d, od, rfl, .inl ⟨toK es, upd_same, ?_⟩⟩
            intro D hD
            have nD : D ≠ d := fun z => by
              rw [z, upd_same] at hD
              cases hD
            have hln := M.ln
            refine lc_pure ((es.map (·.1)).map V.int) ((es.map (·.1)).map V.int) walk_es hD (fun H' s => s _ _ upd_same) rfl (by rw [List.length_map, List.length_map]; omega) (fun _ => rfl) ?_ ?_
            · intro j x0 y0 H5 hx0 hy0 s5 Q' hQ'
              rw [hx0] at hy0
              cases hy0
              obtain ⟨p0, hp0, rfl⟩ := get_map hx0
              walk_at "go"
              exact hQ' _ (Same.refl _)
            intro H5 s5 hD5
            refine ⟨s5 _ _ upd_same, ?_⟩
            have s6 : Same H4 (upd H5 d (.dK (toK es))) := fun b o hb => by
              by_cases z : b = d
              · subst z
                rw [upd_same, ← h4, hb]
              · rw [upd_ne z]
                exact s5 _ _ ((upd_ne z).trans hb)
            have h6 : upd H5 d (.dK (toK es)) D = some (.lst ((es.map (·.1)).map V.int)) := (upd_ne nD).trans hD5
            have d6 : upd H5 d (.dK (toK es)) d = some (.dK (toK es)) := upd_same
            generalize upd H5 d (.dK (toK es)) = H6 at s6 h6 d6 ⊢
            walk_at "go"
            refine ⟨D, es.map (·.1), rfl, sq h6, by rw [List.length_map]; omega, fun qs p pm so np => ?_⟩
            have s7 : Same H6 (upd H6 p (.lst (qs.map V.int))) := Same.new np
            have h7 : upd H6 p (.lst (qs.map V.int)) p = some (.lst (qs.map V.int)) := upd_same
            have d7 := s7 _ _ d6
            generalize upd H6 p (.lst (qs.map V.int)) = H7 at s7 h7 d7 ⊢
            walk_at "go"
            have J := join_ok has has' hsm hsm' l3 l3' M pm so
            have qlen : qs.length ≤ 6 := by rw [pm.length_eq, List.length_map]; omega
            intro D2 hD2
            refine lc_rel (qs.map V.int) (fun x y G => ∃ (p : Int) (t : Addr), x = V.int p ∧ y = V.ref t ∧ G t = some (.tup [.int p, .int (look es p)])) (fun x y G G' sm z => by
              obtain ⟨p, t, e1, e2, e3⟩ := z
              exact ⟨p, t, e1, e2, sm _ _ e3⟩) walk_list hD2 (fun H' s => sq (s _ _ h7)) (by rw [List.length_map]; omega) (fun _ => rfl) ?_ ?_
            · intro j x0 H8 hx0 s8 hacc Q' hQ'
              obtain ⟨acc, hacc⟩ := hacc
              obtain ⟨p0, hp0, rfl⟩ := get_map hx0
              have hin : p0 ∈ es.map (·.1) := pm.mem_iff.mp (List.mem_of_getElem? hp0)
              obtain ⟨z0, hz0, ez0⟩ := List.mem_map.mp hin
              have hv := val_some M.nd hz0
              rw [show z0.1 = p0 from ez0] at hv
              walk_at "go"
              refine w_dget ?_
              walk_at "go"
              refine ⟨d, .int (look es p0), rfl, ?_, ?_⟩
              · rw [← hv]
                exact DGet.k (k := .inl p0) (s8 _ _ d7)
              walk_at "go"
              refine al fun t H9 n9 s9 h9 => ?_
              exact hQ' _ H9 s9 ⟨p0, t, rfl, rfl, rm_of (fun e => by rw [e] at n9; rw [n9] at hacc; cases hacc) h9⟩
            intro H8 ys s8 h8 pr8
            obtain ⟨ts8, rfl, hp8⟩ := prl_of pr8
            have S8 : Same H2 H8 := s4.trans (s6.trans (s7.trans s8))
            clear s3 s4 s6 s7 s8 h7 h6 d6 d7 s5
            walk_at "go"
            refine use_modS ⟨ts8, h8, hp8⟩ J.as J.sm fun mm H9 s9 hmm => ?_
            walk_at "go"
            refine ⟨rfl, rfl, use_mk fun kg H10 _ s10 hkg => ?_⟩
            walk_at "go"
            obtain ⟨z0, z1⟩ := ho.2
            have hzn : z % num (qs.map fun p => (p, look es p)) = z := by rw [J.nu]; exact Int.emod_eq_of_lt z0 z1.1
            refine use_way (y := ⟨y.low, s, false⟩) (hmm.same s10) (.inr ⟨kg, rfl, hkg⟩) fun ww H11 _ s11 hww => ?_
            walk_at "go"
            rw [hzn] at hww
            exact q ww H11 _ (S2.trans <| S8.trans (s9.trans (s10.trans s11))) J hww

abbrev s_caught : Stmt := (top 50)
theorem sc_caught : FnScope ["_law_first", "_law_second", "_law_caught_here", "error"] ["_law_first", "_law_second"] (defScope s_caught) :=
  ⟨rfl, rfl, rfl, by decide +kernel, rfl, by decide +kernel, by decide +kernel⟩
theorem ok_caught {c : CA} {Ci Cu : Addr} (F : Dn K mg "_law_caught" s_caught ["_law_first", "_law_second"]) (T : Bt mg) (e_invway : ErrC K mg "InvalidWay" Ci "thing") (e_unlike : Err0 K mg "UnlikeMarkings" Cu) (nu : PySem.W.exmOne K (.ref Cu) (.ref Ci) = some false) (c_both : CalX P w K mg base 7 "both" (spBoth K c Ci Cu) []) :
    Cal P w K mg base 8 "_law_caught" (spCaught7 K c) [] := by
  refine F.cal sc_caught (fun vs H Q E h => ?_) (fun f cdv A outer s H vs Q E hr h => ?_)
  · obtain ⟨v, u, rfl, _⟩ := h
    rfl
  · obtain ⟨v, u, rfl, h⟩ := h
    refine ⟨_, (pss_cons (ps_set (i := 2) sc_caught.nd rfl (Or.inl rfl) pe_non)
      (pss_cons (ps_try_cls rfl rfl takes0 (fun W pn xe tk po => (pss_one (ps_expr (pe_cX c_both hr (by decide) (by rfl) tk (pa_cons (pv 0) (pa_cons (pv 1) pa_nil))))))
      (ClsOk.as (i := 3) sc_caught.nd rfl rfl ⟨rfl, by decide, .inl e_invway.gC⟩ (fun a oe cls d pn hz hf => (pss_one (ps_set (i := 2) sc_caught.nd rfl (Or.inl rfl) (pe_lst (pa_cons pe_str (pa_cons (pe_xf e_invway.xf e_invway.no hz hf (pv 3)) pa_nil))))))
      (ClsOk.no ⟨rfl, by decide, .inl e_unlike.gC⟩ (fun a oe cls d pn hz hf => (pss_one (ps_set (i := 2) sc_caught.nd rfl (Or.inl rfl) (pe_lst (pa_cons pe_str pa_nil)))))
      ClsOk.nil)))
      (pss_one (ps_ret (pv 2))))), ?_⟩
    walk_at "go"
    rcases h with ⟨t, ht, hkt, q⟩ | ⟨x, b, ps, y, t, rfl, hw, ht, hkt, q⟩ | ⟨x, x', b, b', ps, ps', y, y', rfl, rfl, hw, hw', hl, q⟩
    · refine ⟨v, u, rfl, .inl ⟨t, ht, hkt, fun d H1 n1 s1 h1 => ?_⟩⟩
      refine w_clsA e_invway.te fun a na => ?_
      walk_at "go"
      refine w_xfi h1 ?_
      walk_at "go"
      refine al fun p H2 n2 s2 h2 => ?_
      walk_at "go"
      exact q p H2 (s1.free n2) (s1.trans s2) h2
    · refine ⟨.ref x, u, rfl, .inr (.inl ⟨x, b, ps, y, t, rfl, hw, ht, hkt, fun d H1 n1 s1 h1 => ?_⟩)⟩
      refine w_clsA e_invway.te fun a na => ?_
      walk_at "go"
      refine w_xfi h1 ?_
      walk_at "go"
      refine al fun p H2 n2 s2 h2 => ?_
      walk_at "go"
      exact q p H2 (s1.free n2) (s1.trans s2) h2
    · refine ⟨.ref x, .ref x', rfl, .inr (.inr ⟨x, x', b, b', ps, ps', y, y', rfl, rfl, hw, hw', fun _ => ?_, fun z => absurd z hl⟩)⟩
      refine w_cls0 nu (w_clsN e_unlike.te fun a na => ?_)
      walk_at "go"
      refine al fun p H2 n2 s2 h2 => ?_
      walk_at "go"
      exact q p H2 n2 s2 h2
abbrev s_near : Stmt := (top 49)
theorem sc_near : FnScope ["_law_purse_here", "_law_first", "_law_given", "_law_pairs", "_law_has_lead", "_law_root", "_law_moved"] ["_law_purse_here", "_law_first", "_law_given"] (defScope s_near) :=
  ⟨rfl, rfl, rfl, by decide +kernel, rfl, by decide +kernel, by decide +kernel⟩
theorem ok_near {c : CA} {Ci : Addr} (F : Dn K mg "_law_near" s_near ["_law_purse_here", "_law_first", "_law_given"]) (T : Bt mg) (X : Kx K mg c) (c_draw : Cal P w K mg base 2 "_law_draw" spDraw []) (c_some : Cal P w K mg base 3 "_law_some_pairs" spSome70 []) (c_plainx : CalX P w K mg base 4 "plain_shift" (spPlainX K c Ci) [])
    (c_modinit : Mak P w K mg base 3 "Modulus" c.md (spModInit c) []) (c_way3 : Mak P w K mg base 5 "Way" c.wy (spWayInit c) []) (c_mk3 : MakK P w K mg base 2 "Marking" c.kg ["low", "shift", "lead"] (spMkInit c) (fun vs zs => vs ++ zs)) : Cal P w K mg base 7 "_law_near" (spNear70 c) [] := by
  refine F.cal sc_near (fun vs H Q E h => ?_) (fun f cdv A outer s H vs Q E hr h => ?_)
  · obtain ⟨a, x, g, b, cc, ps, y, rfl, _⟩ := h
    rfl
  · obtain ⟨a, x, g, b, cc, ps, y, rfl, hc, u0, ⟨hw, bn, _⟩, hg, q⟩ := h
    have hn := hw.pos
    refine ⟨_, (pss_cons (ps_set (i := 3) sc_near.nd rfl (Or.inl rfl) (pe_c c_some hr (by decide) (by rfl) (pa_cons (pv 0) pa_nil)))
      (pss_cons (ps_set (i := 4) sc_near.nd rfl (Or.inl rfl) (pe_cmpR op_eq (pe_c c_draw hr (by decide) (by rfl) (pa_cons (pv 0) (pa_cons pe_int pa_nil))) pe_int (nomark _)))
      (pss_cons (ps_set (i := 5) sc_near.nd rfl (Or.inl rfl) (pe_op op_add (pe_op op_add (pe_fld (pv 1) rfl) (pe_op oMul (pe_c c_draw hr (by decide) (by rfl) (pa_cons (pv 0) (pa_cons pe_int pa_nil))) (pe_fld (pv 1) rfl))) (pe_op op_fdivW (pe_c c_draw hr (by decide) (by rfl) (pa_cons (pv 0) (pa_cons pe_int pa_nil))) pe_int)))
      (pss_cons (ps_set (i := 6) sc_near.nd rfl (Or.inl rfl) (pe_op op_add (pe_op op_add (pe_cL c_plainx hr (by decide) (by rfl) (pa_cons (pv 1) pa_nil)) (pe_op oMul (pe_c c_draw hr (by decide) (by rfl) (pa_cons (pv 0) (pa_cons pe_int pa_nil))) (pe_fld (pv 1) rfl))) (pe_op op_fdivW (pe_c c_draw hr (by decide) (by rfl) (pa_cons (pv 0) (pa_cons pe_int pa_nil))) pe_int)))
      (pss_cons (ps_if (pt_val (pv 4)) (pss_one (ps_set (i := 6) sc_near.nd rfl (Or.inl rfl) (pe_op op_sub (pv 6) (pe_op op_sub (pv 5) pe_int)))) pss_nil)
      (pss_one (ps_ret (pe_mk c_way3 hr (by decide) (by rfl) (pa_cons (pv 5) (pa_cons (pe_mk c_modinit hr (by decide) (by rfl) (pa_cons (pv 3) pa_nil)) (pa_cons (pe_mkK0 c_mk3 hr (by decide) (by rfl) (pk_cons (pe_ix ix_list (pv 2) pe_int (fun _ _ => rfl)) (pk_cons (pv 6) (pk_cons (pv 4) pk_nil)))) pa_nil))))))))))), ?_⟩
    walk_at "go"
    refine ⟨a, _, rfl, by omega, u0, fun l H1 ps' s1 u1 hl ha hs hB hL => ?_⟩
    walk_at "go"
    refine use_drawR u1 (by decide) (by decide) (by omega) fun k1 H2 _ _ s2 u2 => ?_
    walk_at "go"
    refine use_drawR u2 (by decide) (by decide) (by omega) fun k2 H3 k20 k21 s3 u3 => ?_
    walk_at "go"
    refine use_drawR u3 (by decide) (by decide) (by omega) fun k3 H4 k30 k31 s4 u4 => ?_
    walk_at "go"
    refine use_plainx X (by walk_at "hp") ?_
    walk_at "go"
    refine use_drawR u4 (by decide) (by decide) (by omega) fun k4 H5 k40 k41 s5 u5 => ?_
    walk_at "go"
    refine use_drawR u5 (by decide) (by decide) (by omega) fun k5 H6 k50 k51 s6 u6 => ?_
    walk_at "go"
    refine ite_joinN (fun σ' H' => ∃ (mv : Int), σ' = [some (.ref a), some (.ref x), some (.ref g), some (.ref l), some (.bl (decide (V.int k1 = V.int 1))), some (.int (b + k2 * num ps + k3 / 4)), some (.int mv)] ∧ H' = H6) ?_ ?_ ?_
    rotate_left
    · intro N hN
      walk_at "go"
      exact hN _ _ ⟨_, rfl, rfl⟩
    · intro N hN
      walk_at "go"
      exact hN _ _ ⟨_, rfl, rfl⟩
    rintro σ' HB ⟨mv, rfl, rfl⟩
    walk_at "go"
    refine use_modR u6 (by walk_at "hp") ha hs fun m H7 s7 u7 hm => ?_
    walk_at "go"
    refine ⟨rfl, rfl, use_mk fun kg HC _ sC hk => ?_⟩
    have uC := u7.same sC
    have hk := hk.rm uC
    have sC := sC.rm (a := a)
    walk_at "go"
    refine use_wayR uC (y := ⟨y.low, mv, decide (V.int k1 = V.int 1)⟩) (by walk_at "hp") (by walk_at "hp") fun xw HD sD uD hwD => ?_
    walk_at "go"
    exact q xw _ _ _ HD (by walk_at "same") (uD.le (by omega)) ⟨hwD, hB, hL⟩

abbrev s_textsr : Stmt := (top 51)
theorem sc_textsr : FnScope ["_law_purse_here", "_law_first", "_law_second", "_law_made", "_law_turn", "_law_here", "_law_there", "_law_letter_here", "_law_at", "_law_step"] ["_law_purse_here", "_law_first", "_law_second", "_law_made"] (defScope s_textsr) :=
  ⟨rfl, rfl, rfl, by decide +kernel, rfl, by decide +kernel, by decide +kernel⟩
theorem ok_textsr {c : CA} {Ci : Addr} (F : Dn K mg "_law_texts_right" s_textsr ["_law_purse_here", "_law_first", "_law_second", "_law_made"]) (T : Bt mg) (X : Kx K mg c) (c_draw : Cal P w K mg base 2 "_law_draw" spDraw []) (c_text : Cal P w K mg base 5 "_law_text" spText []) (c_letters : Cal P w K mg base 1 "_law_letters" spLetters []) (c_plainx : CalX P w K mg base 4 "plain_shift" (spPlainX K c Ci) []) (c_agree : Met P w K mg base 4 c.wy "agree" (spTwo c rAgree) []) : Cal P w K mg base 6 "_law_texts_right" (spTexts70 c) [] := by
  refine F.cal sc_textsr (fun vs H Q E h => ?_) (fun f cdv A outer s H vs Q E hr h => ?_)
  · obtain ⟨a, x, x', w, b, b', z, s, c, ps, ps', zs, y, y', rfl, _⟩ := h
    rfl
  · obtain ⟨a, x, x', w, b, b', z, s, cc, ps, ps', zs, y, y', rfl, hc, u0, ⟨hw, bn, _⟩, ⟨hw', bn', _⟩, hz, hA, q⟩ := h
    have hn := hw.pos
    have hn' := hw'.pos
    refine ⟨_, (pss_cons (ps_for PassesOwn.never rfl (pi_range1 (by rfl) T.range (pa_cons pe_int pa_nil)) (pg_name (i := 4) sc_textsr.nd rfl (Or.inr rfl)) (pss_cons (ps_set (i := 5) sc_textsr.nd rfl (Or.inl rfl) (pe_c c_letters hr (by decide) (by rfl) (pa_cons (pe_c c_text hr (by decide) (by rfl) (pa_cons (pv 0) (pa_cons pe_int pa_nil))) pa_nil)))
      (pss_cons (ps_setLc (i := 6) (own := [("_law_letter_here", 7)]) (g := gName 7) (tt := tYes) (te := (tOp _ (tVar 7) (tOp _ (tOp _ (tOp _ (tCall _ _ _ (tCons (tVar 0) (tCons _ tNil))) (tFld K (tVar 1) "number")) (tFld K (tVar 2) "number")) (tCB _ (tCons (tOp _ (tVar 4) _) tNil))))) rfl sc_textsr.nd rfl rfl (sw_true rfl rfl rfl (by decide +kernel)) (pi_list (pv 5)) (blkOk_by (own := [("_law_letter_here", 7)]) (N := ["_law_purse_here", "_law_first", "_law_second", "_law_made", "_law_turn", "_law_here", "_law_there", "_law_letter_here", "_law_at", "_law_step"]) (sc := defScope s_textsr) (by decide +kernel)) (fun _ _ _ _ _ => (pg_name (i := 7) sc_textsr.nd rfl (Or.inl rfl))) (fun _ _ _ _ _ => pts_nil) (fun _ _ _ _ _ => (pe_op op_add (pv 7) (pe_op oMul (pe_op oMul (pe_op oMul (pe_c c_draw hr (by decide) (by rfl) (pa_cons (pv 0) (pa_cons pe_int pa_nil))) (pe_fld (pv 1) rfl)) (pe_fld (pv 2) rfl)) (pe_callTy cInt1 (by rfl) T.int (by decide +kernel) (pa_cons (pe_cmpR op_gt (pv 4) pe_int (nomark _)) pa_nil))))))
      (pss_cons (ps_if (pt_cmpR op_eq (pe_op op_mod (pv 4) pe_int) pe_int (nomark _)) (pss_cons (ps_set (i := 8) sc_textsr.nd rfl (Or.inl rfl) (pe_c c_draw hr (by decide) (by rfl) (pa_cons (pv 0) (pa_cons (pe_op op_add (pe_callB cLen (by rfl) T.len (by decide +kernel) (pa_cons (pv 6) pa_nil)) pe_int) pa_nil))))
      (pss_cons (ps_set (i := 9) sc_textsr.nd rfl (Or.inl rfl) (pe_ix ix_list (pe_lst (pa_cons (pe_fld (pv 1) rfl) (pa_cons (pe_fld (pv 2) rfl) (pa_cons pe_int pa_nil)))) (pe_c c_draw hr (by decide) (by rfl) (pa_cons (pv 0) (pa_cons pe_int pa_nil))) (fun _ _ => rfl)))
      (pss_one (ps_set (i := 6) sc_textsr.nd rfl (Or.inl rfl) (pe_op op_cat (pe_op op_cat (pe_slice sl_list (pv 6) po_none (po_some (pv 8))) (pe_lst (pa_cons (pe_op op_add (pe_ix ix_list (pe_op op_cat (pv 6) (pe_lst (pa_cons pe_int pa_nil))) (pv 8) (fun _ _ => rfl)) (pv 9)) pa_nil))) (pe_slice sl_list (pv 6) (po_some (pe_op op_add (pv 8) pe_int)) po_none)))))) pss_nil)
      (pss_one (ps_if (pt_cmpR op_ne (pe_mt c_agree hr (by decide) (pv 3) (pa_cons (pv 5) (pa_cons (pv 6) pa_nil))) (pe_and (pe_mt c_agree hr (by decide) (pv 1) (pa_cons (pv 5) (pa_cons (pv 6) pa_nil))) (pe_one (pe_mt c_agree hr (by decide) (pv 2) (pa_cons (pv 5) (pa_cons (pv 6) pa_nil))))) (nomark _)) (pss_one (ps_ret pe_bl)) pss_nil))))))
      (pss_cons (ps_for PassesOwn.never rfl (pi_rangeW (by rfl) T.range (pa_cons (pe_op op_sub (pe_op op_sub pe_int (pe_cL c_plainx hr (by decide) (by rfl) (pa_cons (pv 3) pa_nil))) pe_int) (pa_cons (pe_op op_sub pe_int (pe_cL c_plainx hr (by decide) (by rfl) (pa_cons (pv 3) pa_nil))) pa_nil))) (pg_name (i := 7) sc_textsr.nd rfl (Or.inl rfl)) (pss_one (ps_if (pt_cmpR op_ne (pe_mt c_agree hr (by decide) (pv 3) (pa_cons (pe_lst pa_nil) (pa_cons (pe_lst (pa_cons (pv 7) pa_nil)) pa_nil))) (pe_and (pe_mt c_agree hr (by decide) (pv 1) (pa_cons (pe_lst pa_nil) (pa_cons (pe_lst (pa_cons (pv 7) pa_nil)) pa_nil))) (pe_one (pe_mt c_agree hr (by decide) (pv 2) (pa_cons (pe_lst pa_nil) (pa_cons (pe_lst (pa_cons (pv 7) pa_nil)) pa_nil))))) (nomark _)) (pss_one (ps_ret pe_bl)) pss_nil)))
      (pss_one (ps_ret pe_bl)))), ?_⟩
    walk_at "go"
    refine for_range (lo := 0) (n := 5) (fun i σ H' => ∃ (v4 v5 v6 v7 v8 v9 : Option V), σ = [some (.ref a), some (.ref x), some (.ref x'), some (.ref w), v4, v5, v6, v7, v8, v9] ∧ Same (rm a H) (rm a H') ∧ Purse H' a (cc + 500 * i)) ⟨none, none, none, none, none, none, rfl, Same.refl _, u0.le (by omega)⟩ ?_ ?_
    · rintro i σ H1 hi ⟨v4, v5, v6, v7, v8, v9, rfl, s1, u1⟩
      walk_at "go"
      refine use_textR u1 (by decide) (by decide) (by omega) fun tv ls H2 s2 u2 t1 l1 b1 => ?_
      walk_at "go"
      refine use_lettersR u2 (ls := ls) (by walk_at "hp") fun p1 H3 s3 u3 hp1 => ?_
      walk_at "go"
      have hl6 : ls.length ≤ 6 := by omega
      intro D hD
      refine lc_relR (ls.map V.int) 1 (fun _ z _ => ∃ n : Int, z = .int n) (fun _ _ _ _ _ z => z) walk_list u3 hD (fun H' sm => sq (rm_le _ _ (sm _ _ hp1))) (by rw [List.length_map]; omega) (fun _ => rfl) ?_ ?_
      · intro j vx H5 hx sm pu hacc Q' hQ'
        obtain ⟨l, hl, rfl⟩ := get_map hx
        have hj : j < ls.length := (List.getElem?_eq_some_iff.mp hl).1
        walk_at "go"
        have c2 : cc + 500 * (i : Int) + 2 + 34 * (6 + 1) + 1 * (j : Int) < 2 ^ 47 := by omega
        refine use_drawR pu (by decide) (by decide) (by omega) fun k H6 k0 k1 s6 u6 => ?_
        have mm : CMx (k * num ps) (num ps') := by
          refine mx_w (a := 202) (b := 200) ?_ bn' (by decide)
          rw [Int.natAbs_mul, show (2 : Nat) ^ 202 = 4 * 2 ^ 200 by decide]
          have hk4 : k.natAbs ≤ 4 := by omega
          exact Nat.lt_of_le_of_lt (Nat.mul_le_mul_right _ hk4) (Nat.mul_lt_mul_of_pos_left bn (by decide))
        walk_at "go"
        exact hQ' _ H6 s6 (u6.le (by omega)) ⟨_, rfl⟩
      intro H4 ys s4 u4 hD4 pr4
      obtain ⟨ms, rfl, hml⟩ := ints_of pr4
      rw [List.length_map] at hml u4
      clear pr4
      walk_at "go"
      refine ite_joinN (fun σ' H' => ∃ (qq : Addr) (ms' : List Int) (w7 w8 w9 : Option V), σ' = [some (.ref a), some (.ref x), some (.ref x'), some (.ref w), some (.int (0 + (i : Int))), some (.ref p1), some (.ref qq), w7, w8, w9] ∧ Same (rm a H4) (rm a H') ∧ Purse H' a (cc + 500 * i + 300) ∧ rm a H' qq = some (.lst (ms'.map V.int)) ∧ ms'.length ≤ 7) ?_ ?_ ?_
      rotate_left
      · intro N hN
        walk_at "go"
        refine use_drawR u4 (by omega) (by rw [List.length_map]; omega) (by omega) fun k H5 k0 k1 s5 u5 => ?_
        rw [List.length_map] at k1
        walk_at "go"
        refine alR u5 fun pst H6 s6 u6 hst _ => ?_
        walk_at "go"
        refine use_drawR u6 (by decide) (by decide) (by omega) fun j H7 j0 j1 s7 u7 => ?_
        obtain ⟨st, hat⟩ : ∃ st : Int, atI [V.int (num ps), V.int (num ps'), V.int 1] j = some (.int st) := by
          have cj : j = 0 ∨ j = 1 ∨ j = 2 := by omega
          rcases cj with rfl | rfl | rfl
          · exact ⟨_, atI_nat (j := 0) rfl⟩
          · exact ⟨_, atI_nat (j := 1) rfl⟩
          · exact ⟨_, atI_nat (j := 2) rfl⟩
        refine w_ixL (xs := [.int (num ps), .int (num ps'), .int 1]) (by walk_at "hp") hat ?_
        walk_at "go"
        obtain ⟨kn, rfl⟩ : ∃ kn : Nat, k = (kn : Int) := ⟨k.toNat, by omega⟩
        have hkn : kn ≤ ms.length := by omega
        refine w_slL (xs := ms.map V.int) (by walk_at "hp") (alR u7 fun p5 H8 s8 u8 h8 n8 => ?_)
        walk_at "go"
        refine alR u8 fun p6 H9 s9 u9 h9 _ => ?_
        walk_at "go"
        refine w_cat (xs := ms.map V.int) (ys := [.int 0]) (by walk_at "hp") (by walk_at "hp") (sz (by simp only [List.length_map, List.length_cons, List.length_nil]; omega)) (alR u9 fun p7 H10 s10 u10 h10 _ => ?_)
        walk_at "go"
        obtain ⟨old, hold⟩ : ∃ old : Int, atI (ms.map V.int ++ [.int 0]) (kn : Int) = some (.int old) := by
          rw [show ms.map V.int ++ [V.int 0] = (ms ++ [0]).map V.int by simp]
          obtain ⟨old, ho⟩ : ∃ old : Int, (ms ++ [0])[kn]? = some old := ⟨_, List.getElem?_eq_getElem (by simp; omega)⟩
          exact ⟨old, atI_nat (by rw [List.getElem?_map, ho]; rfl)⟩
        refine w_ixL (xs := ms.map V.int ++ [.int 0]) (by walk_at "hp") hold ?_
        walk_at "go"
        refine alR u10 fun p8 H11 s11 u11 h11 _ => ?_
        walk_at "go"
        rw [cut_to] at h8
        refine w_cat (xs := (ms.take kn).map V.int) (ys := [.int (old + st)]) (by walk_at "hp") (by walk_at "hp") (sz (by simp only [List.length_map, List.length_take, List.length_cons, List.length_nil]; omega)) (alR u11 fun p9 H12 s12 u12 h12 _ => ?_)
        walk_at "go"
        refine w_slL (xs := ms.map V.int) (by walk_at "hp") (alR u12 fun p10 H13 s13 u13 h13 _ => ?_)
        walk_at "go"
        rw [show (kn : Int) + 1 = ((kn + 1 : Nat) : Int) by omega, cut_from] at h13
        refine w_cat (xs := (ms.take kn).map V.int ++ [.int (old + st)]) (ys := (ms.drop (kn + 1)).map V.int) (by walk_at "hp") (by walk_at "hp") (sz (by simp only [List.length_append, List.length_map, List.length_take, List.length_drop, List.length_cons, List.length_nil]; omega)) (alR u13 fun p11 H14 s14 u14 h14 _ => ?_)
        walk_at "go"
        exact hN _ _ ⟨p11, ms.take kn ++ [old + st] ++ ms.drop (kn + 1), _, _, _, rfl, by walk_at "same", u14.le (by omega), by rw [h14]; simp, by simp only [List.length_append, List.length_take, List.length_drop, List.length_cons, List.length_nil]; omega⟩
      · intro N hN
        walk_at "go"
        exact hN _ _ ⟨D, ms, _, _, _, rfl, Same.refl _, u4.le (by omega), hD4, by omega⟩
      rintro σ' H5 ⟨qq, ms', w7, w8, w9, rfl, s5, u5, hqq, hm7⟩
      have hz5 := hz.same (show Same (rm a H) H5 from (s1.trans (s2.trans (s3.trans (s4.trans s5)))).trans rm_le)
      walk_at "go"
      refine w_methW hz5 ⟨by decide +kernel, by decide +kernel, by decide +kernel, by decide +kernel⟩ ?_
      walk_at "go"
      have S5 : Same (rm a H) (rm a H5) := s1.trans (s2.trans (s3.trans (s4.trans s5)))
      have hls : rm a H5 p1 = some (.lst (ls.map V.int)) := s5 _ _ (s4 _ _ hp1)
      have hw5 := hw.same S5
      have hw5' := hw'.same S5
      clear hD4 hp1 s2 s3 s4 s5 u2 u3 u4 t1 b1
      have g1 := rm_le _ _ hls
      have g2 := rm_le _ _ hqq
      refine ⟨w, .ref p1, .ref qq, z, zs, _, ls, ms', rfl, hz5, .lst p1 _ g1 (by omega), .lst qq _ g2 (by omega), fun H6 s6 => ?_⟩
      walk_at "go"
      have u6 := u5.same s6
      have hw6 := (hw5.same rm_le).same s6
      have hw6' := (hw5'.same rm_le).same s6
      rw [hA]
      refine w_methW hw6 ⟨by decide +kernel, by decide +kernel, by decide +kernel, by decide +kernel⟩ ?_
      walk_at "go"
      refine ⟨x, .ref p1, .ref qq, b, ps, y, ls, ms', rfl, hw6, .lst p1 _ (s6 _ _ g1) (by omega), .lst qq _ (s6 _ _ g2) (by omega), fun H7 s7 => ?_⟩
      walk_at "go"
      refine and_join (fun v H' => v = .bl (rAgree y b (num ps) ls ms' && rAgree y' b' (num ps') ls ms') ∧ Same H7 H') ?_ ?_ ?_
      rotate_left
      · intro h1 Q' hQ'
        walk_at "go"
        refine w_methW (hw6'.same s7) ⟨by decide +kernel, by decide +kernel, by decide +kernel, by decide +kernel⟩ ?_
        walk_at "go"
        refine ⟨x', .ref p1, .ref qq, b', ps', y', ls, ms', rfl, hw6'.same s7, .lst p1 _ (s7 _ _ (s6 _ _ g1)) (by omega), .lst qq _ (s7 _ _ (s6 _ _ g2)) (by omega), fun H8 s8 => ?_⟩
        exact hQ' _ _ ⟨by rw [h1]; rfl, s8⟩
      · intro h1
        exact ⟨by rw [h1]; rfl, Same.refl _⟩
      rintro _ H8 ⟨rfl, s8⟩
      walk_at "go"
      rw [decide_eq_true (Eq.refl _)]
      refine iteF ?_
      walk_at "go"
      exact ⟨_, _, _, _, _, _, rfl, S5.trans (s6.rm.trans (s7.rm.trans s8.rm)), ((u6.same s7).same s8).le (by omega)⟩
    · rintro σ H1 ⟨v4, v5, v6, v7, v8, v9, rfl, s1, u1⟩
      walk_at "go"
      refine w_rngW ?_
      walk_at "go"
      refine use_plainx X (by walk_at "hp") ?_
      walk_at "go"
      refine use_plainx X (by walk_at "hp") ?_
      walk_at "go"
      refine ⟨_, _, rfl, ?_⟩
      rw [show (3 - plainS ⟨y.low, s, false⟩ z (num zs) - (0 - plainS ⟨y.low, s, false⟩ z (num zs) - 2)).toNat = 5 by omega]
      refine for_range (lo := 0 - plainS ⟨y.low, s, false⟩ z (num zs) - 2) (n := 5) (fun i σ H' => ∃ (v4 v5 v6 v7 v8 v9 : Option V), σ = [some (.ref a), some (.ref x), some (.ref x'), some (.ref w), v4, v5, v6, v7, v8, v9] ∧ Same (rm a H1) (rm a H') ∧ Purse H' a (cc + 2500)) ⟨v4, v5, v6, v7, v8, v9, rfl, Same.refl _, u1.le (by omega)⟩ ?_ ?_
      · rintro i σ H3 hi ⟨v4, v5, v6, v7, v8, v9, rfl, s3, u3⟩
        have S3 := s1.trans s3
        have hz3 := hz.same S3
        have hw3 := hw.same S3
        have hw3' := hw'.same S3
        generalize 0 - plainS ⟨y.low, s, false⟩ z (num zs) - 2 + (i : Int) = l
        walk_at "go"
        refine w_methW (hz3.same rm_le) ⟨by decide +kernel, by decide +kernel, by decide +kernel, by decide +kernel⟩ ?_
        walk_at "go"
        refine alR u3 fun p1 H4 s4 u4 h1 _ => ?_
        walk_at "go"
        refine alR u4 fun p2 H5 s5 u5 h2 _ => ?_
        walk_at "go"
        refine ⟨w, .ref p1, .ref p2, z, zs, _, [], [l], rfl, (hz3.same (s4.trans s5)).same rm_le, .lst p1 _ (rm_le _ _ (s5 _ _ h1)) (by decide), .lst p2 _ (rm_le _ _ h2) (by show 1 ≤ 100000; decide), fun H6 s6 => ?_⟩
        have u6 := u5.same s6
        have s6 := s6.rm (a := a)
        walk_at "go"
        rw [hA]
        refine w_methW ((hw3.same (s4.trans (s5.trans s6))).same rm_le) ⟨by decide +kernel, by decide +kernel, by decide +kernel, by decide +kernel⟩ ?_
        walk_at "go"
        refine alR u6 fun p3 H7 s7 u7 h3 _ => ?_
        walk_at "go"
        refine alR u7 fun p4 H8 s8 u8 h4 _ => ?_
        walk_at "go"
        refine ⟨x, .ref p3, .ref p4, b, ps, y, [], [l], rfl, (hw3.same (s4.trans (s5.trans (s6.trans (s7.trans s8))))).same rm_le, .lst p3 _ (rm_le _ _ (s8 _ _ h3)) (by decide), .lst p4 _ (rm_le _ _ h4) (by show 1 ≤ 100000; decide), fun H9 s9 => ?_⟩
        have u9 := u8.same s9
        have s9 := s9.rm (a := a)
        have S9 : Same (rm a H3) (rm a H9) := s4.trans (s5.trans (s6.trans (s7.trans (s8.trans s9))))
        clear s4 s5 s6 s7 s8 s9 u4 u5 u6 u7 u8 h1 h2 h3 h4
        walk_at "go"
        refine and_join (fun v H' => v = .bl (rAgree y b (num ps) [] [l] && rAgree y' b' (num ps') [] [l]) ∧ Same (rm a H9) (rm a H') ∧ Purse H' a (cc + 2500)) ?_ ?_ ?_
        rotate_left
        · intro e1 Q' hQ'
          walk_at "go"
          refine w_methW ((hw3'.same S9).same rm_le) ⟨by decide +kernel, by decide +kernel, by decide +kernel, by decide +kernel⟩ ?_
          walk_at "go"
          refine alR u9 fun p5 HA sA uA h5 _ => ?_
          walk_at "go"
          refine alR uA fun p6 HB sB uB h6 _ => ?_
          walk_at "go"
          refine ⟨x', .ref p5, .ref p6, b', ps', y', [], [l], rfl, (hw3'.same (S9.trans (sA.trans sB))).same rm_le, .lst p5 _ (rm_le _ _ (sB _ _ h5)) (by decide), .lst p6 _ (rm_le _ _ h6) (by show 1 ≤ 100000; decide), fun HC sC => ?_⟩
          exact hQ' _ _ ⟨by rw [e1]; rfl, sA.trans (sB.trans sC.rm), uB.same sC⟩
        · intro e1
          exact ⟨by rw [e1]; rfl, Same.refl _, u9⟩
        rintro _ HD ⟨rfl, sD, uD⟩
        walk_at "go"
        rw [decide_eq_true (Eq.refl _)]
        refine iteF ?_
        walk_at "go"
        exact ⟨_, _, _, _, _, _, rfl, s3.trans (S9.trans sD), uD⟩
      · rintro σ H3 ⟨v4, v5, v6, v7, v8, v9, rfl, s3, u3⟩
        walk_at "go"
        exact q H3 (s1.trans s3) (u3.le (by omega))

abbrev s_right : Stmt := (top 52)
theorem sc_right : FnScope ["_law_purse_here", "_law_first", "_law_given", "_law_second", "_law_odd", "_law_shared", "_law_differ", "_law_made", "_law_step", "_law_size", "_law_had"] ["_law_purse_here"] (defScope s_right) :=
  ⟨rfl, rfl, rfl, by decide +kernel, rfl, by decide +kernel, by decide +kernel⟩
theorem ok_right {c : CA} {Ci Cu : Addr} (F : Dn K mg "_law_right" s_right ["_law_purse_here"]) (T : Bt mg) (X : Kx K mg c) (nw : NoW K c) (q_eqwy : EqO P w K mg base 3 c.wy (spEqWy K c)) (c_draw : Cal P w K mg base 2 "_law_draw" spDraw []) (c_drawnw : Cal P w K mg base 7 "_law_drawn_way" (spDrawn70 c) []) (c_near : Cal P w K mg base 7 "_law_near" (spNear70 c) [])
    (c_caught : Cal P w K mg base 8 "_law_caught" (spCaught7 K c) []) (c_both : CalX P w K mg base 7 "both" (spBoth K c Ci Cu) []) (c_plainx : CalX P w K mg base 4 "plain_shift" (spPlainX K c Ci) []) (c_common : Cal P w K mg base 1 "_law_common" spDiv []) (c_textsr : Cal P w K mg base 6 "_law_texts_right" (spTexts70 c) [])
    (c_way3 : Mak P w K mg base 5 "Way" c.wy (spWayInit c) []) (c_mkLS : MakK P w K mg base 2 "Marking" c.kg ["low", "shift"] (spMkInit c) (fun vs zs => vs ++ zs ++ [.bl false])) :
    Cal P w K mg base 9 "_law_right" spRight [] := by
  refine F.cal sc_right (fun vs H Q E h => ?_) (fun f cdv A outer s H vs Q E hr h => ?_)
  · obtain ⟨a, c, rfl, _⟩ := h
    rfl
  · obtain ⟨a, cc, rfl, hc, p, k⟩ := h
    refine ⟨_, (pss_cons (ps_asg (pe_c c_drawnw hr (by decide) (by rfl) (pa_cons (pv 0) pa_nil)) (pg_tup rfl (pgs_cons (pg_name (i := 1) sc_right.nd rfl (Or.inl rfl)) (pgs_cons (pg_name (i := 2) sc_right.nd rfl (Or.inl rfl)) pgs_nil))))
      (pss_cons (ps_set (i := 3) sc_right.nd rfl (Or.inl rfl) (pe_ifExp (pt_cmpR op_gt (pe_c c_draw hr (by decide) (by rfl) (pa_cons (pv 0) (pa_cons pe_int pa_nil))) pe_int (nomark _)) (pe_c c_near hr (by decide) (by rfl) (pa_cons (pv 0) (pa_cons (pv 1) (pa_cons (pv 2) pa_nil)))) (pe_ix ix_tup (pe_c c_drawnw hr (by decide) (by rfl) (pa_cons (pv 0) pa_nil)) pe_int (fun _ _ => rfl))))
      (pss_cons (ps_set (i := 4) sc_right.nd rfl (Or.inl rfl) (pe_ix ix_list (pe_lst (pa_cons pe_non (pa_cons pe_int (pa_cons pe_str (pa_cons (pe_fld (pv 1) rfl) (pa_cons (pe_lst (pa_cons (pv 1) pa_nil)) (pa_cons pe_dnewK (pa_cons pe_bl pa_nil)))))))) (pe_c c_draw hr (by decide) (by rfl) (pa_cons (pv 0) (pa_cons pe_int pa_nil))) (fun _ _ => rfl)))
      (pss_cons (ps_if (pt_cmpR (op_neA hr.units) (pe_lst (pa_cons (pe_c c_caught hr (by decide) (by rfl) (pa_cons (pv 4) (pa_cons pe_int pa_nil))) (pa_cons (pe_c c_caught hr (by decide) (by rfl) (pa_cons (pv 1) (pa_cons (pv 4) pa_nil))) (pa_cons (pe_c c_caught hr (by decide) (by rfl) (pa_cons (pv 4) (pa_cons (pv 3) pa_nil))) pa_nil)))) (pe_op op_rep (pe_lst (pa_cons (pe_lst (pa_cons pe_str (pa_cons (pv 4) pa_nil))) pa_nil)) pe_int) (nomark _)) (pss_one (ps_ret pe_bl)) pss_nil)
      (pss_cons (ps_if (pt_cmpR (op_neO q_eqwy hr (by decide)) (pe_cL c_both hr (by decide) (by rfl) (pa_cons (pv 1) (pa_cons (pv 1) pa_nil))) (pe_mk c_way3 hr (by decide) (by rfl) (pa_cons (pe_fld (pv 1) rfl) (pa_cons (pe_fld (pv 1) rfl) (pa_cons (pe_mkK0 c_mkLS hr (by decide) (by rfl) (pk_cons (pe_ix ix_list (pv 2) pe_int (fun _ _ => rfl)) (pk_cons (pe_cL c_plainx hr (by decide) (by rfl) (pa_cons (pv 1) pa_nil)) pk_nil))) pa_nil)))) (nomark _)) (pss_one (ps_ret pe_bl)) pss_nil)
      (pss_cons (ps_if (pt_cmpR op_ne (pe_fld (pe_fld (pv 1) rfl) rfl) (pe_fld (pe_fld (pv 3) rfl) rfl) (nomark _)) (pss_one (ps_ret (pe_cmpR (op_eqA hr.units) (pe_lst (pa_cons (pe_c c_caught hr (by decide) (by rfl) (pa_cons (pv 1) (pa_cons (pv 3) pa_nil))) (pa_cons (pe_c c_caught hr (by decide) (by rfl) (pa_cons (pv 3) (pa_cons (pv 1) pa_nil))) pa_nil))) (pe_lst (pa_cons (pe_lst (pa_cons pe_str pa_nil)) (pa_cons (pe_lst (pa_cons pe_str pa_nil)) pa_nil))) (nomark _)))) pss_nil)
      (pss_cons (ps_set (i := 5) sc_right.nd rfl (Or.inr rfl) (pe_c c_common hr (by decide) (by rfl) (pa_cons (pe_fld (pv 1) rfl) (pa_cons (pe_fld (pv 3) rfl) pa_nil))))
      (pss_cons (ps_set (i := 6) sc_right.nd rfl (Or.inl rfl) (pe_lst (pa_cons (pe_op op_sub (pe_fld (pv 1) rfl) (pe_fld (pv 3) rfl)) (pa_cons (pe_op op_sub (pe_cL c_plainx hr (by decide) (by rfl) (pa_cons (pv 1) pa_nil)) (pe_cL c_plainx hr (by decide) (by rfl) (pa_cons (pv 3) pa_nil))) pa_nil))))
      (pss_cons (ps_set (i := 7) sc_right.nd rfl (Or.inl rfl) (pe_cL c_both hr (by decide) (by rfl) (pa_cons (pv 1) (pa_cons (pv 3) pa_nil))))
      (pss_cons (ps_if (pt_cmpR (op_neD hr.units) (pe_lc (own := [("_law_step", 8)]) (g := gName 8) (tt := (tTest (tOp _ (tOp _ (tVar 8) (tVar 5)) _))) (te := (tVar 8)) rfl sc_right.nd (pi_list (pv 6)) (blkOk_by (own := [("_law_step", 8)]) (N := ["_law_purse_here", "_law_first", "_law_given", "_law_second", "_law_odd", "_law_shared", "_law_differ", "_law_made", "_law_step", "_law_size", "_law_had"]) (sc := defScope s_right) (by decide +kernel)) (fun _ _ _ _ _ => (pg_name (i := 8) sc_right.nd rfl (Or.inl rfl))) (fun _ _ _ _ _ => (pts_one (pt_cmpR op_ne (pe_op op_mod (pv 8) (pv 5)) pe_int (nomark _)))) (fun _ _ _ _ _ => (pv 8))) (pe_lst pa_nil) (nomark _)) (pss_one (ps_ret (pe_and (pe_cmpR op_isN1 (pv 7) pe_non (nomark _)) (pe_one (pe_cmpR op_isN1 (pe_cL c_both hr (by decide) (by rfl) (pa_cons (pv 3) (pa_cons (pv 1) pa_nil))) pe_non (nomark _)))))) pss_nil)
      (pss_cons (ps_set (i := 9) sc_right.nd rfl (Or.inl rfl) (pe_op oMul (pe_op op_fdivW (pe_fld (pv 1) rfl) (pv 5)) (pe_fld (pv 3) rfl)))
      (pss_cons (ps_if (PW.pt (pw_or (pt_cmpR op_ne (pe_fld (pv 7) rfl) (pv 9) (nomark _)) (pw_or (pt_val (pe_fld (pe_fld (pv 7) rfl) rfl)) (pw_or (pt_cmpR op_ne (pe_fld (pe_fld (pv 7) rfl) rfl) (pe_ix ix_list (pv 2) pe_int (fun _ _ => rfl)) (nomark _)) (pw_or1 (pt_not (pt_chain op_le op_lt pe_int (pe_fld (pe_fld (pv 7) rfl) rfl) (pv 9)))))))) (pss_one (ps_ret pe_bl)) pss_nil)
      (pss_cons (ps_for PassesOwn.never rfl (pi_tup (pe_tup (pa_cons (pv 1) (pa_cons (pv 3) pa_nil)))) (pg_name (i := 10) sc_right.nd rfl (Or.inl rfl)) (pss_one (ps_if (PW.pt (pw_or (pt_cmpR op_ne (pe_op op_mod (pe_op op_sub (pe_fld (pv 7) rfl) (pe_fld (pv 10) rfl)) (pe_fld (pv 10) rfl)) pe_int (nomark _)) (pw_or1 (pt_cmpR op_ne (pe_op op_mod (pe_op op_sub (pe_fld (pe_fld (pv 7) rfl) rfl) (pe_cL c_plainx hr (by decide) (by rfl) (pa_cons (pv 10) pa_nil))) (pe_fld (pv 10) rfl)) pe_int (nomark _))))) (pss_one (ps_ret pe_bl)) pss_nil)))
      (pss_one (ps_ret (pe_and (pe_cmpR (op_eqO q_eqwy hr (by decide)) (pe_cL c_both hr (by decide) (by rfl) (pa_cons (pv 3) (pa_cons (pv 1) pa_nil))) (pv 7) (nomark _)) (pe_one (pe_c c_textsr hr (by decide) (by rfl) (pa_cons (pv 0) (pa_cons (pv 1) (pa_cons (pv 3) (pa_cons (pv 7) pa_nil)))))))))))))))))))))), ?_⟩
    walk_at "go"
    refine ⟨a, _, rfl, by omega, p, fun t x g H1 b ps y s1 u1 ht hW hg => ?_⟩
    walk_at "go"
    refine use_drawR u1 (by decide) (by decide) (by omega) fun k2 H2 _ _ s2 u2 => ?_
    walk_at "go"
    refine ite_join (fun v H' => ∃ (x' : Addr) (b' : Int) (ps' : List (Int × Int)) (y' : Sty), v = .ref x' ∧ Same (rm a H1) (rm a H') ∧ Purse H' a (cc + 500) ∧ WayS c (rm a H') x' b' ps' y') ?_ ?_ ?_
    rotate_left
    · intro Q' hQ'
      walk_at "go"
      refine ⟨a, x, g, b, _, ps, y, rfl, by omega, u2, hW.same s2, by walk_at "hp", fun x' b' ps' y' H3 s3 u3 hw3 => ?_⟩
      exact hQ' _ _ ⟨x', b', ps', y', rfl, by walk_at "same", u3.le (by omega), hw3⟩
    · intro Q' hQ'
      walk_at "go"
      refine ⟨a, _, rfl, by omega, u2, fun t3 x' g3 H3 b' ps' y' s3 u3 ht3 hw3 _ => ?_⟩
      refine w_ixT (xs := [.ref x', .ref g3]) (by walk_at "hp") (atI_nat (j := 0) rfl) ?_
      exact hQ' _ _ ⟨x', b', ps', y', rfl, by walk_at "same", u3.le (by omega), hw3⟩
    rintro v H3 ⟨x', b', ps', y', rfl, s3, u3, hW'⟩
    clear u2 s2
    obtain ⟨hw, bn, l3⟩ := hW
    obtain ⟨hw', bn', l3'⟩ := hW'
    have hn := hw.pos
    have hn' := hw'.pos
    walk_at "go"
    rename_i m4 hm4
    have hm4 := hm4.rm u3
    walk_at "go"
    refine alR u3 fun lw H5 s5 u5 hlw _ => ?_
    walk_at "go"
    refine alR u5 fun dd H6 s6 u6 hdd _ => ?_
    walk_at "go"
    refine alR u6 fun lo H7 s7 u7 hlo _ => ?_
    walk_at "go"
    refine use_drawR u7 (by decide) (by decide) (by omega) fun j H8 j0 j1 s8 u8 => ?_
    obtain ⟨v, hat, hpv, hodd⟩ : ∃ v : V, atI [V.non, .int 3, .str "way", .ref m4, .ref lw, .ref dd, .bl true] j = some v ∧ plainV v = true ∧ ∀ G : Hp, Same (rm a H8) G → ∃ tv : Value, TyX K G v tv ∧ PySem.W.kitOne K tv (.ref c.wy) = some false := by
      have cj : j = 0 ∨ j = 1 ∨ j = 2 ∨ j = 3 ∨ j = 4 ∨ j = 5 ∨ j = 6 := by omega
      rcases cj with rfl | rfl | rfl | rfl | rfl | rfl | rfl
      · exact ⟨_, atI_nat (j := 0) rfl, rfl, fun G _ => ⟨_, .base .non, nw.non⟩⟩
      · exact ⟨_, atI_nat (j := 1) rfl, rfl, fun G _ => ⟨_, .base (.int _), nw.int⟩⟩
      · exact ⟨_, atI_nat (j := 2) rfl, rfl, fun G _ => ⟨_, .base (.str _), nw.str⟩⟩
      · obtain ⟨dx, t2, ts, h1, _⟩ := id hm4
        have h1 := hpL h1 (show Same _ (rm a H8) by walk_at "same")
        exact ⟨_, atI_nat (j := 3) rfl, rfl, fun G sG => ⟨_, X.md.ty (sG _ _ h1), nw.md⟩⟩
      · have h1 := hpL hlw (show Same _ (rm a H8) by walk_at "same")
        exact ⟨_, atI_nat (j := 4) rfl, rfl, fun G sG => ⟨_, .base (.lst (sG _ _ h1)), nw.lst⟩⟩
      · have h1 := hpL hdd (show Same _ (rm a H8) by walk_at "same")
        exact ⟨_, atI_nat (j := 5) rfl, rfl, fun G sG => ⟨_, .base (.dK (sG _ _ h1)), nw.dct⟩⟩
      · exact ⟨_, atI_nat (j := 6) rfl, rfl, fun G _ => ⟨_, .base (.bl _), nw.bl⟩⟩
    refine w_ixL (by walk_at "hp") hat ?_
    have S8 : Same (rm a H1) (rm a H8) := by walk_at "same"
    have hw' := hw'.same (show Same (rm a H3) (rm a H8) by
      clear S8
      walk_at "same")
    have hw := hw.same S8
    have hg := S8 _ _ hg
    have W8 : Same (rm a H) (rm a H8) := s1.trans S8
    clear s1 s3 s5 s6 s7 s8 S8 u1 u3 u5 u6 u7 hm4 hlw hdd hlo ht hat
    walk_at "go"
    obtain ⟨t1, ty1, k1⟩ := hodd H8 rm_le
    refine ⟨v, .int 5, rfl, .inl ⟨t1, ty1, k1, fun p1 HA nA sA hp1 => ?_⟩⟩
    have uA := u8.same sA
    have hp1 := rm_of (u8.fresh nA) hp1
    have sA := sA.rm (a := a)
    walk_at "go"
    obtain ⟨t2, ty2, k2⟩ := hodd HA (Same.trans sA rm_le)
    refine ⟨.ref x, v, rfl, .inr (.inl ⟨x, b, ps, y, t2, rfl, by walk_at "hp", ty2, k2, fun p2 HB nB sB hp2 => ?_⟩)⟩
    have uB := uA.same sB
    have hp2 := rm_of (uA.fresh nB) hp2
    have sB := sB.rm (a := a)
    walk_at "go"
    obtain ⟨t3, ty3, k3⟩ := hodd HB (Same.trans sA (Same.trans sB rm_le))
    refine ⟨v, .ref x', rfl, .inl ⟨t3, ty3, k3, fun p3 HC nC sC hp3 => ?_⟩⟩
    have uC := uB.same sC
    have hp3 := rm_of (uB.fresh nC) hp3
    have sC := sC.rm (a := a)
    walk_at "go"
    refine alR uC fun q1 HD sD uD hq1 _ => ?_
    walk_at "go"
    refine alR uD fun q2 HE sE uE hq2 _ => ?_
    walk_at "go"
    refine alR uE fun q3 HF sF uF hq3 _ => ?_
    walk_at "go"
    refine w_rep (xs := [.ref q2]) (rm_le _ _ hq3) ⟨by decide, by decide, (show 3 ≤ sizeLine by decide)⟩ (alR uF fun q4 HG sG uG hq4 _ => ?_)
    walk_at "go"
    have g2 := hpL hq2 (show Same _ HG by walk_at "same")
    have f1 : ∀ {G : Hp} {r : Addr}, rm a G r = some (.lst [.str "way", v]) → Same (rm a G) HG → Alk K HG 1 (.ref r) (.ref q2) := fun h sm => .inr ⟨_, q2, [.str "way", v], [.str "way", v], rfl, rfl, sq (hpL h sm), sq g2, .cons ⟨rfl, rfl⟩ (.cons ⟨rfl, hpv⟩ .nil)⟩
    refine ⟨1, q1, q4, [.ref p1, .ref p2, .ref p3], [.ref q2, .ref q2, .ref q2], rfl, rfl, by decide, sq (hpL hq1 (by walk_at "same")), sq (hpL hq4 (by walk_at "same")), .cons (f1 hp1 (by walk_at "same")) (.cons (f1 hp2 (by walk_at "same")) (.cons (f1 hp3 (by walk_at "same")) .nil)), ?_⟩
    walk_at "go"
    refine iteF ?_
    have SG : Same (rm a H8) (rm a HG) := by walk_at "same"
    have hw := hw.same SG
    have hw' := hw'.same SG
    have hg := SG _ _ hg
    have WG := W8.trans SG
    clear hodd hpv W8 SG sA sB sC sD sE sF sG u8 uA uB uC uD uE uF hp1 hp2 hp3 hq1 hq2 hq3 hq4 g2 f1
    obtain ⟨_, _, _, _, _, _, b0, b1⟩ := id hw
    obtain ⟨_, _, _, _, _, _, b0', b1'⟩ := id hw'
    walk_at "go"
    refine ⟨.ref x, .ref x, rfl, .inr (.inr ⟨x, x, b, b, ps, ps, y, y, rfl, rfl, ⟨hw.same rm_le, bn, l3⟩, ⟨hw.same rm_le, bn, l3⟩, fun z => absurd rfl z, fun _ o o2 ho ho2 => ?_⟩)⟩
    have p0 : 0 ≤ plainS y b (num ps) := Int.emod_nonneg _ (by omega)
    have p1 : plainS y b (num ps) < num ps := Int.emod_lt_of_pos _ hn
    refine ⟨fun hno => ?_, fun z s e1 e2 w1 HH zs sH J hw1 => ?_⟩
    · exfalso
      rcases hno with e | e
      · subst e
        exact ho (by rw [Int.sub_self, Int.zero_emod])
      · subst e
        exact ho2 (by rw [Int.sub_self, Int.zero_emod])
    subst e1 e2
    have ez := ho.self hn b0 b1
    have es := ho2.self hn p0 p1
    have eN := J.nu.trans (ledM_self hn)
    clear ho ho2
    have uH := uG.same sH
    have sH := sH.rm (a := a)
    have hw1 := hw1.rm uH
    walk_at "go"
    rename_i m5 hm5
    refine use_plainx X (by walk_at "hp") ?_
    walk_at "go"
    refine ⟨rfl, rfl, use_mk fun kg HI _ sI hk => ?_⟩
    have uI := uH.same sI
    have hk := hk.rm uI
    have hm5 := (hm5.rm uH).same (sI.rm (a := a))
    have sI := sI.rm (a := a)
    walk_at "go"
    refine use_wayR uI (y := ⟨y.low, plainS y b (num ps), false⟩) (by walk_at "hp") (by walk_at "hp") fun w2 HJ sJ uJ hw2 => ?_
    walk_at "go"
    have hw1 := (hw1.same sI).same sJ
    refine neWy X (hw1.same rm_le) (hw2.same rm_le) fun HK sK => ?_
    rw [eqWay_self (ez.trans (Int.emod_eq_of_lt b0 b1).symm) eN (by rw [es])]
    walk_at "go"
    refine iteF ?_
    have uK := uJ.same sK
    have sK := sK.rm (a := a)
    have SK : Same (rm a HG) (rm a HK) := sH.trans (sI.trans (sJ.trans sK))
    have hw := hw.same SK
    have hw' := hw'.same SK
    have hg := SK _ _ hg
    have WK := WG.trans SK
    clear hw1 hw2 hm5 hk WG SK sH sI sJ sK uG uH uI uJ ez es eN J
    walk_at "go"
    rw [decB]
    refine ite_nd (fun hl => ?_) (fun hl => ?_)
    · walk_at "go"
      refine ⟨.ref x, .ref x', rfl, .inr (.inr ⟨x, x', b, b', ps, ps', y, y', rfl, rfl, ⟨hw.same rm_le, bn, l3⟩, ⟨hw'.same rm_le, bn', l3'⟩, hl, fun p1 HA nA sA hp1 => ?_⟩)⟩
      have uA := uK.same sA
      have hp1 := rm_of (uK.fresh nA) hp1
      have sA := sA.rm (a := a)
      walk_at "go"
      refine ⟨.ref x', .ref x, rfl, .inr (.inr ⟨x', x, b', b, ps', ps, y', y, rfl, rfl, ⟨(hw'.same sA).same rm_le, bn', l3'⟩, ⟨(hw.same sA).same rm_le, bn, l3⟩, fun z => hl z.symm, fun p2 HB nB sB hp2 => ?_⟩)⟩
      have uB := uA.same sB
      have hp2 := rm_of (uA.fresh nB) hp2
      have sB := sB.rm (a := a)
      walk_at "go"
      refine alR uB fun q1 HD sD uD hq1 _ => ?_
      walk_at "go"
      refine alR uD fun q2 HE sE uE hq2 _ => ?_
      walk_at "go"
      refine alR uE fun q3 HF sF uF hq3 _ => ?_
      walk_at "go"
      refine alR uF fun q4 HM sM uM hq4 _ => ?_
      walk_at "go"
      refine ⟨1, q1, q4, [.ref p1, .ref p2], [.ref q2, .ref q3], rfl, rfl, by decide, sq (hpL hq1 (by walk_at "same")), sq (hpL hq4 (by walk_at "same")), .cons (alk_l (hpL hp1 (by walk_at "same")) (hpL hq2 (by walk_at "same")) (by simp [plainV])) (.cons (alk_l (hpL hp2 (by walk_at "same")) (hpL hq3 (by walk_at "same")) (by simp [plainV])) .nil), ?_⟩
      walk_at "go"
      exact k _ (Keep.ofR (WK.trans (by walk_at "same"))) (uM.le (by omega))
    walk_at "go"
    refine ⟨num ps, num ps', rfl, by omega, by omega, ?_⟩
    walk_at "go"
    have g0 : (0 : Int) < (Int.gcd (num ps) (num ps') : Int) := gcd_pos' hn
    refine use_plainx X (by walk_at "hp") ?_
    walk_at "go"
    refine use_plainx X (by walk_at "hp") ?_
    walk_at "go"
    refine alR uK fun pd HA sA uA hpd _ => ?_
    walk_at "go"
    have hw := hw.same sA
    have hw' := hw'.same sA
    have hg := sA _ _ hg
    refine ⟨.ref x, .ref x', rfl, .inr (.inr ⟨x, x', b, b', ps, ps', y, y', rfl, rfl, ⟨hw.same rm_le, bn, l3⟩, ⟨hw'.same rm_le, bn', l3'⟩, fun z => absurd hl z, fun _ o o2 ho ho2 => ?_⟩)⟩
    have WA := WK.trans sA
    clear WK sA uK
    refine ⟨fun hno HB sB => ?_, fun z s e1 e2 w1 HB zs sB J hw1 => ?_⟩
    · have uB := uA.same sB
      have sB := sB.rm (a := a)
      have hw := hw.same sB
      have hw' := hw'.same sB
      have hpd := sB _ _ hpd
      have WB := WA.trans sB
      clear WA sB uA hg
      walk_at "go"
      intro D hD
      refine lc_filt [.int (b - b'), .int (plainS y b (num ps) - plainS y' b' (num ps'))] (stepsN (Int.gcd (num ps) (num ps') : Int)) (fun v => v) walk_list hD (fun H' sm => sq (sm _ _ (rm_le _ _ hpd))) (by show 2 ≤ 100000; decide) (fun _ => rfl) ?_ ?_ ?_
      · intro i v0 H' hx sm Q' q'
        obtain ⟨z0, rfl⟩ : ∃ z0 : Int, v0 = .int z0 := by
          have := List.mem_of_getElem? hx
          simp only [List.mem_cons, List.not_mem_nil, or_false] at this
          rcases this with e | e
          · exact ⟨_, e⟩
          · exact ⟨_, e⟩
        walk_at "go"
        have ee : (!decide (V.int (z0 % (Int.gcd (num ps) (num ps') : Int)) = V.int 0)) = stepsN (Int.gcd (num ps) (num ps') : Int) (.int z0) := by
          rw [decI]
          unfold stepsN
          by_cases g : z0 % (Int.gcd (num ps) (num ps') : Int) = 0
          · simp [g]
          · simp [g]
        rw [ee]
        exact q' _ (Same.refl _)
      · intro i v0 H' hx hpx sm Q' q'
        walk_at "go"
        exact q' _ (Same.refl _)
      intro HX sX hX
      rw [stepsN_fil] at hX
      have hX := rm_of (uB.fresh hD) hX
      have uX := uB.same sX
      have sX := sX.rm (a := a)
      walk_at "go"
      refine alR uX fun pn HY sY uY hY _ => ?_
      walk_at "go"
      refine w_neLL (ls := [b - b', plainS y b (num ps) - plainS y' b' (num ps')].filter fun z => decide (z % (Int.gcd (num ps) (num ps') : Int) ≠ 0)) (ms := []) (sq (rm_le _ _ (sY _ _ hX))) (sq (rm_le _ _ hY)) ?_
      walk_at "go"
      refine ite_nd (fun hne => ?_) (fun hne => ?_)
      · walk_at "go"
        refine iteT ?_
        walk_at "go"
        have SY := sX.trans sY
        refine ⟨.ref x', .ref x, rfl, .inr (.inr ⟨x', x, b', b, ps', ps, y', y, rfl, rfl, ⟨(hw'.same SY).same rm_le, bn', l3'⟩, ⟨(hw.same SY).same rm_le, bn, l3⟩, fun z => absurd hl.symm z, fun _ o3 o4 ho3 ho4 => ?_⟩)⟩
        refine ⟨fun _ HZ sZ => ?_, fun z s e1 e2 w1 HZ zs sZ J hw1 => ?_⟩
        · walk_at "go"
          exact k _ (Keep.ofR (WB.trans (SY.trans sZ.rm))) ((uY.same sZ).le (by omega))
        · exfalso
          subst e1 e2
          refine hne (stepsN_nil.mpr ⟨?_, ?_⟩)
          · rw [Int.gcd_comm]
            exact ho3.1
          · rw [Int.gcd_comm]
            exact ho4.1
      · exfalso
        have hc := stepsN_nil.mp hne
        rcases hno with e | e
        · subst e
          exact ho (led_flip.mpr hc.1)
        · subst e
          exact ho2 (led_flip.mpr hc.2)
    · subst e1 e2
      have uB := uA.same sB
      have hw1 := hw1.rm uB
      have sB := sB.rm (a := a)
      have hw := hw.same sB
      have hw' := hw'.same sB
      have hpd := sB _ _ hpd
      have hg := sB _ _ hg
      have WB := WA.trans sB
      clear WA sB uA
      walk_at "go"
      intro D hD
      refine lc_filt [.int (b - b'), .int (plainS y b (num ps) - plainS y' b' (num ps'))] (stepsN (Int.gcd (num ps) (num ps') : Int)) (fun v => v) walk_list hD (fun H' sm => sq (sm _ _ (rm_le _ _ hpd))) (by show 2 ≤ 100000; decide) (fun _ => rfl) ?_ ?_ ?_
      · intro i v0 H' hx sm Q' q'
        obtain ⟨z0, rfl⟩ : ∃ z0 : Int, v0 = .int z0 := by
          have := List.mem_of_getElem? hx
          simp only [List.mem_cons, List.not_mem_nil, or_false] at this
          rcases this with e | e
          · exact ⟨_, e⟩
          · exact ⟨_, e⟩
        walk_at "go"
        have ee : (!decide (V.int (z0 % (Int.gcd (num ps) (num ps') : Int)) = V.int 0)) = stepsN (Int.gcd (num ps) (num ps') : Int) (.int z0) := by
          rw [decI]
          unfold stepsN
          by_cases g : z0 % (Int.gcd (num ps) (num ps') : Int) = 0
          · simp [g]
          · simp [g]
        rw [ee]
        exact q' _ (Same.refl _)
      · intro i v0 H' hx hpx sm Q' q'
        walk_at "go"
        exact q' _ (Same.refl _)
      intro HX sX hX
      rw [stepsN_fil] at hX
      have hX := rm_of (uB.fresh hD) hX
      have uX := uB.same sX
      have sX := sX.rm (a := a)
      walk_at "go"
      refine alR uX fun pn HY sY uY hY _ => ?_
      walk_at "go"
      refine w_neLL (ls := [b - b', plainS y b (num ps) - plainS y' b' (num ps')].filter fun z => decide (z % (Int.gcd (num ps) (num ps') : Int) ≠ 0)) (ms := []) (sq (rm_le _ _ (sY _ _ hX))) (sq (rm_le _ _ hY)) ?_
      walk_at "go"
      refine ite_nd (fun hne => ?_) (fun hne => ?_)
      · exact absurd (stepsN_nil.mpr ⟨led_flip.mp ho.1, led_flip.mp ho2.1⟩) hne
      · have SY := sX.trans sY
        have hw := hw.same SY
        have hw' := hw'.same SY
        have hw1 := hw1.same SY
        have hg := SY _ _ hg
        have WY := WB.trans SY
        clear WB SY sX sY uX uB hX hpd hY hne hD
        have hd : CDivW (num ps) (Int.gcd (num ps) (num ps') : Int) := wdiv (b := 200) g0 (wide_le (Int.le_of_lt g0) (Int.le_of_dvd hn (Int.gcd_dvd_left ..)) bn) (by decide)
        obtain ⟨ua, va, hua, hva, ua0, va0, eu1, eu2, eu3, eu4, hL⟩ := ledM_eq hn hn'
        have m1 : CMx (num ps / (Int.gcd (num ps) (num ps') : Int)) (num ps') := by
          refine mx_w (a := 200) (b := 200) ?_ bn' (by decide)
          exact Nat.lt_of_le_of_lt (Int.natAbs_ediv_le_natAbs _ _) bn
        have em : num ps / (Int.gcd (num ps) (num ps') : Int) * num ps' = ledM (num ps) (num ps') := rfl
        walk_at "go"
        rw [show num ps / (Int.gcd (num ps) (num ps') : Int) * num ps' = num zs from J.nu.symm, decide_eq_true (Eq.refl _)]
        refine iteF ?_
        walk_at "go"
        refine iteF ?_
        walk_at "go"
        rw [show (!decide (V.bl (Sty.low ⟨y.low, s, false⟩) = V.bl y.low)) = false by simp]
        refine iteF ?_
        have hs0 : decide (0 ≤ s) = true := decide_eq_true ho2.2.1
        have hs1 : decide (s < num zs) = true := decide_eq_true (by rw [J.nu]; exact ho2.2.2.1)
        walk_at "go"
        first
          | (rw [hs0]; refine iteT ?_; walk_at "go"; rw [hs1]; refine iteF ?_)
          | (rw [hs0, hs1]; refine iteF ?_)
        walk_at "go"
        refine alR uY fun tp HT sT uT htp _ => ?_
        walk_at "go"
        have hw := hw.same sT
        have hw' := hw'.same sT
        have hw1 := hw1.same sT
        have WT := WY.trans sT
        clear WY sT uY hg
        have dz : num ps ∣ z - b := ho.2.2.2.1
        have dz' : num ps' ∣ z - b' := ho.2.2.2.2
        have ds : num ps ∣ s - plainS y b (num ps) := ho2.2.2.2.1
        have ds' : num ps' ∣ s - plainS y' b' (num ps') := ho2.2.2.2.2
        refine for_it (walk_tup (K := K) (xs := [.ref x, .ref x'])) (fun i σ H' => ∃ (v10 : Option V), σ = [some (.ref a), some (.ref x), some (.ref g), some (.ref x'), some v, some (.int (Int.gcd (num ps) (num ps') : Int)), some (.ref pd), some (.ref w1), none, some (.int (num zs)), v10] ∧ Same (rm a HT) (rm a H') ∧ Purse H' a (cc + 800)) ⟨none, rfl, Same.refl _, uT.le (by omega)⟩ (fun i σ H' _ z => by obtain ⟨_, _, sm, _⟩ := z; exact sqt (rm_le _ _ (sm _ _ htp))) ?_ ?_
        · rintro i y0 σ H9 _ hi ⟨v10, rfl, s9, u9⟩ ⟨rfl, hv⟩
          obtain ⟨xx, bx, px, yx, rfl, hwx, hd1, hd2⟩ : ∃ (xx : Addr) (bx : Int) (px : List (Int × Int)) (yx : Sty), y0 = .ref xx ∧ WayAt c (rm a HT) xx bx px yx ∧ (z - bx) % num px = 0 ∧ (s - plainS yx bx (num px)) % num px = 0 := by
            have := List.mem_of_getElem? hv
            simp only [List.mem_cons, List.not_mem_nil, or_false] at this
            rcases this with e | e
            · exact ⟨x, b, ps, y, e, hw, Int.emod_eq_zero_of_dvd dz, Int.emod_eq_zero_of_dvd ds⟩
            · exact ⟨x', b', ps', y', e, hw', Int.emod_eq_zero_of_dvd dz', Int.emod_eq_zero_of_dvd ds'⟩
          have hnx := hwx.pos
          have hwx := hwx.same s9
          have hw1 := hw1.same s9
          walk_at "go"
          rw [decI, decide_eq_true hd1]
          refine iteF ?_
          walk_at "go"
          refine use_plainx X (hwx.same rm_le) ?_
          walk_at "go"
          rw [decI, decide_eq_true hd2]
          refine iteF ?_
          walk_at "go"
          exact ⟨_, rfl, s9, u9⟩
        rintro σ H9 ⟨v10, rfl, s9, u9⟩
        have hw := hw.same s9
        have hw' := hw'.same s9
        have hw1 := hw1.same s9
        have W9 := WT.trans s9
        walk_at "go"
        refine ⟨.ref x', .ref x, rfl, .inr (.inr ⟨x', x, b', b, ps', ps, y', y, rfl, rfl, ⟨hw'.same rm_le, bn', l3'⟩, ⟨hw.same rm_le, bn, l3⟩, fun z => absurd hl.symm z, fun _ o3 o4 ho3 ho4 => ?_⟩)⟩
        refine ⟨fun hno HZ sZ => ?_, fun z' s' e1 e2 w2 HZ zs' sZ J' hw2 => ?_⟩
        · exfalso
          rcases hno with e | e
          · subst e
            exact ho3 (by rw [Int.gcd_comm]; exact led_flip.mp ho.1)
          · subst e
            exact ho4 (by rw [Int.gcd_comm]; exact led_flip.mp ho2.1)
        subst e1 e2
        have uZ := u9.same sZ
        have hw2 := hw2.rm uZ
        have sZ := sZ.rm (a := a)
        walk_at "go"
        refine eqWy X (hw2.same rm_le) ((hw1.same sZ).same rm_le) fun HK sK => ?_
        rw [eqWay_self (OkLed.symm hn hn' ho ho3) (by rw [J'.nu, J.nu, ledM_comm hn' hn]) (by rw [OkLed.symm hn hn' ho2 ho4, hl])]
        have uK := uZ.same sK
        have SK := sZ.trans (sK.rm (a := a))
        walk_at "go"
        refine iteT ?_
        walk_at "go"
        refine ⟨a, x, x', w1, b, b', z, s, _, ps, ps', zs, y, y', rfl, by omega, uK, ⟨hw.same SK, bn, l3⟩, ⟨hw'.same SK, bn', l3'⟩, hw1.same SK, joined_agree hn hn' hl J.nu dz dz' ds ds', fun HQ sQ uQ => ?_⟩
        walk_at "go"
        exact k _ (Keep.ofR (W9.trans (SK.trans sQ))) (uQ.le (by omega))

abbrev s_law : Stmt := (top 53)
theorem sc_law : FnScope ["_law_script", "_law_at", "_law_purse_here", "_law_turn", "_law_first", "_law_second", "_law_due"] ["_law_script"] (defScope s_law) :=
  ⟨rfl, rfl, rfl, by decide +kernel, rfl, by decide +kernel, by decide +kernel⟩
theorem ok_law {c : CA} {Ci Cu : Addr} {f : Addr} {fd : FuncData} (F : L2.Fun K "law" "law" s_law f fd) (T : Bt mg) (X : Kx K mg c) (q_eqwy : EqO P w K mg base 3 c.wy (spEqWy K c)) (c_purse : Cal P w K mg base 1 "_law_purse" (spPurse K) []) (c_right : Cal P w K mg base 9 "_law_right" spRight [])
    (c_both : CalX P w K mg base 7 "both" (spBoth K c Ci Cu) []) (c_bothK : CalXK P w K mg base 7 "both" ["other", "one"] (spBoth K c Ci Cu) (fun vs zs => vs ++ zs.reverse))
    (c_modinit : Mak P w K mg base 3 "Modulus" c.md (spModInit c) []) (c_way2 : Mak P w K mg base 5 "Way" c.wy (spWayInit c) [.non]) (c_way3 : Mak P w K mg base 5 "Way" c.wy (spWayInit c) []) (c_mkL : MakK P w K mg base 2 "Marking" c.kg ["lead"] (spMkInit c) (fun vs zs => vs ++ [.bl false, .int 0] ++ zs)) (c_mkS : MakK P w K mg base 2 "Marking" c.kg ["shift"] (spMkInit c) (fun vs zs => vs ++ [.bl false] ++ zs ++ [.bl false])) :
    FnOk P w K mg base L2.CX0 10 f fd ["_law_script"] (spLaw K) := by
  refine F.ok sc_law (fun vs H Q E h => ?_) (fun cdv A outer s H vs Q E hr h => ?_)
  · obtain ⟨a, ns, rfl, _⟩ := h
    rfl
  · obtain ⟨a, ns, rfl, hS, hl, k⟩ := h
    refine ⟨_, (pss_cons (ps_for PassesOwn.never rfl (pi_range1 (by rfl) T.range (pa_cons (pe_op op_add pe_int (pe_callB (cMin2 rfl) (by rfl) T.min (by decide +kernel) (pa_cons pe_int (pa_cons (pe_callB cLen (by rfl) T.len (by decide +kernel) (pa_cons (pv 0) pa_nil)) pa_nil)))) pa_nil)) (pg_name (i := 1) sc_law.nd rfl (Or.inl rfl)) (pss_cons (ps_set (i := 2) sc_law.nd rfl (Or.inl rfl) (pe_c c_purse hr (by decide) (by rfl) (pa_cons (pv 0) (pa_cons (pv 1) pa_nil))))
      (pss_one (ps_for PassesOwn.never rfl (pi_range1 (by rfl) T.range (pa_cons pe_int pa_nil)) (pg_name (i := 3) sc_law.nd rfl (Or.inl rfl)) (pss_one (ps_if (pt_not (pt_val (pe_c c_right hr (by decide) (by rfl) (pa_cons (pv 2) pa_nil)))) (pss_one (ps_ret pe_bl)) pss_nil))))))
      (pss_cons (ps_par (i := 4) (j := 5) (by rfl) sc_law.nd rfl rfl (by decide) rfl rfl (pa_cons (pe_mk c_way3 hr (by decide) (by rfl) (pa_cons pe_int (pa_cons (pe_mk c_modinit hr (by decide) (by rfl) (pa_cons (pe_lst (pa_cons (pe_tup (pa_cons pe_int (pa_cons pe_int pa_nil))) pa_nil)) pa_nil)) (pa_cons (pe_mkK0 c_mkL hr (by decide) (by rfl) (pk_cons pe_bl pk_nil)) pa_nil)))) (pa_cons (pe_mk c_way2 hr (by decide) (by rfl) (pa_cons pe_int (pa_cons (pe_mk c_modinit hr (by decide) (by rfl) (pa_cons (pe_lst (pa_cons (pe_tup (pa_cons pe_int (pa_cons pe_int pa_nil))) (pa_cons (pe_tup (pa_cons pe_int (pa_cons pe_int pa_nil))) pa_nil))) pa_nil)) pa_nil))) pa_nil)) (by rfl))
      (pss_cons (ps_set (i := 6) sc_law.nd rfl (Or.inl rfl) (pe_mk c_way3 hr (by decide) (by rfl) (pa_cons pe_int (pa_cons (pe_mk c_modinit hr (by decide) (by rfl) (pa_cons (pe_lst (pa_cons (pe_tup (pa_cons pe_int (pa_cons pe_int pa_nil))) (pa_cons (pe_tup (pa_cons pe_int (pa_cons pe_int pa_nil))) pa_nil))) pa_nil)) (pa_cons (pe_mkK0 c_mkS hr (by decide) (by rfl) (pk_cons pe_int pk_nil)) pa_nil)))))
      (pss_cons (ps_if (pt_cmpR (op_neO q_eqwy hr (by decide)) (pe_cL c_both hr (by decide) (by rfl) (pa_cons (pv 4) (pa_cons (pv 4) pa_nil))) (pe_mk c_way3 hr (by decide) (by rfl) (pa_cons pe_int (pa_cons (pe_mk c_modinit hr (by decide) (by rfl) (pa_cons (pe_lst (pa_cons (pe_tup (pa_cons pe_int (pa_cons pe_int pa_nil))) pa_nil)) pa_nil)) (pa_cons (pe_mkK0 c_mkS hr (by decide) (by rfl) (pk_cons pe_int pk_nil)) pa_nil)))) (nomark _)) (pss_one (ps_ret pe_bl)) pss_nil)
      (pss_one (ps_ret (pe_and (pe_cmpR (op_eqO q_eqwy hr (by decide)) (pe_cL c_both hr (by decide) (by rfl) (pa_cons (pv 4) (pa_cons (pv 5) pa_nil))) (pv 6) (nomark _)) (pe_one (pe_cmpR (op_eqO q_eqwy hr (by decide)) (pe_cLK c_bothK hr (by decide) (by rfl) (pk_cons (pv 4) (pk_cons (pv 5) pk_nil))) (pv 6) (nomark _)))))))))), ?_⟩
    walk_at "go"
    refine for_range (lo := 0) (fun i σ H' => ∃ (u1 u2 u3 : Option V), σ = [some (.ref a), u1, u2, u3, none, none, none] ∧ Same H H') ⟨none, none, none, rfl, Same.refl _⟩ ?_ ?_
    · rintro i σ H1 hi ⟨u1, u2, u3, rfl, s1⟩
      have hi8 : i ≤ 8 := by split at hi <;> omega
      walk_at "go"
      refine ⟨a, ns, _, rfl, s1.seq hS, by omega, by omega, fun p H2 np s2 pu => ?_⟩
      walk_at "go"
      refine for_range (lo := 0) (n := 3) (fun j σ H' => ∃ (u3 : Option V), σ = [some (.ref a), some (.int (0 + (i : Int))), some (.ref p), u3, none, none, none] ∧ Same H1 H' ∧ Purse H' p (1000 * (0 + (i : Int)) + 10000 * j)) ⟨_, rfl, s2, pu.le (by omega)⟩ ?_ ?_
      · rintro j σ H3 hj ⟨u3, rfl, s3, p3⟩
        walk_at "go"
        refine ⟨p, _, rfl, by omega, p3, fun H4 k4 p4 => ?_⟩
        walk_at "go"
        refine iteF ?_
        walk_at "go"
        refine ⟨_, rfl, fun b o hb => k4 b o (fun e => by rw [e, np] at hb; cases hb) (s3 _ _ hb), p4.le (by omega)⟩
      · rintro σ H3 ⟨u3, rfl, s3, p3⟩
        walk_at "go"
        exact ⟨_, _, _, rfl, s1.trans s3⟩
    · rintro σ H1 ⟨u1, u2, u3, rfl, s1⟩
      walk_at "go"
      refine al fun t1 H2 _ s2 ht1 => ?_
      walk_at "go"
      refine al fun l1 H3 _ s3 hl1 => ?_
      walk_at "go"
      refine use_modS (ps := [(2, 2)]) ⟨[t1], by walk_at "hp", .cons (hpL ht1 (by walk_at "same")) .nil⟩ ⟨by decide, by decide, by decide, trivial⟩ (small1 (by decide)) fun m1 H4 s4 hm1 => ?_
      walk_at "go"
      refine ⟨rfl, rfl, use_mk fun k1 H5 _ s5 hk1 => ?_⟩
      walk_at "go"
      refine use_way (y := ⟨false, 0, true⟩) (ps := [(2, 2)]) (by walk_at "hp") (.inr ⟨k1, rfl, hk1⟩) fun w1 H6 _ s6 hw1 => ?_
      walk_at "go"
      refine al fun t2 H7 _ s7 ht2 => ?_
      walk_at "go"
      refine al fun t3 H8 _ s8 ht3 => ?_
      walk_at "go"
      refine al fun l2 H9 _ s9 hl2 => ?_
      walk_at "go"
      refine use_modS (ps := [(2, 1), (3, 1)]) ⟨[t2, t3], by walk_at "hp", .cons (hpL ht2 (by walk_at "same")) (.cons (hpL ht3 (by walk_at "same")) .nil)⟩ ⟨by decide, by decide, by decide, by decide, by decide, by decide, trivial⟩ (by unfold Small; decide +kernel) fun m2 H10 s10 hm2 => ?_
      walk_at "go"
      refine use_wayN hm2 fun w2 H11 s11 hw2 => ?_
      walk_at "go"
      have hw1 := hw1.same (show Same H6 H11 by walk_at "same")
      have S11 : Same H1 H11 := by walk_at "same"
      clear s2 s3 s4 s5 s6 s7 s8 s9 s10 s11 ht1 hl1 hm1 hk1 ht2 ht3 hl2 hm2
      refine al fun t4 H12 _ s12 ht4 => ?_
      walk_at "go"
      refine al fun t5 H13 _ s13 ht5 => ?_
      walk_at "go"
      refine al fun l3 H14 _ s14 hl3 => ?_
      walk_at "go"
      refine use_modS (ps := [(2, 2), (3, 1)]) ⟨[t4, t5], by walk_at "hp", .cons (hpL ht4 (by walk_at "same")) (.cons (hpL ht5 (by walk_at "same")) .nil)⟩ ⟨by decide, by decide, by decide, by decide, by decide, by decide, trivial⟩ (by unfold Small; decide +kernel) fun m3 H15 s15 hm3 => ?_
      walk_at "go"
      refine ⟨rfl, rfl, use_mk fun k2 H16 _ s16 hk2 => ?_⟩
      walk_at "go"
      refine use_way (y := ⟨false, 6, false⟩) (ps := [(2, 2), (3, 1)]) (by walk_at "hp") (.inr ⟨k2, rfl, hk2⟩) fun w3 H17 _ s17 hw3 => ?_
      walk_at "go"
      have hw1 := hw1.same (show Same H11 H17 by clear S11; walk_at "same")
      have hw2 := hw2.same (show Same H11 H17 by clear S11; walk_at "same")
      clear s12 s13 s14 s15 s16 s17 S11 ht4 ht5 hl3 hm3 hk2
      have c1 : OkLed (3 % num [(2, 2)]) (num [(2, 2)]) (3 % num [(2, 2)]) (num [(2, 2)]) (some 3) := by
        show _ ∧ _ ∧ _ ∧ _ ∧ _
        decide +kernel
      have c2 : OkLed (plainS ⟨false, 0, true⟩ (3 % num [(2, 2)]) (num [(2, 2)])) (num [(2, 2)]) (plainS ⟨false, 0, true⟩ (3 % num [(2, 2)]) (num [(2, 2)])) (num [(2, 2)]) (some 2) := by
        show _ ∧ _ ∧ _ ∧ _ ∧ _
        decide +kernel
      have c3 : OkLed (3 % num [(2, 2)]) (num [(2, 2)]) (5 % num [(2, 1), (3, 1)]) (num [(2, 1), (3, 1)]) (some 11) := by
        show _ ∧ _ ∧ _ ∧ _ ∧ _
        decide +kernel
      have c4 : OkLed (plainS ⟨false, 0, true⟩ (3 % num [(2, 2)]) (num [(2, 2)])) (num [(2, 2)]) (plainS ⟨false, 0, false⟩ (5 % num [(2, 1), (3, 1)]) (num [(2, 1), (3, 1)])) (num [(2, 1), (3, 1)]) (some 6) := by
        show _ ∧ _ ∧ _ ∧ _ ∧ _
        decide +kernel
      have c5 : OkLed (5 % num [(2, 1), (3, 1)]) (num [(2, 1), (3, 1)]) (3 % num [(2, 2)]) (num [(2, 2)]) (some 11) := by
        show _ ∧ _ ∧ _ ∧ _ ∧ _
        decide +kernel
      have c6 : OkLed (plainS ⟨false, 0, false⟩ (5 % num [(2, 1), (3, 1)]) (num [(2, 1), (3, 1)])) (num [(2, 1), (3, 1)]) (plainS ⟨false, 0, true⟩ (3 % num [(2, 2)]) (num [(2, 2)])) (num [(2, 2)]) (some 6) := by
        show _ ∧ _ ∧ _ ∧ _ ∧ _
        decide +kernel
      have n4 : 0 < num [(2, 2)] := by decide
      have n6 : 0 < num [(2, 1), (3, 1)] := by decide
      have b4 : (num [(2, 2)]).natAbs < 2 ^ 200 ∧ [((2 : Int), (2 : Int))].length ≤ 3 := by decide +kernel
      have b6 : (num [(2, 1), (3, 1)]).natAbs < 2 ^ 200 ∧ [((2 : Int), (1 : Int)), (3, 1)].length ≤ 3 := by decide +kernel
      refine ⟨.ref w1, .ref w1, rfl, .inr (.inr ⟨w1, w1, _, _, _, _, _, _, rfl, rfl, ⟨hw1, b4⟩, ⟨hw1, b4⟩, fun z => absurd rfl z, fun _ o o2 ho ho2 => ?_⟩)⟩
      refine ⟨fun hno => absurd hno (fun h => h.elim (ho.yes c1) (ho2.yes c2)), fun z s e1 e2 wx H18 zs s18 J hwx => ?_⟩
      subst e1 e2
      have ez := ho.uni n4 n4 c1
      have es := ho2.uni n4 n4 c2
      have en : num zs = num [(2, 2)] := J.nu.trans (ledM_self n4)
      clear ho ho2 J
      walk_at "go"
      refine al fun t6 H19 _ s19 ht6 => ?_
      walk_at "go"
      refine al fun l4 H20 _ s20 hl4 => ?_
      walk_at "go"
      refine use_modS (ps := [(2, 2)]) ⟨[t6], by walk_at "hp", .cons (hpL ht6 (by walk_at "same")) .nil⟩ ⟨by decide, by decide, by decide, trivial⟩ (small1 (by decide)) fun m4 H21 s21 hm4 => ?_
      walk_at "go"
      refine ⟨rfl, rfl, use_mk fun k4 H22 _ s22 hk4 => ?_⟩
      walk_at "go"
      refine use_way (y := ⟨false, 2, false⟩) (ps := [(2, 2)]) (by walk_at "hp") (.inr ⟨k4, rfl, hk4⟩) fun w4 H23 _ s23 hw4 => ?_
      walk_at "go"
      have hwx := hwx.same (show Same H18 H23 from s19.trans (s20.trans (s21.trans (s22.trans s23))))
      refine neWy X hwx hw4 fun H24 s24 => ?_
      rw [eqWay_self (ez.trans (show (3 : Int) = 3 % num [(2, 2)] by decide)) en (by rw [es])]
      walk_at "go"
      refine iteF ?_
      have S24 : Same H17 H24 := s18.trans (s19.trans (s20.trans (s21.trans (s22.trans (s23.trans s24)))))
      have hw1 := hw1.same S24
      have hw2 := hw2.same S24
      have hw3 := hw3.same S24
      clear s18 s19 s20 s21 s22 s23 s24 S24 ht6 hl4 hm4 hk4 hwx hw4 ez es en
      walk_at "go"
      refine ⟨.ref w1, .ref w2, rfl, .inr (.inr ⟨w1, w2, _, _, _, _, _, _, rfl, rfl, ⟨hw1, b4⟩, ⟨hw2, b6⟩, fun z => absurd rfl z, fun _ o o2 ho ho2 => ?_⟩)⟩
      refine ⟨fun hno => absurd hno (fun h => h.elim (ho.yes c3) (ho2.yes c4)), fun z s e1 e2 wx H25 zs s25 J hwx => ?_⟩
      subst e1 e2
      have ez := ho.uni n4 n6 c3
      have es := ho2.uni n4 n6 c4
      have en : num zs = num [(2, 2), (3, 1)] := J.nu.trans (by decide +kernel)
      clear ho ho2 J
      walk_at "go"
      refine eqWy X hwx (hw3.same s25) fun H26 s26 => ?_
      rw [eqWay_self (ez.trans (show (11 : Int) = 11 % num [(2, 2), (3, 1)] by decide)) en (by rw [es])]
      have S26 := s25.trans s26
      have hw1 := hw1.same S26
      have hw2 := hw2.same S26
      have hw3 := hw3.same S26
      clear s25 s26 S26 hwx ez es en
      walk_at "go"
      refine iteT ?_
      walk_at "go"
      refine ⟨rfl, rfl, .ref w2, .ref w1, rfl, .inr (.inr ⟨w2, w1, _, _, _, _, _, _, rfl, rfl, ⟨hw2, b6⟩, ⟨hw1, b4⟩, fun z => absurd rfl z, fun _ o o2 ho ho2 => ?_⟩)⟩
      refine ⟨fun hno => absurd hno (fun h => h.elim (ho.yes c5) (ho2.yes c6)), fun z s e1 e2 wx H27 zs s27 J hwx => ?_⟩
      subst e1 e2
      have ez := ho.uni n6 n4 c5
      have es := ho2.uni n6 n4 c6
      have en : num zs = num [(2, 2), (3, 1)] := J.nu.trans (by decide +kernel)
      walk_at "go"
      refine eqWy X hwx (hw3.same s27) fun H28 s28 => ?_
      rw [eqWay_self (ez.trans (show (11 : Int) = 11 % num [(2, 2), (3, 1)] by decide)) en (by rw [es])]
      walk_at "go"
      exact k _

end
end Lw
namespace Lw
open PySem PySem.Spec PyProof.Rows L2 Bc
theorem vals_take1 {zs : List V} {ws : List Value} : ∀ n : Nat, Vals zs ws → Vals (zs.take n) (ws.take n) := fun n h => by
  induction h generalizing n with
  | nil => simp only [List.take_nil]; exact .nil
  | cons r _ ih => cases n with
    | zero => exact .nil
    | succ n => exact .cons r (ih n)
theorem vals_drop1 {zs : List V} {ws : List Value} : ∀ n : Nat, Vals zs ws → Vals (zs.drop n) (ws.drop n) := fun n h => by
  induction h generalizing n with
  | nil => simp only [List.drop_nil]; exact .nil
  | cons r t ih => cases n with
    | zero => exact .cons r t
    | succ n => exact ih n
theorem vals_mid {vs mz zs : List V} {us mv ws : List Value} (r1 : Vals vs us) (r2 : Vals mz mv) (r3 : Vals zs ws) : Vals (vs ++ mz.take 1 ++ zs ++ mz.drop 1) (us ++ mv.take 1 ++ ws ++ mv.drop 1) :=
  ((r1.append (vals_take1 1 r2)).append r3).append (vals_drop1 1 r2)
theorem all_mk {l : PySem.W.OpenLaw} {w : World} {K : PySem.W.Frag} {h : Heap} {mg : Str → Option Value} {fa Cm Ck Cw f1 f2 f3 f4 f5 f6 f7 f8 f9 f10 f11 f12 f13 f14 f15 f16 f17 f18 f19 f20 f21 f22 f23 f24 f25 f26 f27 f28 f29 f30 f31 f32 f33 f34 f35 D35 f36 f37 T37 f38 f39 f40 Ci f41 Cu f42 f43 f44 f45 f46 : Addr} (X : K.In h) (G : h.Ns mainGlobals mg) (hfa : mg "law" = some (.ref fa))
    {od1 an1 : Option Addr} {sl1 : Array (Option Value)} {oc1 dc1 pm1 cd1 ct1 : Value}
    {kV1 : Value}
    {od2 an2 : Option Addr} {sl2 : Array (Option Value)} {oc2 dc2 pm2 cd2 ct2 : Value}
    {kV2 : Value}
    {od3 an3 : Option Addr} {sl3 : Array (Option Value)} {oc3 dc3 pm3 cd3 ct3 : Value}
    {kV3 : Value}
    {od4 an4 : Option Addr} {sl4 : Array (Option Value)} {oc4 dc4 pm4 cd4 ct4 : Value}
    {kV4 : Value}
    {od5 an5 : Option Addr} {sl5 : Array (Option Value)} {oc5 dc5 pm5 cd5 ct5 : Value}
    {kV5 : Value}
    {od6 an6 : Option Addr} {sl6 : Array (Option Value)} {oc6 dc6 pm6 cd6 ct6 : Value}
    {kV6 : Value}
    {od7 an7 : Option Addr} {sl7 : Array (Option Value)} {oc7 dc7 pm7 cd7 ct7 : Value}
    {kV7 : Value}
    {od8 an8 : Option Addr} {sl8 : Array (Option Value)} {oc8 dc8 pm8 cd8 ct8 : Value}
    {kV8 : Value}
    {od9 an9 : Option Addr} {sl9 : Array (Option Value)} {oc9 dc9 pm9 cd9 ct9 : Value}
    {kV9 : Value}
    {od10 an10 : Option Addr} {sl10 : Array (Option Value)} {oc10 dc10 pm10 cd10 ct10 : Value}
    {kV10 : Value}
    {od11 an11 : Option Addr} {sl11 : Array (Option Value)} {oc11 dc11 pm11 cd11 ct11 : Value}
    {kV11 : Value}
    {od12 an12 : Option Addr} {sl12 : Array (Option Value)} {oc12 dc12 pm12 cd12 ct12 : Value}
    {kV12 : Value}
    {od13 an13 : Option Addr} {sl13 : Array (Option Value)} {oc13 dc13 pm13 cd13 ct13 : Value}
    {kV13 : Value}
    {od14 an14 : Option Addr} {sl14 : Array (Option Value)} {oc14 dc14 pm14 cd14 ct14 : Value}
    {kV14 : Value}
    {od15 an15 : Option Addr} {sl15 : Array (Option Value)} {oc15 dc15 pm15 cd15 ct15 : Value}
    {kV15 : Value}
    {od16 an16 : Option Addr} {sl16 : Array (Option Value)} {oc16 dc16 pm16 cd16 ct16 : Value}
    {kV16 : Value}
    {od17 an17 : Option Addr} {sl17 : Array (Option Value)} {oc17 dc17 pm17 cd17 ct17 : Value}
    {kV17 : Value}
    {od18 an18 : Option Addr} {sl18 : Array (Option Value)} {oc18 dc18 pm18 cd18 ct18 : Value}
    {kV18 : Value}
    {od19 an19 : Option Addr} {sl19 : Array (Option Value)} {oc19 dc19 pm19 cd19 ct19 : Value}
    {kV19 : Value}
    {od20 an20 : Option Addr} {sl20 : Array (Option Value)} {oc20 dc20 pm20 cd20 ct20 : Value}
    {kV20 : Value}
    {od21 an21 : Option Addr} {sl21 : Array (Option Value)} {oc21 dc21 pm21 cd21 ct21 : Value}
    {kV21 : Value}
    {od22 an22 : Option Addr} {sl22 : Array (Option Value)} {oc22 dc22 pm22 cd22 ct22 : Value}
    {kV22 : Value}
    {od23 an23 : Option Addr} {sl23 : Array (Option Value)} {oc23 dc23 pm23 cd23 ct23 : Value}
    {kV23 : Value}
    {od24 an24 : Option Addr} {sl24 : Array (Option Value)} {oc24 dc24 pm24 cd24 ct24 : Value}
    {kV24 : Value}
    {od25 an25 : Option Addr} {sl25 : Array (Option Value)} {oc25 dc25 pm25 cd25 ct25 : Value}
    {kV25 : Value}
    {od26 an26 : Option Addr} {sl26 : Array (Option Value)} {oc26 dc26 pm26 cd26 ct26 : Value}
    {kV26 : Value}
    {od27 an27 : Option Addr} {sl27 : Array (Option Value)} {oc27 dc27 pm27 cd27 ct27 : Value}
    {kV27 : Value}
    {od28 an28 : Option Addr} {sl28 : Array (Option Value)} {oc28 dc28 pm28 cd28 ct28 : Value}
    {kV28 : Value}
    {od29 an29 : Option Addr} {sl29 : Array (Option Value)} {oc29 dc29 pm29 cd29 ct29 : Value}
    {kV29 : Value}
    {od30 an30 : Option Addr} {sl30 : Array (Option Value)} {oc30 dc30 pm30 cd30 ct30 : Value}
    {kV30 : Value}
    {od31 an31 : Option Addr} {sl31 : Array (Option Value)} {oc31 dc31 pm31 cd31 ct31 : Value}
    {kV31 : Value}
    {od32 an32 : Option Addr} {sl32 : Array (Option Value)} {oc32 dc32 pm32 cd32 ct32 : Value}
    {kV32 : Value}
    {od33 an33 : Option Addr} {sl33 : Array (Option Value)} {oc33 dc33 pm33 cd33 ct33 : Value}
    {kV33 : Value}
    {od34 an34 : Option Addr} {sl34 : Array (Option Value)} {oc34 dc34 pm34 cd34 ct34 : Value}
    {kV34 : Value}
    {od35 an35 : Option Addr} {sl35 : Array (Option Value)} {oc35 dc35 pm35 cd35 ct35 : Value}
    {tk35_1 : Tok}
    {od36 an36 : Option Addr} {sl36 : Array (Option Value)} {oc36 dc36 pm36 cd36 ct36 : Value}
    {kV36 : Value}
    {od37 an37 : Option Addr} {sl37 : Array (Option Value)} {oc37 dc37 pm37 cd37 ct37 : Value}
    {kV37 : Value}
    {To37 : Value} {Td37 : Option Addr} {Tn37 : Nat} {Ts37 : Array (Option Value)}
    {od38 an38 : Option Addr} {sl38 : Array (Option Value)} {oc38 dc38 pm38 cd38 ct38 : Value}
    {kV38 : Value}
    {od39 an39 : Option Addr} {sl39 : Array (Option Value)} {oc39 dc39 pm39 cd39 ct39 : Value}
    {kV39 : Value}
    {od40 an40 : Option Addr} {sl40 : Array (Option Value)} {oc40 dc40 pm40 cd40 ct40 : Value}
    {kV40 : Value}
    {nmCi qCi : Str} {NCi BCCi : Addr} {bsCi : List Value} {snCi : List Str} {subCi : List Value} {abCi : Bool} {colCi : Option Bool} {ddCi : Option Addr} {e0Ci e1Ci e2Ci e3Ci e5Ci : Option Value}
    {od41 an41 : Option Addr} {sl41 : Array (Option Value)} {oc41 dc41 pm41 cd41 ct41 : Value}
    {kV41 : Value}
    {od42 an42 : Option Addr} {sl42 : Array (Option Value)} {oc42 dc42 pm42 cd42 ct42 : Value}
    {kV42 : Value}
    {od43 an43 : Option Addr} {sl43 : Array (Option Value)} {oc43 dc43 pm43 cd43 ct43 : Value}
    {kV43 : Value}
    {od44 an44 : Option Addr} {sl44 : Array (Option Value)} {oc44 dc44 pm44 cd44 ct44 : Value}
    {kV44 : Value}
    {od45 an45 : Option Addr} {sl45 : Array (Option Value)} {oc45 dc45 pm45 cd45 ct45 : Value}
    {kV45 : Value}
    {od46 an46 : Option Addr} {sl46 : Array (Option Value)} {oc46 dc46 pm46 cd46 ct46 : Value}
    {kV46 : Value}
    (z_len : PySem.W.nsIn K mainGlobals "len" = some none)
    (z_int : PySem.W.nsIn K mainGlobals "int" = some none)
    (z_abs : PySem.W.nsIn K mainGlobals "abs" = some none)
    (z_max : PySem.W.nsIn K mainGlobals "max" = some none)
    (z_min : PySem.W.nsIn K mainGlobals "min" = some none)
    (z_range : PySem.W.nsIn K mainGlobals "range" = some none)
    (z_isinstance : PySem.W.nsIn K mainGlobals "isinstance" = some none)
    (z_list : PySem.W.nsIn K mainGlobals "list" = some none)
    (z_tuple : PySem.W.nsIn K mainGlobals "tuple" = some none)
    (z_str : PySem.W.nsIn K mainGlobals "str" = some none)
    (z_bool : PySem.W.nsIn K mainGlobals "bool" = some none)
    (z_ord : PySem.W.nsIn K mainGlobals "ord" = some none)
    (z_all : PySem.W.nsIn K mainGlobals "all" = some none)
    (z_enumerate : PySem.W.nsIn K mainGlobals "enumerate" = some none)
    (z_zip : PySem.W.nsIn K mainGlobals "zip" = some none)
    (mCm : PySem.W.nsIn K mainGlobals "Modulus" = some (some (.ref Cm)))
    (pgCm : PySem.W.plainGet K Cm Str.empty = true)
    (hdCm : PySem.W.hasDictIn K Cm = true)
    (poCm : PySem.W.plainOver K Cm = true)
    (saCm : PySem.W.findIn K (.ref Cm) "__setattr__" = some (some (.builtin "object.__setattr__")))
    (haCm : PySem.W.findIn K (.ref Cm) "__class__" = some (some (.builtin "object.__class__")))
    (hmCm : PySem.W.mroIn K Cm (.type "object") = some true)
    (mkCm : PySem.W.makesIn K Cm = true)
    (kcCm : PySem.W.keepIn K (.ref Cm) = true)
    (objhn : PySem.W.specialIn K (.builtin "object.__class__") "__get__" = some (some (.builtin "getset_descriptor.__get__")))
    (objht : PySem.W.takesIn K (.builtin "object.__class__") = some true)
    (mCk : PySem.W.nsIn K mainGlobals "Marking" = some (some (.ref Ck)))
    (pgCk : PySem.W.plainGet K Ck Str.empty = true)
    (hdCk : PySem.W.hasDictIn K Ck = true)
    (poCk : PySem.W.plainOver K Ck = true)
    (saCk : PySem.W.findIn K (.ref Ck) "__setattr__" = some (some (.builtin "object.__setattr__")))
    (haCk : PySem.W.findIn K (.ref Ck) "__class__" = some (some (.builtin "object.__class__")))
    (hmCk : PySem.W.mroIn K Ck (.type "object") = some true)
    (mkCk : PySem.W.makesIn K Ck = true)
    (kcCk : PySem.W.keepIn K (.ref Ck) = true)
    (mCw : PySem.W.nsIn K mainGlobals "Way" = some (some (.ref Cw)))
    (pgCw : PySem.W.plainGet K Cw Str.empty = true)
    (hdCw : PySem.W.hasDictIn K Cw = true)
    (poCw : PySem.W.plainOver K Cw = true)
    (saCw : PySem.W.findIn K (.ref Cw) "__setattr__" = some (some (.builtin "object.__setattr__")))
    (haCw : PySem.W.findIn K (.ref Cw) "__class__" = some (some (.builtin "object.__class__")))
    (hmCw : PySem.W.mroIn K Cw (.type "object") = some true)
    (mkCw : PySem.W.makesIn K Cw = true)
    (kcCw : PySem.W.keepIn K (.ref Cw) = true)
    (nCm_number : PySem.W.findIn K (.ref Cm) "number" = some none)
    (nCm_factors : PySem.W.findIn K (.ref Cm) "factors" = some none)
    (nCk_low : PySem.W.findIn K (.ref Ck) "low" = some none)
    (nCk_shift : PySem.W.findIn K (.ref Ck) "shift" = some none)
    (nCk_lead : PySem.W.findIn K (.ref Ck) "lead" = some none)
    (nCw_marking : PySem.W.findIn K (.ref Cw) "marking" = some none)
    (nCw_modulus : PySem.W.findIn K (.ref Cw) "modulus" = some none)
    (nCw_number : PySem.W.findIn K (.ref Cw) "number" = some none)
    (nCw_base : PySem.W.findIn K (.ref Cw) "base" = some none)
    (a1 : PySem.W.nsIn K mainGlobals "is_integer" = some (some (.ref f1)))
    (l1 : K.lookup f1 = some ⟨oc1, od1, .func (PySem.W.fnOf "is_integer" "is_integer" (defArgs s_isint) (defBody s_isint) (defScope s_isint) .none kV1 dc1 pm1 an1 cd1 ct1), sl1⟩)
    (c1 : PySem.W.codeIn K cd1 "is_integer" = true)
    (k1 : PySem.W.keepIn K (.ref f1) = true)
    (a2 : PySem.W.nsIn K mainGlobals "raised" = some (some (.ref f2)))
    (l2 : K.lookup f2 = some ⟨oc2, od2, .func (PySem.W.fnOf "raised" "raised" (defArgs s_raised) (defBody s_raised) (defScope s_raised) .none kV2 dc2 pm2 an2 cd2 ct2), sl2⟩)
    (c2 : PySem.W.codeIn K cd2 "raised" = true)
    (k2 : PySem.W.keepIn K (.ref f2) = true)
    (a3 : PySem.W.nsIn K mainGlobals "common_divisor" = some (some (.ref f3)))
    (l3 : K.lookup f3 = some ⟨oc3, od3, .func (PySem.W.fnOf "common_divisor" "common_divisor" (defArgs s_gcd) (defBody s_gcd) (defScope s_gcd) .none kV3 dc3 pm3 an3 cd3 ct3), sl3⟩)
    (c3 : PySem.W.codeIn K cd3 "common_divisor" = true)
    (k3 : PySem.W.keepIn K (.ref f3) = true)
    (a4 : PySem.W.nsIn K mainGlobals "is_prime_number" = some (some (.ref f4)))
    (l4 : K.lookup f4 = some ⟨oc4, od4, .func (PySem.W.fnOf "is_prime_number" "is_prime_number" (defArgs s_prime) (defBody s_prime) (defScope s_prime) .none kV4 dc4 pm4 an4 cd4 ct4), sl4⟩)
    (c4 : PySem.W.codeIn K cd4 "is_prime_number" = true)
    (k4 : PySem.W.keepIn K (.ref f4) = true)
    (a5 : PySem.W.nsIn K mainGlobals "is_factor" = some (some (.ref f5)))
    (l5 : K.lookup f5 = some ⟨oc5, od5, .func (PySem.W.fnOf "is_factor" "is_factor" (defArgs s_isfac) (defBody s_isfac) (defScope s_isfac) .none kV5 dc5 pm5 an5 cd5 ct5), sl5⟩)
    (c5 : PySem.W.codeIn K cd5 "is_factor" = true)
    (k5 : PySem.W.keepIn K (.ref f5) = true)
    (a6 : PySem.W.nsIn K mainGlobals "require_modulus" = some (some (.ref f6)))
    (l6 : K.lookup f6 = some ⟨oc6, od6, .func (PySem.W.fnOf "require_modulus" "require_modulus" (defArgs s_reqmod) (defBody s_reqmod) (defScope s_reqmod) .none kV6 dc6 pm6 an6 cd6 ct6), sl6⟩)
    (c6 : PySem.W.codeIn K cd6 "require_modulus" = true)
    (k6 : PySem.W.keepIn K (.ref f6) = true)
    (a7 : PySem.W.nsIn K mainGlobals "is_text" = some (some (.ref f7)))
    (l7 : K.lookup f7 = some ⟨oc7, od7, .func (PySem.W.fnOf "is_text" "is_text" (defArgs s_istext) (defBody s_istext) (defScope s_istext) .none kV7 dc7 pm7 an7 cd7 ct7), sl7⟩)
    (c7 : PySem.W.codeIn K cd7 "is_text" = true)
    (k7 : PySem.W.keepIn K (.ref f7) = true)
    (a8 : PySem.W.nsIn K mainGlobals "read" = some (some (.ref f8)))
    (l8 : K.lookup f8 = some ⟨oc8, od8, .func (PySem.W.fnOf "read" "read" (defArgs s_read) (defBody s_read) (defScope s_read) .none kV8 dc8 pm8 an8 cd8 ct8), sl8⟩)
    (c8 : PySem.W.codeIn K cd8 "read" = true)
    (k8 : PySem.W.keepIn K (.ref f8) = true)
    (a9 : PySem.W.nsIn K mainGlobals "require_text" = some (some (.ref f9)))
    (l9 : K.lookup f9 = some ⟨oc9, od9, .func (PySem.W.fnOf "require_text" "require_text" (defArgs s_reqtext) (defBody s_reqtext) (defScope s_reqtext) .none kV9 dc9 pm9 an9 cd9 ct9), sl9⟩)
    (c9 : PySem.W.codeIn K cd9 "require_text" = true)
    (k9 : PySem.W.keepIn K (.ref f9) = true)
    (a10 : PySem.W.nsIn K mainGlobals "marking_of" = some (some (.ref f10)))
    (l10 : K.lookup f10 = some ⟨oc10, od10, .func (PySem.W.fnOf "marking_of" "marking_of" (defArgs s_mkof) (defBody s_mkof) (defScope s_mkof) .none kV10 dc10 pm10 an10 cd10 ct10), sl10⟩)
    (c10 : PySem.W.codeIn K cd10 "marking_of" = true)
    (k10 : PySem.W.keepIn K (.ref f10) = true)
    (a11 : PySem.W.nsIn K mainGlobals "rest_at" = some (some (.ref f11)))
    (l11 : K.lookup f11 = some ⟨oc11, od11, .func (PySem.W.fnOf "rest_at" "rest_at" (defArgs s_restat) (defBody s_restat) (defScope s_restat) .none kV11 dc11 pm11 an11 cd11 ct11), sl11⟩)
    (c11 : PySem.W.codeIn K cd11 "rest_at" = true)
    (k11 : PySem.W.keepIn K (.ref f11) = true)
    (a12 : PySem.W.nsIn K mainGlobals "_law_mixed" = some (some (.ref f12)))
    (l12 : K.lookup f12 = some ⟨oc12, od12, .func (PySem.W.fnOf "_law_mixed" "_law_mixed" (defArgs s_mixed) (defBody s_mixed) (defScope s_mixed) .none kV12 dc12 pm12 an12 cd12 ct12), sl12⟩)
    (c12 : PySem.W.codeIn K cd12 "_law_mixed" = true)
    (k12 : PySem.W.keepIn K (.ref f12) = true)
    (a13 : PySem.W.nsIn K mainGlobals "_law_purse" = some (some (.ref f13)))
    (l13 : K.lookup f13 = some ⟨oc13, od13, .func (PySem.W.fnOf "_law_purse" "_law_purse" (defArgs s_purse) (defBody s_purse) (defScope s_purse) .none kV13 dc13 pm13 an13 cd13 ct13), sl13⟩)
    (c13 : PySem.W.codeIn K cd13 "_law_purse" = true)
    (k13 : PySem.W.keepIn K (.ref f13) = true)
    (a14 : PySem.W.nsIn K mainGlobals "_law_draw" = some (some (.ref f14)))
    (l14 : K.lookup f14 = some ⟨oc14, od14, .func (PySem.W.fnOf "_law_draw" "_law_draw" (defArgs s_draw) (defBody s_draw) (defScope s_draw) .none kV14 dc14 pm14 an14 cd14 ct14), sl14⟩)
    (c14 : PySem.W.codeIn K cd14 "_law_draw" = true)
    (k14 : PySem.W.keepIn K (.ref f14) = true)
    (a15 : PySem.W.nsIn K mainGlobals "_law_great" = some (some (.ref f15)))
    (l15 : K.lookup f15 = some ⟨oc15, od15, .func (PySem.W.fnOf "_law_great" "_law_great" (defArgs s_great) (defBody s_great) (defScope s_great) .none kV15 dc15 pm15 an15 cd15 ct15), sl15⟩)
    (c15 : PySem.W.codeIn K cd15 "_law_great" = true)
    (k15 : PySem.W.keepIn K (.ref f15) = true)
    (a16 : PySem.W.nsIn K mainGlobals "_law_style" = some (some (.ref f16)))
    (l16 : K.lookup f16 = some ⟨oc16, od16, .func (PySem.W.fnOf "_law_style" "_law_style" (defArgs s_style) (defBody s_style) (defScope s_style) .none kV16 dc16 pm16 an16 cd16 ct16), sl16⟩)
    (c16 : PySem.W.codeIn K cd16 "_law_style" = true)
    (k16 : PySem.W.keepIn K (.ref f16) = true)
    (a17 : PySem.W.nsIn K mainGlobals "_law_marking" = some (some (.ref f17)))
    (l17 : K.lookup f17 = some ⟨oc17, od17, .func (PySem.W.fnOf "_law_marking" "_law_marking" (defArgs s_marking) (defBody s_marking) (defScope s_marking) .none kV17 dc17 pm17 an17 cd17 ct17), sl17⟩)
    (c17 : PySem.W.codeIn K cd17 "_law_marking" = true)
    (k17 : PySem.W.keepIn K (.ref f17) = true)
    (a18 : PySem.W.nsIn K mainGlobals "_law_signs" = some (some (.ref f18)))
    (l18 : K.lookup f18 = some ⟨oc18, od18, .func (PySem.W.fnOf "_law_signs" "_law_signs" (defArgs s_signs) (defBody s_signs) (defScope s_signs) .none kV18 dc18 pm18 an18 cd18 ct18), sl18⟩)
    (c18 : PySem.W.codeIn K cd18 "_law_signs" = true)
    (k18 : PySem.W.keepIn K (.ref f18) = true)
    (a19 : PySem.W.nsIn K mainGlobals "_law_letter" = some (some (.ref f19)))
    (l19 : K.lookup f19 = some ⟨oc19, od19, .func (PySem.W.fnOf "_law_letter" "_law_letter" (defArgs s_letter) (defBody s_letter) (defScope s_letter) .none kV19 dc19 pm19 an19 cd19 ct19), sl19⟩)
    (c19 : PySem.W.codeIn K cd19 "_law_letter" = true)
    (k19 : PySem.W.keepIn K (.ref f19) = true)
    (a20 : PySem.W.nsIn K mainGlobals "_law_text" = some (some (.ref f20)))
    (l20 : K.lookup f20 = some ⟨oc20, od20, .func (PySem.W.fnOf "_law_text" "_law_text" (defArgs s_text) (defBody s_text) (defScope s_text) .none kV20 dc20 pm20 an20 cd20 ct20), sl20⟩)
    (c20 : PySem.W.codeIn K cd20 "_law_text" = true)
    (k20 : PySem.W.keepIn K (.ref f20) = true)
    (a21 : PySem.W.nsIn K mainGlobals "_law_letters" = some (some (.ref f21)))
    (l21 : K.lookup f21 = some ⟨oc21, od21, .func (PySem.W.fnOf "_law_letters" "_law_letters" (defArgs s_letters) (defBody s_letters) (defScope s_letters) .none kV21 dc21 pm21 an21 cd21 ct21), sl21⟩)
    (c21 : PySem.W.codeIn K cd21 "_law_letters" = true)
    (k21 : PySem.W.keepIn K (.ref f21) = true)
    (a22 : PySem.W.nsIn K mainGlobals "shift_of" = some (some (.ref f22)))
    (l22 : K.lookup f22 = some ⟨oc22, od22, .func (PySem.W.fnOf "shift_of" "shift_of" (defArgs s_shiftof) (defBody s_shiftof) (defScope s_shiftof) .none kV22 dc22 pm22 an22 cd22 ct22), sl22⟩)
    (c22 : PySem.W.codeIn K cd22 "shift_of" = true)
    (k22 : PySem.W.keepIn K (.ref f22) = true)
    (a23 : PySem.W.nsIn K mainGlobals "_law_some_pairs" = some (some (.ref f23)))
    (l23 : K.lookup f23 = some ⟨oc23, od23, .func (PySem.W.fnOf "_law_some_pairs" "_law_some_pairs" (defArgs s_some) (defBody s_some) (defScope s_some) .none kV23 dc23 pm23 an23 cd23 ct23), sl23⟩)
    (c23 : PySem.W.codeIn K cd23 "_law_some_pairs" = true)
    (k23 : PySem.W.keepIn K (.ref f23) = true)
    (a24 : PySem.W.nsIn K mainGlobals "_law_drawn_way" = some (some (.ref f24)))
    (l24 : K.lookup f24 = some ⟨oc24, od24, .func (PySem.W.fnOf "_law_drawn_way" "_law_drawn_way" (defArgs s_drawnw) (defBody s_drawnw) (defScope s_drawnw) .none kV24 dc24 pm24 an24 cd24 ct24), sl24⟩)
    (c24 : PySem.W.codeIn K cd24 "_law_drawn_way" = true)
    (k24 : PySem.W.keepIn K (.ref f24) = true)
    (a25 : PySem.W.nsIn K mainGlobals "_law_near" = some (some (.ref f25)))
    (l25 : K.lookup f25 = some ⟨oc25, od25, .func (PySem.W.fnOf "_law_near" "_law_near" (defArgs s_near) (defBody s_near) (defScope s_near) .none kV25 dc25 pm25 an25 cd25 ct25), sl25⟩)
    (c25 : PySem.W.codeIn K cd25 "_law_near" = true)
    (k25 : PySem.W.keepIn K (.ref f25) = true)
    (a26 : PySem.W.nsIn K mainGlobals "_law_caught" = some (some (.ref f26)))
    (l26 : K.lookup f26 = some ⟨oc26, od26, .func (PySem.W.fnOf "_law_caught" "_law_caught" (defArgs s_caught) (defBody s_caught) (defScope s_caught) .none kV26 dc26 pm26 an26 cd26 ct26), sl26⟩)
    (c26 : PySem.W.codeIn K cd26 "_law_caught" = true)
    (k26 : PySem.W.keepIn K (.ref f26) = true)
    (a27 : PySem.W.nsIn K mainGlobals "_law_texts_right" = some (some (.ref f27)))
    (l27 : K.lookup f27 = some ⟨oc27, od27, .func (PySem.W.fnOf "_law_texts_right" "_law_texts_right" (defArgs s_textsr) (defBody s_textsr) (defScope s_textsr) .none kV27 dc27 pm27 an27 cd27 ct27), sl27⟩)
    (c27 : PySem.W.codeIn K cd27 "_law_texts_right" = true)
    (k27 : PySem.W.keepIn K (.ref f27) = true)
    (a28 : PySem.W.nsIn K mainGlobals "_law_right" = some (some (.ref f28)))
    (l28 : K.lookup f28 = some ⟨oc28, od28, .func (PySem.W.fnOf "_law_right" "_law_right" (defArgs s_right) (defBody s_right) (defScope s_right) .none kV28 dc28 pm28 an28 cd28 ct28), sl28⟩)
    (c28 : PySem.W.codeIn K cd28 "_law_right" = true)
    (k28 : PySem.W.keepIn K (.ref f28) = true)
    (a29 : PySem.W.nsIn K mainGlobals "require_one_way" = some (some (.ref f29)))
    (l29 : K.lookup f29 = some ⟨oc29, od29, .func (PySem.W.fnOf "require_one_way" "require_one_way" (defArgs s_reqonex) (defBody s_reqonex) (defScope s_reqonex) .none kV29 dc29 pm29 an29 cd29 ct29), sl29⟩)
    (c29 : PySem.W.codeIn K cd29 "require_one_way" = true)
    (k29 : PySem.W.keepIn K (.ref f29) = true)
    (a30 : PySem.W.nsIn K mainGlobals "require_like" = some (some (.ref f30)))
    (l30 : K.lookup f30 = some ⟨oc30, od30, .func (PySem.W.fnOf "require_like" "require_like" (defArgs s_reqlikex) (defBody s_reqlikex) (defScope s_reqlikex) .none kV30 dc30 pm30 an30 cd30 ct30), sl30⟩)
    (c30 : PySem.W.codeIn K cd30 "require_like" = true)
    (k30 : PySem.W.keepIn K (.ref f30) = true)
    (a31 : PySem.W.nsIn K mainGlobals "led_together" = some (some (.ref f31)))
    (l31 : K.lookup f31 = some ⟨oc31, od31, .func (PySem.W.fnOf "led_together" "led_together" (defArgs s_led) (defBody s_led) (defScope s_led) .none kV31 dc31 pm31 an31 cd31 ct31), sl31⟩)
    (c31 : PySem.W.codeIn K cd31 "led_together" = true)
    (k31 : PySem.W.keepIn K (.ref f31) = true)
    (a32 : PySem.W.nsIn K mainGlobals "inverse" = some (some (.ref f32)))
    (l32 : K.lookup f32 = some ⟨oc32, od32, .func (PySem.W.fnOf "inverse" "inverse" (defArgs s_inverse) (defBody s_inverse) (defScope s_inverse) .none kV32 dc32 pm32 an32 cd32 ct32), sl32⟩)
    (c32 : PySem.W.codeIn K cd32 "inverse" = true)
    (k32 : PySem.W.keepIn K (.ref f32) = true)
    (a33 : PySem.W.nsIn K mainGlobals "_law_common" = some (some (.ref f33)))
    (l33 : K.lookup f33 = some ⟨oc33, od33, .func (PySem.W.fnOf "_law_common" "_law_common" (defArgs s_common) (defBody s_common) (defScope s_common) .none kV33 dc33 pm33 an33 cd33 ct33), sl33⟩)
    (c33 : PySem.W.codeIn K cd33 "_law_common" = true)
    (k33 : PySem.W.keepIn K (.ref f33) = true)
    (a34 : PySem.W.findIn K (.ref Cm) "__init__" = some (some (.ref f34)))
    (i34 : PySem.W.isFn K (.ref f34) = true)
    (l34 : K.lookup f34 = some ⟨oc34, od34, .func (PySem.W.fnOf "__init__" "Modulus.__init__" (defArgs s_modinit) (defBody s_modinit) (defScope s_modinit) .none kV34 dc34 pm34 an34 cd34 ct34), sl34⟩)
    (c34 : PySem.W.codeIn K cd34 "Modulus.__init__" = true)
    (k34 : PySem.W.keepIn K (.ref f34) = true)
    (a35 : PySem.W.findIn K (.ref Ck) "__init__" = some (some (.ref f35)))
    (i35 : PySem.W.isFn K (.ref f35) = true)
    (l35 : K.lookup f35 = some ⟨oc35, od35, .func (PySem.W.fnOf "__init__" "Marking.__init__" (defArgs s_mkinit) (defBody s_mkinit) (defScope s_mkinit) .none (.ref D35) dc35 pm35 an35 cd35 ct35), sl35⟩)
    (c35 : PySem.W.codeIn K cd35 "Marking.__init__" = true)
    (k35 : PySem.W.keepIn K (.ref f35) = true)
    (d35_0 : PySem.W.nsIn K D35 "low" = some (some (.bool false)))
    (d35_1 : PySem.W.nsIn K D35 "shift" = some (some (.int 0 tk35_1)))
    (d35_2 : PySem.W.nsIn K D35 "lead" = some (some (.bool false)))
    (a36 : PySem.W.findIn K (.ref Ck) "highest_first" = some (some (.ref f36)))
    (i36 : PySem.W.isFn K (.ref f36) = true)
    (l36 : K.lookup f36 = some ⟨oc36, od36, .func (PySem.W.fnOf "highest_first" "Marking.highest_first" (defArgs s_hf) (defBody s_hf) (defScope s_hf) .none kV36 dc36 pm36 an36 cd36 ct36), sl36⟩)
    (c36 : PySem.W.codeIn K cd36 "Marking.highest_first" = true)
    (k36 : PySem.W.keepIn K (.ref f36) = true)
    (a37 : PySem.W.findIn K (.ref Cw) "__init__" = some (some (.ref f37)))
    (i37 : PySem.W.isFn K (.ref f37) = true)
    (l37 : K.lookup f37 = some ⟨oc37, od37, .func (PySem.W.fnOf "__init__" "Way.__init__" (defArgs s_wayinit) (defBody s_wayinit) (defScope s_wayinit) (.ref T37) kV37 dc37 pm37 an37 cd37 ct37), sl37⟩)
    (c37 : PySem.W.codeIn K cd37 "Way.__init__" = true)
    (k37 : PySem.W.keepIn K (.ref f37) = true)
    (t37 : K.lookup T37 = some ⟨To37, Td37, .seq [.none].toArray Tn37, Ts37⟩)
    (a38 : PySem.W.findIn K (.ref Cw) "of_letters" = some (some (.ref f38)))
    (i38 : PySem.W.isFn K (.ref f38) = true)
    (l38 : K.lookup f38 = some ⟨oc38, od38, .func (PySem.W.fnOf "of_letters" "Way.of_letters" (defArgs s_ofl) (defBody s_ofl) (defScope s_ofl) .none kV38 dc38 pm38 an38 cd38 ct38), sl38⟩)
    (c38 : PySem.W.codeIn K cd38 "Way.of_letters" = true)
    (k38 : PySem.W.keepIn K (.ref f38) = true)
    (a39 : PySem.W.findIn K (.ref Cw) "agree" = some (some (.ref f39)))
    (i39 : PySem.W.isFn K (.ref f39) = true)
    (l39 : K.lookup f39 = some ⟨oc39, od39, .func (PySem.W.fnOf "agree" "Way.agree" (defArgs s_agree) (defBody s_agree) (defScope s_agree) .none kV39 dc39 pm39 an39 cd39 ct39), sl39⟩)
    (c39 : PySem.W.codeIn K cd39 "Way.agree" = true)
    (k39 : PySem.W.keepIn K (.ref f39) = true)
    (a40 : PySem.W.findIn K (.ref Cw) "__call__" = some (some (.ref f40)))
    (i40 : PySem.W.isFn K (.ref f40) = true)
    (l40 : K.lookup f40 = some ⟨oc40, od40, .func (PySem.W.fnOf "__call__" "Way.__call__" (defArgs s_call) (defBody s_call) (defScope s_call) .none kV40 dc40 pm40 an40 cd40 ct40), sl40⟩)
    (c40 : PySem.W.codeIn K cd40 "Way.__call__" = true)
    (k40 : PySem.W.keepIn K (.ref f40) = true)
    (z_dict : PySem.W.nsIn K mainGlobals "dict" = some none)
    (z_sorted : PySem.W.nsIn K mainGlobals "sorted" = some none)
    (mCi : PySem.W.nsIn K mainGlobals "InvalidWay" = some (some (.ref Ci)))
    (xCi : K.lookup Ci = some (excClassObj nmCi qCi Ci NCi bsCi [.ref BCCi, .type "ValueError", .type "Exception", .type "BaseException", .type "object"] true snCi subCi abCi colCi ddCi e0Ci e1Ci e2Ci e3Ci e5Ci "ValueError.__new__"))
    (saCi : PySem.W.findIn K (.ref Ci) "__setattr__" = some (some (.builtin "object.__setattr__")))
    (gaCi : PySem.W.findIn K (.ref Ci) "__getattribute__" = some (some (.builtin "BaseException.__getattribute__")))
    (ggCi : PySem.W.findIn K (.ref Ci) "__getattr__" = some none)
    (nfCi : PySem.W.findIn K (.ref Ci) "thing" = some none)
    (kcCi : PySem.W.keepIn K (.ref Ci) = true)
    (eCCi : PySem.W.subIn K (.ref Ci) (.type "BaseException") = some true)
    (tCCi : PySem.W.typeIn K (.ref Ci) = some (.type "type"))
    (hCCi : PySem.W.hasDictIn K Ci = true)
    (iCCi : PySem.W.isClsIn K Ci = true)
    (sCCi : PySem.W.subIn K (.ref Ci) (.ref Ci) = some true)
    (a41 : PySem.W.findIn K (.ref Ci) "__init__" = some (some (.ref f41)))
    (i41 : PySem.W.isFn K (.ref f41) = true)
    (l41 : K.lookup f41 = some ⟨oc41, od41, .func (PySem.W.fnOf "__init__" "InvalidWay.__init__" (defArgs s_invway) (defBody s_invway) (defScope s_invway) .none kV41 dc41 pm41 an41 cd41 ct41), sl41⟩)
    (c41 : PySem.W.codeIn K cd41 "InvalidWay.__init__" = true)
    (k41 : PySem.W.keepIn K (.ref f41) = true)
    (tICi : PySem.W.typeIn K (.ref f41) = some (.type "function"))
    (mCu : PySem.W.nsIn K mainGlobals "UnlikeMarkings" = some (some (.ref Cu)))
    (xCu : PySem.W.excIn K Cu [.type "ValueError", .type "Exception", .type "BaseException", .type "object"] "ValueError.__new__" = true)
    (kcCu : PySem.W.keepIn K (.ref Cu) = true)
    (eCCu : PySem.W.subIn K (.ref Cu) (.type "BaseException") = some true)
    (tCCu : PySem.W.typeIn K (.ref Cu) = some (.type "type"))
    (iCCu : PySem.W.isClsIn K Cu = true)
    (sCCu : PySem.W.subIn K (.ref Cu) (.ref Cu) = some true)
    (nuCu : PySem.W.subIn K (.ref Cu) (.ref Ci) = some false)
    (a42 : PySem.W.nsIn K mainGlobals "plain_shift" = some (some (.ref f42)))
    (l42 : K.lookup f42 = some ⟨oc42, od42, .func (PySem.W.fnOf "plain_shift" "plain_shift" (defArgs s_plainx) (defBody s_plainx) (defScope s_plainx) .none kV42 dc42 pm42 an42 cd42 ct42), sl42⟩)
    (c42 : PySem.W.codeIn K cd42 "plain_shift" = true)
    (k42 : PySem.W.keepIn K (.ref f42) = true)
    (a43 : PySem.W.nsIn K mainGlobals "both" = some (some (.ref f43)))
    (l43 : K.lookup f43 = some ⟨oc43, od43, .func (PySem.W.fnOf "both" "both" (defArgs s_both) (defBody s_both) (defScope s_both) .none kV43 dc43 pm43 an43 cd43 ct43), sl43⟩)
    (c43 : PySem.W.codeIn K cd43 "both" = true)
    (k43 : PySem.W.keepIn K (.ref f43) = true)
    (icCw : PySem.W.isClsIn K Cw = true)
    (tyCw : PySem.W.typeIn K (.ref Cw) = some (.type "type"))
    (ssCw : PySem.W.subIn K (.ref Cw) (.ref Cw) = some true)
    (nw_non : PySem.W.subIn K (.type "NoneType") (.ref Cw) = some false)
    (nw_int : PySem.W.subIn K (.type "int") (.ref Cw) = some false)
    (nw_bl : PySem.W.subIn K (.type "bool") (.ref Cw) = some false)
    (nw_str : PySem.W.subIn K (.type "str") (.ref Cw) = some false)
    (nw_lst : PySem.W.subIn K (.type "list") (.ref Cw) = some false)
    (nw_dct : PySem.W.subIn K (.type "dict") (.ref Cw) = some false)
    (nw_md : PySem.W.subIn K (.ref Cm) (.ref Cw) = some false)
    (a44 : PySem.W.findIn K (.ref Ck) "__eq__" = some (some (.ref f44)))
    (i44 : PySem.W.isFn K (.ref f44) = true)
    (l44 : K.lookup f44 = some ⟨oc44, od44, .func (PySem.W.fnOf "__eq__" "Marking.__eq__" (defArgs s_eqmk) (defBody s_eqmk) (defScope s_eqmk) .none kV44 dc44 pm44 an44 cd44 ct44), sl44⟩)
    (c44 : PySem.W.codeIn K cd44 "Marking.__eq__" = true)
    (k44 : PySem.W.keepIn K (.ref f44) = true)
    (neCk : PySem.W.findIn K (.ref Ck) "__ne__" = some (some (.builtin "object.__ne__")))
    (a45 : PySem.W.findIn K (.ref Cw) "__eq__" = some (some (.ref f45)))
    (i45 : PySem.W.isFn K (.ref f45) = true)
    (l45 : K.lookup f45 = some ⟨oc45, od45, .func (PySem.W.fnOf "__eq__" "Way.__eq__" (defArgs s_eqwy) (defBody s_eqwy) (defScope s_eqwy) .none kV45 dc45 pm45 an45 cd45 ct45), sl45⟩)
    (c45 : PySem.W.codeIn K cd45 "Way.__eq__" = true)
    (k45 : PySem.W.keepIn K (.ref f45) = true)
    (neCw : PySem.W.findIn K (.ref Cw) "__ne__" = some (some (.builtin "object.__ne__")))
    (a46 : PySem.W.nsIn K mainGlobals "law" = some (some (.ref f46)))
    (l46 : K.lookup f46 = some ⟨oc46, od46, .func (PySem.W.fnOf "law" "law" (defArgs s_law) (defBody s_law) (defScope s_law) .none kV46 dc46 pm46 an46 cd46 ct46), sl46⟩)
    (c46 : PySem.W.codeIn K cd46 "law" = true)
    (k46 : PySem.W.keepIn K (.ref f46) = true)
    (fi40 : PySem.W.fnIn K f40 = true) :
    ∃ fd : FuncData, (∀ (s : Shared) (v : Value), BindsTo s fd ⟨[v], []⟩ [("_law_script", v)]) ∧ ∀ base : Heap, K.In base → base.Ns mainGlobals mg → FnOk l.prog w K mg base L2.CX0 10 fa fd ["_law_script"] (spLaw K) := by
  have e := hfa.symm.trans (PySem.W.mg_of X G a46)
  cases e
  have T : Bt mg := ⟨PySem.W.mg_none_of X G z_len, PySem.W.mg_none_of X G z_int, PySem.W.mg_none_of X G z_abs, PySem.W.mg_none_of X G z_max, PySem.W.mg_none_of X G z_min, PySem.W.mg_none_of X G z_range, PySem.W.mg_none_of X G z_isinstance, PySem.W.mg_none_of X G z_list, PySem.W.mg_none_of X G z_tuple, PySem.W.mg_none_of X G z_str, PySem.W.mg_none_of X G z_bool, PySem.W.mg_none_of X G z_ord, PySem.W.mg_none_of X G z_all, PySem.W.mg_none_of X G z_enumerate, PySem.W.mg_none_of X G z_zip⟩
  have K_Cm : ClsF K Cm := ⟨⟨pgCm, hdCm, poCm, saCm⟩, haCm, objhn, objht, hmCm⟩
  have K_Ck : ClsF K Ck := ⟨⟨pgCk, hdCk, poCk, saCk⟩, haCk, objhn, objht, hmCk⟩
  have K_Cw : ClsF K Cw := ⟨⟨pgCw, hdCw, poCw, saCw⟩, haCw, objhn, objht, hmCw⟩
  have KX : Kx K mg ⟨Cm, Ck, Cw⟩ := ⟨K_Cm, K_Ck, K_Cw, PySem.W.mg_of X G mCm, PySem.W.mg_of X G mCk, PySem.W.mg_of X G mCw, nCm_number, nCm_factors, nCk_low, nCk_shift, nCk_lead, nCw_marking, nCw_modulus, nCw_number, nCw_base⟩
  have F_isint : Dn K mg "is_integer" s_isint ["thing"] := ⟨f1, _, fun_mk (st := s_isint) l1 c1 k1, PySem.W.mg_of X G a1, (fun_mk (st := s_isint) l1 c1 k1).binds (ps := ["thing"]) fun _ _ _ _ _ _ us hl => match us, hl with | [_], _ => rfl⟩
  have F_raised : Dn K mg "raised" s_raised ["factor", "power"] := ⟨f2, _, fun_mk (st := s_raised) l2 c2 k2, PySem.W.mg_of X G a2, (fun_mk (st := s_raised) l2 c2 k2).binds (ps := ["factor", "power"]) fun _ _ _ _ _ _ us hl => match us, hl with | [_, _], _ => rfl⟩
  have F_gcd : Dn K mg "common_divisor" s_gcd ["one", "other"] := ⟨f3, _, fun_mk (st := s_gcd) l3 c3 k3, PySem.W.mg_of X G a3, (fun_mk (st := s_gcd) l3 c3 k3).binds (ps := ["one", "other"]) fun _ _ _ _ _ _ us hl => match us, hl with | [_, _], _ => rfl⟩
  have F_prime : Dn K mg "is_prime_number" s_prime ["number"] := ⟨f4, _, fun_mk (st := s_prime) l4 c4 k4, PySem.W.mg_of X G a4, (fun_mk (st := s_prime) l4 c4 k4).binds (ps := ["number"]) fun _ _ _ _ _ _ us hl => match us, hl with | [_], _ => rfl⟩
  have F_isfac : Dn K mg "is_factor" s_isfac ["thing", "least"] := ⟨f5, _, fun_mk (st := s_isfac) l5 c5 k5, PySem.W.mg_of X G a5, (fun_mk (st := s_isfac) l5 c5 k5).binds (ps := ["thing", "least"]) fun _ _ _ _ _ _ us hl => match us, hl with | [_, _], _ => rfl⟩
  have F_reqmod : Dn K mg "require_modulus" s_reqmod ["modulus"] := ⟨f6, _, fun_mk (st := s_reqmod) l6 c6 k6, PySem.W.mg_of X G a6, (fun_mk (st := s_reqmod) l6 c6 k6).binds (ps := ["modulus"]) fun _ _ _ _ _ _ us hl => match us, hl with | [_], _ => rfl⟩
  have F_istext : Dn K mg "is_text" s_istext ["thing"] := ⟨f7, _, fun_mk (st := s_istext) l7 c7 k7, PySem.W.mg_of X G a7, (fun_mk (st := s_istext) l7 c7 k7).binds (ps := ["thing"]) fun _ _ _ _ _ _ us hl => match us, hl with | [_], _ => rfl⟩
  have F_read : Dn K mg "read" s_read ["text"] := ⟨f8, _, fun_mk (st := s_read) l8 c8 k8, PySem.W.mg_of X G a8, (fun_mk (st := s_read) l8 c8 k8).binds (ps := ["text"]) fun _ _ _ _ _ _ us hl => match us, hl with | [_], _ => rfl⟩
  have F_reqtext : Dn K mg "require_text" s_reqtext ["thing"] := ⟨f9, _, fun_mk (st := s_reqtext) l9 c9 k9, PySem.W.mg_of X G a9, (fun_mk (st := s_reqtext) l9 c9 k9).binds (ps := ["thing"]) fun _ _ _ _ _ _ us hl => match us, hl with | [_], _ => rfl⟩
  have F_mkof : Dn K mg "marking_of" s_mkof ["marking"] := ⟨f10, _, fun_mk (st := s_mkof) l10 c10 k10, PySem.W.mg_of X G a10, (fun_mk (st := s_mkof) l10 c10 k10).binds (ps := ["marking"]) fun _ _ _ _ _ _ us hl => match us, hl with | [_], _ => rfl⟩
  have F_restat : Dn K mg "rest_at" s_restat ["coefficients", "base", "number"] := ⟨f11, _, fun_mk (st := s_restat) l11 c11 k11, PySem.W.mg_of X G a11, (fun_mk (st := s_restat) l11 c11 k11).binds (ps := ["coefficients", "base", "number"]) fun _ _ _ _ _ _ us hl => match us, hl with | [_, _, _], _ => rfl⟩
  have F_mixed : Dn K mg "_law_mixed" s_mixed ["_law_cell", "_law_k"] := ⟨f12, _, fun_mk (st := s_mixed) l12 c12 k12, PySem.W.mg_of X G a12, (fun_mk (st := s_mixed) l12 c12 k12).binds (ps := ["_law_cell", "_law_k"]) fun _ _ _ _ _ _ us hl => match us, hl with | [_, _], _ => rfl⟩
  have F_purse : Dn K mg "_law_purse" s_purse ["_law_cells", "_law_at"] := ⟨f13, _, fun_mk (st := s_purse) l13 c13 k13, PySem.W.mg_of X G a13, (fun_mk (st := s_purse) l13 c13 k13).binds (ps := ["_law_cells", "_law_at"]) fun _ _ _ _ _ _ us hl => match us, hl with | [_, _], _ => rfl⟩
  have F_draw : Dn K mg "_law_draw" s_draw ["_law_purse_here", "_law_out_of"] := ⟨f14, _, fun_mk (st := s_draw) l14 c14 k14, PySem.W.mg_of X G a14, (fun_mk (st := s_draw) l14 c14 k14).binds (ps := ["_law_purse_here", "_law_out_of"]) fun _ _ _ _ _ _ us hl => match us, hl with | [_, _], _ => rfl⟩
  have F_great : Dn K mg "_law_great" s_great ["_law_purse_here", "_law_figures"] := ⟨f15, _, fun_mk (st := s_great) l15 c15 k15, PySem.W.mg_of X G a15, (fun_mk (st := s_great) l15 c15 k15).binds (ps := ["_law_purse_here", "_law_figures"]) fun _ _ _ _ _ _ us hl => match us, hl with | [_, _], _ => rfl⟩
  have F_style : Dn K mg "_law_style" s_style ["_law_purse_here"] := ⟨f16, _, fun_mk (st := s_style) l16 c16 k16, PySem.W.mg_of X G a16, (fun_mk (st := s_style) l16 c16 k16).binds (ps := ["_law_purse_here"]) fun _ _ _ _ _ _ us hl => match us, hl with | [_], _ => rfl⟩
  have F_marking : Dn K mg "_law_marking" s_marking ["_law_given"] := ⟨f17, _, fun_mk (st := s_marking) l17 c17 k17, PySem.W.mg_of X G a17, (fun_mk (st := s_marking) l17 c17 k17).binds (ps := ["_law_given"]) fun _ _ _ _ _ _ us hl => match us, hl with | [_], _ => rfl⟩
  have F_signs : Dn K mg "_law_signs" s_signs ["_law_purse_here", "_law_many"] := ⟨f18, _, fun_mk (st := s_signs) l18 c18 k18, PySem.W.mg_of X G a18, (fun_mk (st := s_signs) l18 c18 k18).binds (ps := ["_law_purse_here", "_law_many"]) fun _ _ _ _ _ _ us hl => match us, hl with | [_, _], _ => rfl⟩
  have F_letter : Dn K mg "_law_letter" s_letter ["_law_purse_here"] := ⟨f19, _, fun_mk (st := s_letter) l19 c19 k19, PySem.W.mg_of X G a19, (fun_mk (st := s_letter) l19 c19 k19).binds (ps := ["_law_purse_here"]) fun _ _ _ _ _ _ us hl => match us, hl with | [_], _ => rfl⟩
  have F_text : Dn K mg "_law_text" s_text ["_law_purse_here", "_law_longest"] := ⟨f20, _, fun_mk (st := s_text) l20 c20 k20, PySem.W.mg_of X G a20, (fun_mk (st := s_text) l20 c20 k20).binds (ps := ["_law_purse_here", "_law_longest"]) fun _ _ _ _ _ _ us hl => match us, hl with | [_, _], _ => rfl⟩
  have F_letters : Dn K mg "_law_letters" s_letters ["_law_string"] := ⟨f21, _, fun_mk (st := s_letters) l21 c21 k21, PySem.W.mg_of X G a21, (fun_mk (st := s_letters) l21 c21 k21).binds (ps := ["_law_string"]) fun _ _ _ _ _ _ us hl => match us, hl with | [_], _ => rfl⟩
  have F_shiftof : Dn K mg "shift_of" s_shiftof ["way"] := ⟨f22, _, fun_mk (st := s_shiftof) l22 c22 k22, PySem.W.mg_of X G a22, (fun_mk (st := s_shiftof) l22 c22 k22).binds (ps := ["way"]) fun _ _ _ _ _ _ us hl => match us, hl with | [_], _ => rfl⟩
  have F_some : Dn K mg "_law_some_pairs" s_some ["_law_purse_here"] := ⟨f23, _, fun_mk (st := s_some) l23 c23 k23, PySem.W.mg_of X G a23, (fun_mk (st := s_some) l23 c23 k23).binds (ps := ["_law_purse_here"]) fun _ _ _ _ _ _ us hl => match us, hl with | [_], _ => rfl⟩
  have F_drawnw : Dn K mg "_law_drawn_way" s_drawnw ["_law_purse_here"] := ⟨f24, _, fun_mk (st := s_drawnw) l24 c24 k24, PySem.W.mg_of X G a24, (fun_mk (st := s_drawnw) l24 c24 k24).binds (ps := ["_law_purse_here"]) fun _ _ _ _ _ _ us hl => match us, hl with | [_], _ => rfl⟩
  have F_near : Dn K mg "_law_near" s_near ["_law_purse_here", "_law_first", "_law_given"] := ⟨f25, _, fun_mk (st := s_near) l25 c25 k25, PySem.W.mg_of X G a25, (fun_mk (st := s_near) l25 c25 k25).binds (ps := ["_law_purse_here", "_law_first", "_law_given"]) fun _ _ _ _ _ _ us hl => match us, hl with | [_, _, _], _ => rfl⟩
  have F_caught : Dn K mg "_law_caught" s_caught ["_law_first", "_law_second"] := ⟨f26, _, fun_mk (st := s_caught) l26 c26 k26, PySem.W.mg_of X G a26, (fun_mk (st := s_caught) l26 c26 k26).binds (ps := ["_law_first", "_law_second"]) fun _ _ _ _ _ _ us hl => match us, hl with | [_, _], _ => rfl⟩
  have F_textsr : Dn K mg "_law_texts_right" s_textsr ["_law_purse_here", "_law_first", "_law_second", "_law_made"] := ⟨f27, _, fun_mk (st := s_textsr) l27 c27 k27, PySem.W.mg_of X G a27, (fun_mk (st := s_textsr) l27 c27 k27).binds (ps := ["_law_purse_here", "_law_first", "_law_second", "_law_made"]) fun _ _ _ _ _ _ us hl => match us, hl with | [_, _, _, _], _ => rfl⟩
  have F_right : Dn K mg "_law_right" s_right ["_law_purse_here"] := ⟨f28, _, fun_mk (st := s_right) l28 c28 k28, PySem.W.mg_of X G a28, (fun_mk (st := s_right) l28 c28 k28).binds (ps := ["_law_purse_here"]) fun _ _ _ _ _ _ us hl => match us, hl with | [_], _ => rfl⟩
  have F_reqonex : Dn K mg "require_one_way" s_reqonex ["thing"] := ⟨f29, _, fun_mk (st := s_reqonex) l29 c29 k29, PySem.W.mg_of X G a29, (fun_mk (st := s_reqonex) l29 c29 k29).binds (ps := ["thing"]) fun _ _ _ _ _ _ us hl => match us, hl with | [_], _ => rfl⟩
  have F_reqlikex : Dn K mg "require_like" s_reqlikex ["one", "other"] := ⟨f30, _, fun_mk (st := s_reqlikex) l30 c30 k30, PySem.W.mg_of X G a30, (fun_mk (st := s_reqlikex) l30 c30 k30).binds (ps := ["one", "other"]) fun _ _ _ _ _ _ us hl => match us, hl with | [_, _], _ => rfl⟩
  have F_led : Dn K mg "led_together" s_led ["rest", "number", "other_rest", "other_number"] := ⟨f31, _, fun_mk (st := s_led) l31 c31 k31, PySem.W.mg_of X G a31, (fun_mk (st := s_led) l31 c31 k31).binds (ps := ["rest", "number", "other_rest", "other_number"]) fun _ _ _ _ _ _ us hl => match us, hl with | [_, _, _, _], _ => rfl⟩
  have F_inverse : Dn K mg "inverse" s_inverse ["unit", "number"] := ⟨f32, _, fun_mk (st := s_inverse) l32 c32 k32, PySem.W.mg_of X G a32, (fun_mk (st := s_inverse) l32 c32 k32).binds (ps := ["unit", "number"]) fun _ _ _ _ _ _ us hl => match us, hl with | [_, _], _ => rfl⟩
  have F_common : Dn K mg "_law_common" s_common ["_law_here", "_law_there"] := ⟨f33, _, fun_mk (st := s_common) l33 c33 k33, PySem.W.mg_of X G a33, (fun_mk (st := s_common) l33 c33 k33).binds (ps := ["_law_here", "_law_there"]) fun _ _ _ _ _ _ us hl => match us, hl with | [_, _], _ => rfl⟩
  have F_modinit : FunD K "__init__" "Modulus.__init__" (defArgs s_modinit) (defBody s_modinit) (defScope s_modinit) [] [] f34 _ := ⟨⟨oc34, od34, .none, kV34, dc34, pm34, an34, cd34, ct34, sl34, rfl, l34, c34, .inl ⟨rfl, rfl⟩, .inl rfl⟩, k34⟩
  have B_modinit := F_modinit.bindsN (ps := ["self", "factors"]) fun _ _ _ _ _ _ us hl => match us, hl with | [_, _], _ => rfl
  have F_mkinit : FunD K "__init__" "Marking.__init__" (defArgs s_mkinit) (defBody s_mkinit) (defScope s_mkinit) [] [("low", .bl false), ("shift", .int 0), ("lead", .bl false)] f35 _ := ⟨⟨oc35, od35, .none, (.ref D35), dc35, pm35, an35, cd35, ct35, sl35, rfl, l35, c35, .inl ⟨rfl, rfl⟩, .inr ⟨D35, rfl, fun q hq => by
    simp only [List.mem_cons, List.not_mem_nil, or_false] at hq
    rcases hq with rfl | rfl | rfl
    · exact ⟨_, d35_0, rfl⟩
    · exact ⟨_, d35_1, ⟨_, rfl⟩⟩
    · exact ⟨_, d35_2, rfl⟩⟩⟩, k35⟩
  have F_hf : FunD K "highest_first" "Marking.highest_first" (defArgs s_hf) (defBody s_hf) (defScope s_hf) [] [] f36 _ := ⟨⟨oc36, od36, .none, kV36, dc36, pm36, an36, cd36, ct36, sl36, rfl, l36, c36, .inl ⟨rfl, rfl⟩, .inl rfl⟩, k36⟩
  have B_hf := F_hf.bindsN (ps := ["self", "letters"]) fun _ _ _ _ _ _ us hl => match us, hl with | [_, _], _ => rfl
  have F_wayinit : FunD K "__init__" "Way.__init__" (defArgs s_wayinit) (defBody s_wayinit) (defScope s_wayinit) [.non] [] f37 _ := ⟨⟨oc37, od37, (.ref T37), kV37, dc37, pm37, an37, cd37, ct37, sl37, rfl, l37, c37, .inr ⟨by simp, T37, _, _, _, rfl, t37, rfl, (.cons rfl .nil)⟩, .inl rfl⟩, k37⟩
  have F_ofl : FunD K "of_letters" "Way.of_letters" (defArgs s_ofl) (defBody s_ofl) (defScope s_ofl) [] [] f38 _ := ⟨⟨oc38, od38, .none, kV38, dc38, pm38, an38, cd38, ct38, sl38, rfl, l38, c38, .inl ⟨rfl, rfl⟩, .inl rfl⟩, k38⟩
  have B_ofl := F_ofl.bindsN (ps := ["self", "letters"]) fun _ _ _ _ _ _ us hl => match us, hl with | [_, _], _ => rfl
  have F_agree : FunD K "agree" "Way.agree" (defArgs s_agree) (defBody s_agree) (defScope s_agree) [] [] f39 _ := ⟨⟨oc39, od39, .none, kV39, dc39, pm39, an39, cd39, ct39, sl39, rfl, l39, c39, .inl ⟨rfl, rfl⟩, .inl rfl⟩, k39⟩
  have B_agree := F_agree.bindsN (ps := ["self", "text", "other"]) fun _ _ _ _ _ _ us hl => match us, hl with | [_, _, _], _ => rfl
  have F_call : FunD K "__call__" "Way.__call__" (defArgs s_call) (defBody s_call) (defScope s_call) [] [] f40 _ := ⟨⟨oc40, od40, .none, kV40, dc40, pm40, an40, cd40, ct40, sl40, rfl, l40, c40, .inl ⟨rfl, rfl⟩, .inl rfl⟩, k40⟩
  have B_call := F_call.bindsN (ps := ["self", "text"]) fun _ _ _ _ _ _ us hl => match us, hl with | [_, _], _ => rfl
  have zdict : mg "dict" = none := PySem.W.mg_none_of X G z_dict
  have zsorted : mg "sorted" = none := PySem.W.mg_none_of X G z_sorted
  have F_invway : FunD K "__init__" "InvalidWay.__init__" (defArgs s_invway) (defBody s_invway) (defScope s_invway) [] [] f41 _ := ⟨⟨oc41, od41, .none, kV41, dc41, pm41, an41, cd41, ct41, sl41, rfl, l41, c41, .inl ⟨rfl, rfl⟩, .inl rfl⟩, k41⟩
  have B_invway := F_invway.bindsN (ps := ["self", "thing"]) fun _ _ _ _ _ _ us hl => match us, hl with | [_, _], _ => rfl
  have O_Ci : OexC K Ci := ⟨⟨nmCi, qCi, NCi, bsCi, _, snCi, subCi, abCi, colCi, ddCi, e0Ci, e1Ci, e2Ci, e3Ci, e5Ci, xCi, rfl⟩, saCi, eCCi, tCCi, kcCi⟩
  have e_invway : ErrC K mg "InvalidWay" Ci "thing" := ⟨PySem.W.mg_of X G mCi, ⟨gaCi, ggCi, eCCi, hCCi⟩, nfCi, exm_own eCCi iCCi tCCi sCCi⟩
  have e_unlike : Err0 K mg "UnlikeMarkings" Cu := ⟨PySem.W.mg_of X G mCu, xCu, kcCu, eCCu, tCCu, exm_own eCCu iCCu tCCu sCCu⟩
  have F_plainx : FunD K "plain_shift" "plain_shift" (defArgs s_plainx) (defBody s_plainx) (defScope s_plainx) [] [] f42 _ := ⟨⟨oc42, od42, .none, kV42, dc42, pm42, an42, cd42, ct42, sl42, rfl, l42, c42, .inl ⟨rfl, rfl⟩, .inl rfl⟩, k42⟩
  have B_plainx := F_plainx.bindsN (ps := ["way"]) fun _ _ _ _ _ _ us hl => match us, hl with | [_], _ => rfl
  have F_both : FunD K "both" "both" (defArgs s_both) (defBody s_both) (defScope s_both) [] [] f43 _ := ⟨⟨oc43, od43, .none, kV43, dc43, pm43, an43, cd43, ct43, sl43, rfl, l43, c43, .inl ⟨rfl, rfl⟩, .inl rfl⟩, k43⟩
  have B_both := F_both.bindsN (ps := ["one", "other"]) fun _ _ _ _ _ _ us hl => match us, hl with | [_, _], _ => rfl
  have NW : NoW K ⟨Cm, Ck, Cw⟩ := ⟨kit_no rfl icCw tyCw nw_non, kit_no rfl icCw tyCw nw_int, kit_no rfl icCw tyCw nw_bl, kit_no rfl icCw tyCw nw_str, kit_no rfl icCw tyCw nw_lst, kit_no rfl icCw tyCw nw_dct, kit_no (ref_no nw_md ssCw) icCw tyCw nw_md⟩
  have F_eqmk : FunD K "__eq__" "Marking.__eq__" (defArgs s_eqmk) (defBody s_eqmk) (defScope s_eqmk) [] [] f44 _ := ⟨⟨oc44, od44, .none, kV44, dc44, pm44, an44, cd44, ct44, sl44, rfl, l44, c44, .inl ⟨rfl, rfl⟩, .inl rfl⟩, k44⟩
  have B_eqmk := F_eqmk.bindsN (ps := ["self", "other"]) fun _ _ _ _ _ _ us hl => match us, hl with | [_, _], _ => rfl
  have F_eqwy : FunD K "__eq__" "Way.__eq__" (defArgs s_eqwy) (defBody s_eqwy) (defScope s_eqwy) [] [] f45 _ := ⟨⟨oc45, od45, .none, kV45, dc45, pm45, an45, cd45, ct45, sl45, rfl, l45, c45, .inl ⟨rfl, rfl⟩, .inl rfl⟩, k45⟩
  have B_eqwy := F_eqwy.bindsN (ps := ["self", "other"]) fun _ _ _ _ _ _ us hl => match us, hl with | [_, _], _ => rfl
  refine ⟨PySem.W.fnOf "law" "law" (defArgs s_law) (defBody s_law) (defScope s_law) .none kV46 dc46 pm46 an46 cd46 ct46, fun s v => .of_eq rfl, fun base _ _ => ?_⟩
  have c_isint := ok_isint (P := l.prog) (w := w) (K := K) (mg := mg) (base := base) F_isint T
  have c_raised := ok_raised (P := l.prog) (w := w) (K := K) (mg := mg) (base := base) F_raised T
  have c_gcd := ok_gcd (P := l.prog) (w := w) (K := K) (mg := mg) (base := base) F_gcd T
  have c_prime := ok_prime (P := l.prog) (w := w) (K := K) (mg := mg) (base := base) F_prime T
  have c_isfac := ok_isfac F_isfac T c_isint c_prime
  have g_modinit := ok_modinit (c := ⟨Cm, Ck, Cw⟩) F_modinit T KX c_isfac c_raised
  have c_modinit : C8.Mak l.prog w K mg base 3 "Modulus" Cm (spModInit ⟨Cm, Ck, Cw⟩) [] := ⟨f34, _, _, _, ⟨mkCm, a34, i34, kcCm⟩, g_modinit, PySem.W.mg_of X G mCm, B_modinit, .nil⟩
  have c_reqmod := ok_reqmod (P := l.prog) (w := w) (K := K) (mg := mg) (base := base) F_reqmod T KX
  have c_istext := ok_istext F_istext T c_isint
  have c_read := ok_read (P := l.prog) (w := w) (K := K) (mg := mg) (base := base) F_read T
  have c_reqtext := ok_reqtext F_reqtext T c_istext c_read
  have g_mkinit := ok_mkinit (c := ⟨Cm, Ck, Cw⟩) F_mkinit T KX c_isint
  obtain ⟨ds0, vds0, bds0⟩ := F_mkinit.binds0 (ps := ["self", "low", "shift", "lead"]) 1 (by simp) rfl (fun _ _ _ _ _ _ us ks h1 h2 => match us, ks, h1, h2 with | [_], [_, _, _], _, _ => ⟨_, _, _, _, _, _, rfl, rfl, ⟨_, _, _, _, _, _, rfl, rfl, ⟨_, _, _, _, _, _, rfl, rfl, rfl⟩⟩⟩)
  have c_mk0 : C8.Mak l.prog w K mg base 2 "Marking" Ck (spMkInit ⟨Cm, Ck, Cw⟩) [.bl false, .int 0, .bl false] := ⟨f35, _, _, ds0, ⟨mkCk, a35, i35, kcCk⟩, g_mkinit, PySem.W.mg_of X G mCk, bds0, vds0⟩
  obtain ⟨mv3, kb3⟩ := F_mkinit.kbinds0 (ps := ["self", "low", "shift", "lead"]) 1 ["low", "shift", "lead"] [] (fun us _ ws => us ++ ws) (by simp) (fun q hq => by cases hq) (fun r1 _ r3 => r1.append r3) (fun _ _ _ _ _ _ us mv ws h1 h2 h3 => match us, ws, h1, h3 with | [_], [_, _, _], _, _ => rfl)
  have c_mk3 : MakK l.prog w K mg base 2 "Marking" Ck ["low", "shift", "lead"] (spMkInit ⟨Cm, Ck, Cw⟩) (fun vs zs => vs ++ zs) := ⟨f35, _, _, _, ⟨mkCk, a35, i35, kcCk⟩, g_mkinit, PySem.W.mg_of X G mCk, kb3⟩
  have g_hf := ok_hf (P := l.prog) (w := w) (base := base) (c := ⟨Cm, Ck, Cw⟩) F_hf T KX
  have c_hf : C8.Met l.prog w K mg base 1 Ck "highest_first" (spHf ⟨Cm, Ck, Cw⟩) [] := ⟨f36, _, _, [], KX.kg.cl, ⟨a36, i36, k36⟩, g_hf, B_hf, .nil⟩
  have c_mkof := ok_mkof F_mkof T KX c_mk0
  have c_restat := ok_restat (P := l.prog) (w := w) (K := K) (mg := mg) (base := base) F_restat T
  have g_way := ok_wayinit (c := ⟨Cm, Ck, Cw⟩) F_wayinit T KX c_isint c_reqmod c_mkof
  obtain ⟨dw2, vw2, bw2⟩ := F_wayinit.binds1 (ps := ["self", "base", "modulus", "marking"]) 3 0 (by simp) rfl (fun _ _ _ _ _ _ _ us its h1 h2 => match us, its, h1, h2 with | [_, _, _], [_], _, _ => ⟨_, rfl, rfl⟩)
  have c_way2 : C8.Mak l.prog w K mg base 5 "Way" Cw (spWayInit ⟨Cm, Ck, Cw⟩) [.non] := ⟨f37, _, _, dw2, ⟨mkCw, a37, i37, kcCw⟩, g_way, PySem.W.mg_of X G mCw, bw2, vw2⟩
  obtain ⟨dw3, vw3, bw3⟩ := F_wayinit.binds1 (ps := ["self", "base", "modulus", "marking"]) 4 1 (by simp) rfl (fun _ _ _ _ _ _ _ us its h1 h2 => match us, its, h1, h2 with | [_, _, _, _], [_], _, _ => ⟨_, rfl, rfl⟩)
  have c_way3 : C8.Mak l.prog w K mg base 5 "Way" Cw (spWayInit ⟨Cm, Ck, Cw⟩) [] := ⟨f37, _, _, dw3, ⟨mkCw, a37, i37, kcCw⟩, g_way, PySem.W.mg_of X G mCw, bw3, vw3⟩
  have g_ofl := ok_ofl (c := ⟨Cm, Ck, Cw⟩) F_ofl T KX c_restat c_hf
  have c_ofl : C8.Met l.prog w K mg base 2 Cw "of_letters" (spOfLetters ⟨Cm, Ck, Cw⟩) [] := ⟨f38, _, _, [], KX.wy.cl, ⟨a38, i38, k38⟩, g_ofl, B_ofl, .nil⟩
  have g_agree := ok_agree (c := ⟨Cm, Ck, Cw⟩) F_agree T KX c_reqtext c_ofl
  have c_agree : C8.Met l.prog w K mg base 4 Cw "agree" (spTwo ⟨Cm, Ck, Cw⟩ rAgree) [] := ⟨f39, _, _, [], KX.wy.cl, ⟨a39, i39, k39⟩, g_agree, B_agree, .nil⟩
  have g_call := ok_call (c := ⟨Cm, Ck, Cw⟩) F_call T KX c_reqtext c_ofl
  have c_callO : CalO l.prog w K mg base 4 Cw (spMarkOf ⟨Cm, Ck, Cw⟩) := ⟨f40, ⟨a40, i40, fi40⟩, (g_call.raw B_call .nil).imp fun vs H Q E h => by rw [List.append_nil]; exact h⟩
  have c_mixed := ok_mixed (P := l.prog) (w := w) (K := K) (mg := mg) (base := base) F_mixed T
  have c_purse := ok_purse (P := l.prog) (w := w) (K := K) (mg := mg) (base := base) F_purse T
  have c_draw := ok_draw F_draw T c_mixed
  have c_great := ok_great F_great T c_draw
  have c_style := ok_style F_style T c_draw c_great
  have c_marking := ok_marking (ca := ⟨Cm, Ck, Cw⟩) F_marking T c_mk3
  have c_signs := ok_signs F_signs T c_draw
  have c_letter := ok_letter F_letter T c_draw c_great
  have c_text := ok_text F_text T c_draw c_signs c_letter
  have c_letters := ok_letters (P := l.prog) (w := w) (K := K) (mg := mg) (base := base) F_letters T
  have c_shiftof := ok_shiftof (P := l.prog) (w := w) (K := K) (mg := mg) (base := base) F_shiftof T KX
  have nu := exm_no eCCi iCCi tCCi nuCu
  have g_invway := ok_invway (P := l.prog) (w := w) (K := K) (mg := mg) (base := base) F_invway T O_Ci nfCi
  have c_invway : Err l.prog w K mg base 1 "InvalidWay" Ci "thing" := ⟨f41, _, _, O_Ci, a41, tICi, g_invway, B_invway, PySem.W.mg_of X G mCi⟩
  have c_reqonex := ok_reqonex (c := ⟨Cm, Ck, Cw⟩) (Ci := Ci) F_reqonex T KX c_invway
  have c_reqlikex := ok_reqlikex (P := l.prog) (w := w) (K := K) (mg := mg) (base := base) (c := ⟨Cm, Ck, Cw⟩) (Cu := Cu) F_reqlikex T KX e_unlike
  have c_inverse := ok_inverse (P := l.prog) (w := w) (K := K) (mg := mg) (base := base) F_inverse T
  have c_led := ok_led F_led T c_gcd c_inverse
  have c_common := ok_common (P := l.prog) (w := w) (K := K) (mg := mg) (base := base) F_common T
  obtain ⟨mvL, kbL⟩ := F_mkinit.kbinds0 (ps := ["self", "low", "shift", "lead"]) 1 ["lead"] [("low", .bl false), ("shift", .int 0)] (fun us mv ws => us ++ mv ++ ws) (by simp) (fun q hq => by simp only [List.mem_cons, List.not_mem_nil, or_false] at hq; rcases hq with rfl | rfl <;> simp) (fun r1 r2 r3 => (r1.append r2).append r3) (fun _ _ _ _ _ _ us mv ws h1 h2 h3 => match us, mv, ws, h1, h2, h3 with | [_], [_, _], [_], _, _, _ => ⟨_, _, _, _, _, _, rfl, rfl, ⟨_, _, _, _, _, _, rfl, rfl, rfl⟩⟩)
  have c_mkL : MakK l.prog w K mg base 2 "Marking" Ck ["lead"] (spMkInit ⟨Cm, Ck, Cw⟩) (fun vs zs => vs ++ [.bl false, .int 0] ++ zs) := ⟨f35, _, _, _, ⟨mkCk, a35, i35, kcCk⟩, g_mkinit, PySem.W.mg_of X G mCk, kbL⟩
  obtain ⟨mvS, kbS⟩ := F_mkinit.kbinds0 (ps := ["self", "low", "shift", "lead"]) 1 ["shift"] [("low", .bl false), ("lead", .bl false)] (fun us mv ws => us ++ mv.take 1 ++ ws ++ mv.drop 1) (by simp) (fun q hq => by simp only [List.mem_cons, List.not_mem_nil, or_false] at hq; rcases hq with rfl | rfl <;> simp) (fun r1 r2 r3 => vals_mid r1 r2 r3) (fun _ _ _ _ _ _ us mv ws h1 h2 h3 => match us, mv, ws, h1, h2, h3 with | [_], [_, _], [_], _, _, _ => ⟨_, _, _, _, _, _, rfl, rfl, ⟨_, _, _, _, _, _, rfl, rfl, rfl⟩⟩)
  have c_mkS : MakK l.prog w K mg base 2 "Marking" Ck ["shift"] (spMkInit ⟨Cm, Ck, Cw⟩) (fun vs zs => vs ++ [.bl false] ++ zs ++ [.bl false]) := ⟨f35, _, _, _, ⟨mkCk, a35, i35, kcCk⟩, g_mkinit, PySem.W.mg_of X G mCk, kbS⟩
  obtain ⟨mvLS, kbLS⟩ := F_mkinit.kbinds0 (ps := ["self", "low", "shift", "lead"]) 1 ["low", "shift"] [("lead", .bl false)] (fun us mv ws => us ++ ws ++ mv) (by simp) (fun q hq => by simp only [List.mem_cons, List.not_mem_nil, or_false] at hq; rcases hq with rfl; simp) (fun r1 r2 r3 => (r1.append r3).append r2) (fun _ _ _ _ _ _ us mv ws h1 h2 h3 => match us, mv, ws, h1, h2, h3 with | [_], [_], [_, _], _, _, _ => ⟨_, _, _, _, _, _, rfl, rfl, rfl⟩)
  have c_mkLS : MakK l.prog w K mg base 2 "Marking" Ck ["low", "shift"] (spMkInit ⟨Cm, Ck, Cw⟩) (fun vs zs => vs ++ zs ++ [.bl false]) := ⟨f35, _, _, _, ⟨mkCk, a35, i35, kcCk⟩, g_mkinit, PySem.W.mg_of X G mCk, kbLS⟩
  have g_eqmk := ok_eqmk (P := l.prog) (w := w) (base := base) (c := ⟨Cm, Ck, Cw⟩) F_eqmk T KX
  have q_eqmk : EqO l.prog w K mg base 1 Ck (spEqMk K ⟨Cm, Ck, Cw⟩) := ⟨f44, _, _, a44, i44, neCk, hmCk, g_eqmk, B_eqmk⟩
  have g_eqwy := ok_eqwy (c := ⟨Cm, Ck, Cw⟩) F_eqwy T KX q_eqmk
  have q_eqwy : EqO l.prog w K mg base 3 Cw (spEqWy K ⟨Cm, Ck, Cw⟩) := ⟨f45, _, _, a45, i45, neCw, hmCw, g_eqwy, B_eqwy⟩
  have g_plainx := ok_plainx (c := ⟨Cm, Ck, Cw⟩) (Ci := Ci) F_plainx T KX c_reqonex c_shiftof
  have c_plainx : CalX l.prog w K mg base 4 "plain_shift" (spPlainX K ⟨Cm, Ck, Cw⟩ Ci) [] := ⟨f42, _, _, [], g_plainx, PySem.W.mg_of X G a42, k42, B_plainx, .nil⟩
  have g_both := ok_both (c := ⟨Cm, Ck, Cw⟩) (Ci := Ci) (Cu := Cu) F_both T KX zdict zsorted c_reqonex c_reqlikex c_shiftof c_led c_modinit c_way3 c_mkLS
  have c_both : CalX l.prog w K mg base 7 "both" (spBoth K ⟨Cm, Ck, Cw⟩ Ci Cu) [] := ⟨f43, _, _, [], g_both, PySem.W.mg_of X G a43, k43, B_both, .nil⟩
  have c_bothK : CalXK l.prog w K mg base 7 "both" ["other", "one"] (spBoth K ⟨Cm, Ck, Cw⟩ Ci Cu) (fun vs zs => vs ++ zs.reverse) := ⟨f43, _, _, fun us ws => us ++ ws.reverse, g_both, PySem.W.mg_of X G a43, k43, ⟨fun s us ws _ h1 h2 => .of_eq (match us, ws, h1, h2 with | [], [_, _], _, _ => rfl), fun r1 r2 => r1.append (vals_rev r2)⟩⟩
  have c_some := ok_some F_some T c_draw
  have c_drawnw := ok_drawnw F_drawnw T KX c_draw c_great c_some c_style c_marking c_modinit c_way3
  have c_near := ok_near F_near T KX c_draw c_some c_plainx c_modinit c_way3 c_mk3
  have c_caught := ok_caught F_caught T e_invway e_unlike nu c_both
  have c_textsr := ok_textsr F_textsr T KX c_draw c_text c_letters c_plainx c_agree
  have c_right := ok_right F_right T KX NW q_eqwy c_draw c_drawnw c_near c_caught c_both c_plainx c_common c_textsr c_way3 c_mkLS
  exact ok_law (fun_mk (st := s_law) l46 c46 k46) T KX q_eqwy c_purse c_right c_both c_bothK c_modinit c_way2 c_way3 c_mkL c_mkS
theorem walk {l : PySem.W.OpenLaw} {q : Program} {loose : List Str} {XP : (Str → Option Value) → Heap → Prop} {YP : World → Heap → Prop} {d : DefRec} {K : Params → PySem.W.Frag} (hn : l.most = some 63) (hdf : d.params.defaults = [])
    (hY : ∀ (w : World) (h : Heap), YP w h → (K w.params).In h)
    (F : ∀ (w : World) (mg : Str → Option Value) (fa : Addr) (h : Heap), (K w.params).In h → h.Ns mainGlobals mg → mg d.name = some (.ref fa) →
      ∃ fd : FuncData, (∀ (s : Shared) (u : Value), BindsTo s fd ⟨[u], []⟩ [("_law_script", u)]) ∧ ∀ base : Heap, (K w.params).In base → base.Ns mainGlobals mg → FnOk l.prog w (K w.params) mg base L2.CX0 10 fa fd ["_law_script"] (spLaw (K w.params))) :
    PySem.W.WalkO q loose XP YP l.row.toRowW d [] (fun f vs => PySem.call f vs) :=
  L2.walk_of (n := 63) (k := 10) (x := "_law_script") (CX := fun _ => L2.CX0) (sp := fun w => spLaw (K w.params)) hn (by decide) hdf ⟨rfl, by decide, by decide⟩ hY F (fun _ _ a ns hl _ hS => ⟨a, ns, rfl, hS, hl, fun _ => rfl⟩) fun _ _ _ _ _ z => z
end Lw
open PySem PySem.W PyProof.Rows in
set_option maxRecDepth 100000 in
set_option maxHeartbeats 0 in
theorem PySem.Challenge.cw_baseclash_k70_two_ways_at_once_holds : PySem.Challenge.rw_baseclash_k70_two_ways_at_once.Holds := by
  w_on; o_law; k_head; (case hw => w_witness2)
  k_fill
  refine Lw.walk (l := PySem.Challenge.rw_baseclash_k70_two_ways_at_once) rfl rfl (fun w h Y => PySem.W.kIn_of Y) ?F
  case F =>
    intro w mg fa h KX G hmg
    refine' Lw.all_mk KX G hmg ?z_len ?z_int ?z_abs ?z_max ?z_min ?z_range ?z_isinstance ?z_list ?z_tuple ?z_str ?z_bool ?z_ord ?z_all ?z_enumerate ?z_zip ?mCm ?pgCm ?hdCm ?poCm ?saCm ?haCm ?hmCm ?mkCm ?kcCm ?objhn ?objht ?mCk ?pgCk ?hdCk ?poCk ?saCk ?haCk ?hmCk ?mkCk ?kcCk ?mCw ?pgCw ?hdCw ?poCw ?saCw ?haCw ?hmCw ?mkCw ?kcCw ?nCm_number ?nCm_factors ?nCk_low ?nCk_shift ?nCk_lead ?nCw_marking ?nCw_modulus ?nCw_number ?nCw_base ?a1 ?l1 ?c1 ?k1 ?a2 ?l2 ?c2 ?k2 ?a3 ?l3 ?c3 ?k3 ?a4 ?l4 ?c4 ?k4 ?a5 ?l5 ?c5 ?k5 ?a6 ?l6 ?c6 ?k6 ?a7 ?l7 ?c7 ?k7 ?a8 ?l8 ?c8 ?k8 ?a9 ?l9 ?c9 ?k9 ?a10 ?l10 ?c10 ?k10 ?a11 ?l11 ?c11 ?k11 ?a12 ?l12 ?c12 ?k12 ?a13 ?l13 ?c13 ?k13 ?a14 ?l14 ?c14 ?k14 ?a15 ?l15 ?c15 ?k15 ?a16 ?l16 ?c16 ?k16 ?a17 ?l17 ?c17 ?k17 ?a18 ?l18 ?c18 ?k18 ?a19 ?l19 ?c19 ?k19 ?a20 ?l20 ?c20 ?k20 ?a21 ?l21 ?c21 ?k21 ?a22 ?l22 ?c22 ?k22 ?a23 ?l23 ?c23 ?k23 ?a24 ?l24 ?c24 ?k24 ?a25 ?l25 ?c25 ?k25 ?a26 ?l26 ?c26 ?k26 ?a27 ?l27 ?c27 ?k27 ?a28 ?l28 ?c28 ?k28 ?a29 ?l29 ?c29 ?k29 ?a30 ?l30 ?c30 ?k30 ?a31 ?l31 ?c31 ?k31 ?a32 ?l32 ?c32 ?k32 ?a33 ?l33 ?c33 ?k33 ?a34 ?i34 ?l34 ?c34 ?k34 ?a35 ?i35 ?l35 ?c35 ?k35 ?d35_0 ?d35_1 ?d35_2 ?a36 ?i36 ?l36 ?c36 ?k36 ?a37 ?i37 ?l37 ?c37 ?k37 ?t37 ?a38 ?i38 ?l38 ?c38 ?k38 ?a39 ?i39 ?l39 ?c39 ?k39 ?a40 ?i40 ?l40 ?c40 ?k40 ?z_dict ?z_sorted ?mCi ?xCi ?saCi ?gaCi ?ggCi ?nfCi ?kcCi ?eCCi ?tCCi ?hCCi ?iCCi ?sCCi ?a41 ?i41 ?l41 ?c41 ?k41 ?tICi ?mCu ?xCu ?kcCu ?eCCu ?tCCu ?iCCu ?sCCu ?nuCu ?a42 ?l42 ?c42 ?k42 ?a43 ?l43 ?c43 ?k43 ?icCw ?tyCw ?ssCw ?nw_non ?nw_int ?nw_bl ?nw_str ?nw_lst ?nw_dct ?nw_md ?a44 ?i44 ?l44 ?c44 ?k44 ?neCk ?a45 ?i45 ?l45 ?c45 ?k45 ?neCw ?a46 ?l46 ?c46 ?k46 ?fi40
    (case z_len => k_is)
    (case z_int => k_is)
    (case z_abs => k_is)
    (case z_max => k_is)
    (case z_min => k_is)
    (case z_range => k_is)
    (case z_isinstance => k_is)
    (case z_list => k_is)
    (case z_tuple => k_is)
    (case z_str => k_is)
    (case z_bool => k_is)
    (case z_ord => k_is)
    (case z_all => k_is)
    (case z_enumerate => k_is)
    (case z_zip => k_is)
    (case mCm => k_is)
    (case pgCm => k_is)
    (case hdCm => k_is)
    (case poCm => k_is)
    (case saCm => k_is)
    (case haCm => k_is)
    (case hmCm => k_is)
    (case mkCm => k_is)
    (case kcCm => k_is)
    (case objhn => k_is)
    (case objht => k_is)
    (case mCk => k_is)
    (case pgCk => k_is)
    (case hdCk => k_is)
    (case poCk => k_is)
    (case saCk => k_is)
    (case haCk => k_is)
    (case hmCk => k_is)
    (case mkCk => k_is)
    (case kcCk => k_is)
    (case mCw => k_is)
    (case pgCw => k_is)
    (case hdCw => k_is)
    (case poCw => k_is)
    (case saCw => k_is)
    (case haCw => k_is)
    (case hmCw => k_is)
    (case mkCw => k_is)
    (case kcCw => k_is)
    (case nCm_number => k_is)
    (case nCm_factors => k_is)
    (case nCk_low => k_is)
    (case nCk_shift => k_is)
    (case nCk_lead => k_is)
    (case nCw_marking => k_is)
    (case nCw_modulus => k_is)
    (case nCw_number => k_is)
    (case nCw_base => k_is)
    (case a1 => k_is)
    (case l1 => k_is)
    (case c1 => k_is)
    (case k1 => k_is)
    (case a2 => k_is)
    (case l2 => k_is)
    (case c2 => k_is)
    (case k2 => k_is)
    (case a3 => k_is)
    (case l3 => k_is)
    (case c3 => k_is)
    (case k3 => k_is)
    (case a4 => k_is)
    (case l4 => k_is)
    (case c4 => k_is)
    (case k4 => k_is)
    (case a5 => k_is)
    (case l5 => k_is)
    (case c5 => k_is)
    (case k5 => k_is)
    (case a6 => k_is)
    (case l6 => k_is)
    (case c6 => k_is)
    (case k6 => k_is)
    (case a7 => k_is)
    (case l7 => k_is)
    (case c7 => k_is)
    (case k7 => k_is)
    (case a8 => k_is)
    (case l8 => k_is)
    (case c8 => k_is)
    (case k8 => k_is)
    (case a9 => k_is)
    (case l9 => k_is)
    (case c9 => k_is)
    (case k9 => k_is)
    (case a10 => k_is)
    (case l10 => k_is)
    (case c10 => k_is)
    (case k10 => k_is)
    (case a11 => k_is)
    (case l11 => k_is)
    (case c11 => k_is)
    (case k11 => k_is)
    (case a12 => k_is)
    (case l12 => k_is)
    (case c12 => k_is)
    (case k12 => k_is)
    (case a13 => k_is)
    (case l13 => k_is)
    (case c13 => k_is)
    (case k13 => k_is)
    (case a14 => k_is)
    (case l14 => k_is)
    (case c14 => k_is)
    (case k14 => k_is)
    (case a15 => k_is)
    (case l15 => k_is)
    (case c15 => k_is)
    (case k15 => k_is)
    (case a16 => k_is)
    (case l16 => k_is)
    (case c16 => k_is)
    (case k16 => k_is)
    (case a17 => k_is)
    (case l17 => k_is)
    (case c17 => k_is)
    (case k17 => k_is)
    (case a18 => k_is)
    (case l18 => k_is)
    (case c18 => k_is)
    (case k18 => k_is)
    (case a19 => k_is)
    (case l19 => k_is)
    (case c19 => k_is)
    (case k19 => k_is)
    (case a20 => k_is)
    (case l20 => k_is)
    (case c20 => k_is)
    (case k20 => k_is)
    (case a21 => k_is)
    (case l21 => k_is)
    (case c21 => k_is)
    (case k21 => k_is)
    (case a22 => k_is)
    (case l22 => k_is)
    (case c22 => k_is)
    (case k22 => k_is)
    (case a23 => k_is)
    (case l23 => k_is)
    (case c23 => k_is)
    (case k23 => k_is)
    (case a24 => k_is)
    (case l24 => k_is)
    (case c24 => k_is)
    (case k24 => k_is)
    (case a25 => k_is)
    (case l25 => k_is)
    (case c25 => k_is)
    (case k25 => k_is)
    (case a26 => k_is)
    (case l26 => k_is)
    (case c26 => k_is)
    (case k26 => k_is)
    (case a27 => k_is)
    (case l27 => k_is)
    (case c27 => k_is)
    (case k27 => k_is)
    (case a28 => k_is)
    (case l28 => k_is)
    (case c28 => k_is)
    (case k28 => k_is)
    (case a29 => k_is)
    (case l29 => k_is)
    (case c29 => k_is)
    (case k29 => k_is)
    (case a30 => k_is)
    (case l30 => k_is)
    (case c30 => k_is)
    (case k30 => k_is)
    (case a31 => k_is)
    (case l31 => k_is)
    (case c31 => k_is)
    (case k31 => k_is)
    (case a32 => k_is)
    (case l32 => k_is)
    (case c32 => k_is)
    (case k32 => k_is)
    (case a33 => k_is)
    (case l33 => k_is)
    (case c33 => k_is)
    (case k33 => k_is)
    (case a34 => k_is)
    (case i34 => k_is)
    (case l34 => k_is)
    (case c34 => k_is)
    (case k34 => k_is)
    (case a35 => k_is)
    (case i35 => k_is)
    (case l35 => k_is)
    (case c35 => k_is)
    (case k35 => k_is)
    (case d35_0 => k_is)
    (case d35_1 => k_is)
    (case d35_2 => k_is)
    (case a36 => k_is)
    (case i36 => k_is)
    (case l36 => k_is)
    (case c36 => k_is)
    (case k36 => k_is)
    (case a37 => k_is)
    (case i37 => k_is)
    (case l37 => k_is)
    (case c37 => k_is)
    (case k37 => k_is)
    (case t37 => k_is)
    (case a38 => k_is)
    (case i38 => k_is)
    (case l38 => k_is)
    (case c38 => k_is)
    (case k38 => k_is)
    (case a39 => k_is)
    (case i39 => k_is)
    (case l39 => k_is)
    (case c39 => k_is)
    (case k39 => k_is)
    (case a40 => k_is)
    (case i40 => k_is)
    (case l40 => k_is)
    (case c40 => k_is)
    (case k40 => k_is)
    (case z_dict => k_is)
    (case z_sorted => k_is)
    (case mCi => k_is)
    (case xCi => k_is)
    (case saCi => k_is)
    (case gaCi => k_is)
    (case ggCi => k_is)
    (case nfCi => k_is)
    (case kcCi => k_is)
    (case eCCi => k_is)
    (case tCCi => k_is)
    (case hCCi => k_is)
    (case iCCi => k_is)
    (case sCCi => k_is)
    (case a41 => k_is)
    (case i41 => k_is)
    (case l41 => k_is)
    (case c41 => k_is)
    (case k41 => k_is)
    (case tICi => k_is)
    (case mCu => k_is)
    (case xCu => k_exc)
    (case kcCu => k_is)
    (case eCCu => k_is)
    (case tCCu => k_is)
    (case iCCu => k_is)
    (case sCCu => k_is)
    (case nuCu => k_is)
    (case a42 => k_is)
    (case l42 => k_is)
    (case c42 => k_is)
    (case k42 => k_is)
    (case a43 => k_is)
    (case l43 => k_is)
    (case c43 => k_is)
    (case k43 => k_is)
    (case icCw => k_is)
    (case tyCw => k_is)
    (case ssCw => k_is)
    (case nw_non => k_is)
    (case nw_int => k_is)
    (case nw_bl => k_is)
    (case nw_str => k_is)
    (case nw_lst => k_is)
    (case nw_dct => k_is)
    (case nw_md => k_is)
    (case a44 => k_is)
    (case i44 => k_is)
    (case l44 => k_is)
    (case c44 => k_is)
    (case k44 => k_is)
    (case neCk => k_is)
    (case a45 => k_is)
    (case i45 => k_is)
    (case l45 => k_is)
    (case c45 => k_is)
    (case k45 => k_is)
    (case neCw => k_is)
    (case a46 => k_is)
    (case l46 => k_is)
    (case c46 => k_is)
    (case k46 => k_is)
    (case fi40 => k_is)
