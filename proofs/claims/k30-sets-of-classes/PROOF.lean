import PyProof.Rows.All
import Wide.All
import OpenK.AllK
import Wide.FinOn
import HandS.ForMost
import HandS.Codes
import HandS.Style
import HandS.Flow
import HandS.Wide
import HandS.WideBits
import HandS.Defaults
import HandS.MakeKwOnly
import HandS.MakeKw
import HandS.Star
import HandS.IsInst
import HandS.Steps
import HandS.Walk
import HandS.Conv
import HandS.NoneIn
import HandS.Exc
import HandS.ExcOwn
import HandS.ExcInit
import HandS.ExcField
import HandS.CallSlots
import HandS.TryOnly
import HandS.TryMany
import HandS.WordsExc
import KE.GoesMore
import HandS.TupAny
import HandS.ExcIs
import KE.KeyNested
import KE.KDictCopyH
import KE.KDictDisplayH
import KE.KDictOf
import HandS.DictTup
import HandS.Dict
import HandS.SetFor
import HandS.Set
import PyProof.Rows.SetFrom
import HandS.Strs
import HandS.Deep
import HandS.DictComp
import HandS.Iter
import HandS.Small
import KE.KDictPairs
import HandS.SortInts
import HandS.WordsDict
import HandS.RevRange
import KE.KStateDown
import HandS.Head0
import HandS.Head1
import HandS.Head2
import HandS.HeadEnd
import HandS.HeadHook1
import HandS.HeadHook2
import PySem.Challenge.RW_baseclash_k30_sets_of_classes
set_option Elab.async false
set_option maxRecDepth 100000
set_option linter.all false
namespace Bc
open PySem PySem.Spec PyProof.Rows L2
noncomputable def glB (K : PySem.W.Frag) (x : Str) (i : Int) : Bool := match PySem.W.nsIn K mainGlobals x with
  | some (some (.int j _)) => decide (j = i)
  | _ => false
/-- the Hook: ex, what is asked of the objects reached by the module's names; fn, the defs -/
noncomputable def hookX (n : Nat) (ex : PySem.W.Frag → Bool) (fn : List He.DefD) : PySem.W.Hook where
  α := Bool × He.AlD
  obs := fun s => (ex (He.frG s.heap.get? (He.asD s.heap.get? n)), He.obsDG n [] fn s.heap.get?)
  val := fun _ => (true, He.valD fn)
  says := fun _ h => ∃ K : PySem.W.Frag, K.In h ∧ ex K = true ∧ He.SaysD [] fn K
  of := fun _ s e => ⟨He.frG s.heap.get? (He.asD s.heap.get? n), He.frG_in, congrArg Prod.fst e, congrArg Prod.snd e⟩
  keeps := fun _ _ _ ⟨K, hK, c⟩ k => ⟨K, PySem.W.Frag.In.keeps hK k, c⟩
noncomputable def obX (n : Nat) (ex : PySem.W.Frag → Bool) (fn : List He.DefD) (s : PySem.W.SharedT) : Bool × He.AlD := (ex (He.frG (HandSHeadRun.getT s) (He.asD (HandSHeadRun.getT s) n)), He.obsDG n [] fn (HandSHeadRun.getT s))
theorem obX_eq {n : Nat} {ex : PySem.W.Frag → Bool} {fn : List He.DefD} (s : PySem.W.SharedT) : obX n ex fn s = (hookX n ex fn).obs s.abs := by
  have e : HandSHeadRun.getT s = s.abs.heap.get? := funext (HandSHeadRun.getT_eq s)
  unfold obX
  rw [e] <;> rfl
noncomputable def rowB (K : PySem.W.Frag) (v : Value) (i j : Int) : Bool := match v with
  | .ref r => match K.lookup r with
    | some ⟨.type c, _, .seq its _, _⟩ => decide (c = "tuple") && (match its.toList with
      | [.int a _, .int b _] => decide (a = i) && decide (b = j)
      | _ => false)
    | _ => false
  | _ => false
noncomputable def tblB (K : PySem.W.Frag) (a : Addr) (p q r s : Int) : Bool := match K.lookup a with
  | some ⟨.type c, _, .seq its _, _⟩ => decide (c = "tuple") && (match its.toList with
    | [x, y] => rowB K x p q && rowB K y r s
    | _ => false)
  | _ => false
end Bc
namespace LwH
open PySem PySem.Spec PyProof.Rows L2 Bc
noncomputable def top (i : Nat) : Stmt := PySem.Challenge.pw_baseclash_k30_sets_of_classes.main.body.getD i (.Pass ⟨0, 0, 0, 0⟩)
noncomputable abbrev s_isint : Stmt := (top 7)
noncomputable abbrev s_raised : Stmt := (top 8)
noncomputable abbrev s_gcd : Stmt := (top 9)
noncomputable abbrev s_prime : Stmt := (top 12)
noncomputable abbrev s_isfac : Stmt := (top 14)
noncomputable abbrev s_reqmod : Stmt := (top 16)
noncomputable abbrev s_mixed : Stmt := (top 54)
noncomputable abbrev s_purse : Stmt := (top 55)
noncomputable abbrev s_draw : Stmt := (top 56)
noncomputable abbrev s_belowat : Stmt := (top 29)
noncomputable abbrev s_countb : Stmt := (top 24)
noncomputable abbrev s_memat : Stmt := (top 25)
noncomputable abbrev s_holds : Stmt := (top 41)
noncomputable abbrev s_spread : Stmt := (top 39)
noncomputable abbrev s_sizeof : Stmt := (top 40)
noncomputable abbrev s_firstrows : Stmt := (top 28)
noncomputable abbrev s_figuresof : Stmt := (top 27)
noncomputable abbrev s_figsat : Stmt := (top 30)
noncomputable abbrev s_pairsbelow : Stmt := (top 33)
noncomputable abbrev s_metpairs : Stmt := (top 34)
noncomputable abbrev s_usual : Stmt := (top 31)
noncomputable abbrev s_maderow : Stmt := (top 32)
noncomputable abbrev s_rowat : Stmt := (top 35)
noncomputable abbrev s_settled : Stmt := (top 37)
noncomputable abbrev s_classrows : Stmt := (top 38)
noncomputable abbrev s_together : Stmt := (top 36)
noncomputable abbrev s_iscls : Stmt := (top 48)
noncomputable abbrev s_reqcls : Stmt := (top 49)
noncomputable abbrev s_merged : Stmt := (top 50)
noncomputable abbrev s_inverse : Stmt := (top 10)
noncomputable abbrev s_led : Stmt := (top 11)
noncomputable abbrev s_withfig : Stmt := (top 20)
noncomputable abbrev s_withall : Stmt := (top 21)
noncomputable abbrev s_byeach : Stmt := (top 22)
noncomputable abbrev s_sigcls : Stmt := (top 23)
noncomputable abbrev s_balls : Stmt := (top 58)
noncomputable abbrev s_membs : Stmt := (top 59)
noncomputable abbrev s_ordr : Stmt := (top 60)
noncomputable abbrev s_right : Stmt := (top 61)
noncomputable abbrev s_modinit : Stmt := (inClass (top 15) 0)
noncomputable abbrev s_eqmd : Stmt := (inClass (top 15) 1)
noncomputable abbrev s_rwinit : Stmt := (inClass (top 47) 0)
noncomputable abbrev s_bsinit : Stmt := (inClass (top 51) 0)
noncomputable abbrev s_bssig : Stmt := (inClass (top 51) 1)
noncomputable abbrev s_bsbelow : Stmt := (inClass (top 51) 2)
noncomputable abbrev s_bsnth : Stmt := (inClass (top 51) 3)
noncomputable abbrev s_bsfrm : Stmt := (inClass (top 51) 4)
noncomputable abbrev s_bshas : Stmt := (inClass (top 51) 5)
noncomputable abbrev s_eqbs : Stmt := (inClass (top 51) 6)
noncomputable abbrev s_law : Stmt := (top 62)
noncomputable def hdNames0 : List Str := [(PySem.Str.ofString "BaseClashError"), (PySem.Str.ofString "InvalidNumber"), (PySem.Str.ofString "InvalidModulus"), (PySem.Str.ofString "InvalidClasses"), (PySem.Str.ofString "UnlikeModuli"), (PySem.Str.ofString "is_integer"), (PySem.Str.ofString "raised"), (PySem.Str.ofString "common_divisor"), (PySem.Str.ofString "inverse"), (PySem.Str.ofString "led_together"), (PySem.Str.ofString "is_prime_number"), (PySem.Str.ofString "is_factor"), (PySem.Str.ofString "Modulus"), (PySem.Str.ofString "require_modulus"), (PySem.Str.ofString "NONE"), (PySem.Str.ofString "EVERY"), (PySem.Str.ofString "with_figure"), (PySem.Str.ofString "with_all_figures"), (PySem.Str.ofString "by_each_figure"), (PySem.Str.ofString "signed_classes"), (PySem.Str.ofString "count_below"), (PySem.Str.ofString "member_at"), (PySem.Str.ofString "figures_of"), (PySem.Str.ofString "first_rows"), (PySem.Str.ofString "below_at"), (PySem.Str.ofString "figures_at"), (PySem.Str.ofString "usual"), (PySem.Str.ofString "made_row"), (PySem.Str.ofString "pairs_below"), (PySem.Str.ofString "met_pairs")]
noncomputable def hdNames1 : List Str := [(PySem.Str.ofString "row_at"), (PySem.Str.ofString "together"), (PySem.Str.ofString "settled"), (PySem.Str.ofString "class_rows"), (PySem.Str.ofString "spread"), (PySem.Str.ofString "size_of"), (PySem.Str.ofString "holds"), (PySem.Str.ofString "EITHER"), (PySem.Str.ofString "BOTH"), (PySem.Str.ofString "ALONE"), (PySem.Str.ofString "JUST_ONE"), (PySem.Str.ofString "Rows"), (PySem.Str.ofString "is_class"), (PySem.Str.ofString "require_classes"), (PySem.Str.ofString "merged_rows"), (PySem.Str.ofString "Bases"), (PySem.Str.ofString "led"), (PySem.Str.ofString "_law_mixed"), (PySem.Str.ofString "_law_purse"), (PySem.Str.ofString "_law_draw"), (PySem.Str.ofString "_law_size"), (PySem.Str.ofString "_law_balls"), (PySem.Str.ofString "_law_members"), (PySem.Str.ofString "_law_order_right"), (PySem.Str.ofString "_law_right")]
noncomputable def hdNames : List Str := hdNames0 ++ hdNames1
noncomputable def dd1 : He.DefD := ⟨("is_integer", none), "is_integer", "is_integer", defArgs s_isint, defBody s_isint, defScope s_isint, [], []⟩
noncomputable def dd2 : He.DefD := ⟨("raised", none), "raised", "raised", defArgs s_raised, defBody s_raised, defScope s_raised, [], []⟩
noncomputable def dd3 : He.DefD := ⟨("common_divisor", none), "common_divisor", "common_divisor", defArgs s_gcd, defBody s_gcd, defScope s_gcd, [], []⟩
noncomputable def dd4 : He.DefD := ⟨("is_prime_number", none), "is_prime_number", "is_prime_number", defArgs s_prime, defBody s_prime, defScope s_prime, [], []⟩
noncomputable def dd5 : He.DefD := ⟨("is_factor", none), "is_factor", "is_factor", defArgs s_isfac, defBody s_isfac, defScope s_isfac, [], []⟩
noncomputable def dd6 : He.DefD := ⟨("require_modulus", none), "require_modulus", "require_modulus", defArgs s_reqmod, defBody s_reqmod, defScope s_reqmod, [], []⟩
noncomputable def dd7 : He.DefD := ⟨("_law_mixed", none), "_law_mixed", "_law_mixed", defArgs s_mixed, defBody s_mixed, defScope s_mixed, [], []⟩
noncomputable def dd8 : He.DefD := ⟨("_law_purse", none), "_law_purse", "_law_purse", defArgs s_purse, defBody s_purse, defScope s_purse, [], []⟩
noncomputable def dd9 : He.DefD := ⟨("_law_draw", none), "_law_draw", "_law_draw", defArgs s_draw, defBody s_draw, defScope s_draw, [], []⟩
noncomputable def dd10 : He.DefD := ⟨("below_at", none), "below_at", "below_at", defArgs s_belowat, defBody s_belowat, defScope s_belowat, [], []⟩
noncomputable def dd11 : He.DefD := ⟨("count_below", none), "count_below", "count_below", defArgs s_countb, defBody s_countb, defScope s_countb, [], []⟩
noncomputable def dd12 : He.DefD := ⟨("member_at", none), "member_at", "member_at", defArgs s_memat, defBody s_memat, defScope s_memat, [], []⟩
noncomputable def dd13 : He.DefD := ⟨("holds", none), "holds", "holds", defArgs s_holds, defBody s_holds, defScope s_holds, [], []⟩
noncomputable def dd14 : He.DefD := ⟨("spread", none), "spread", "spread", defArgs s_spread, defBody s_spread, defScope s_spread, [], []⟩
noncomputable def dd15 : He.DefD := ⟨("size_of", none), "size_of", "size_of", defArgs s_sizeof, defBody s_sizeof, defScope s_sizeof, [], []⟩
noncomputable def dd16 : He.DefD := ⟨("first_rows", none), "first_rows", "first_rows", defArgs s_firstrows, defBody s_firstrows, defScope s_firstrows, [], []⟩
noncomputable def dd17 : He.DefD := ⟨("figures_of", none), "figures_of", "figures_of", defArgs s_figuresof, defBody s_figuresof, defScope s_figuresof, [], []⟩
noncomputable def dd18 : He.DefD := ⟨("figures_at", none), "figures_at", "figures_at", defArgs s_figsat, defBody s_figsat, defScope s_figsat, [], []⟩
noncomputable def dd19 : He.DefD := ⟨("pairs_below", none), "pairs_below", "pairs_below", defArgs s_pairsbelow, defBody s_pairsbelow, defScope s_pairsbelow, [], []⟩
noncomputable def dd20 : He.DefD := ⟨("met_pairs", none), "met_pairs", "met_pairs", defArgs s_metpairs, defBody s_metpairs, defScope s_metpairs, [], []⟩
noncomputable def dd21 : He.DefD := ⟨("usual", none), "usual", "usual", defArgs s_usual, defBody s_usual, defScope s_usual, [], []⟩
noncomputable def dd22 : He.DefD := ⟨("made_row", none), "made_row", "made_row", defArgs s_maderow, defBody s_maderow, defScope s_maderow, [], []⟩
noncomputable def dd23 : He.DefD := ⟨("row_at", none), "row_at", "row_at", defArgs s_rowat, defBody s_rowat, defScope s_rowat, [], []⟩
noncomputable def dd24 : He.DefD := ⟨("settled", none), "settled", "settled", defArgs s_settled, defBody s_settled, defScope s_settled, [], []⟩
noncomputable def dd25 : He.DefD := ⟨("class_rows", none), "class_rows", "class_rows", defArgs s_classrows, defBody s_classrows, defScope s_classrows, [], []⟩
noncomputable def dd26 : He.DefD := ⟨("together", none), "together", "together", defArgs s_together, defBody s_together, defScope s_together, [], []⟩
noncomputable def dd27 : He.DefD := ⟨("is_class", none), "is_class", "is_class", defArgs s_iscls, defBody s_iscls, defScope s_iscls, [], []⟩
noncomputable def dd28 : He.DefD := ⟨("require_classes", none), "require_classes", "require_classes", defArgs s_reqcls, defBody s_reqcls, defScope s_reqcls, [], []⟩
noncomputable def dd29 : He.DefD := ⟨("merged_rows", none), "merged_rows", "merged_rows", defArgs s_merged, defBody s_merged, defScope s_merged, [], []⟩
noncomputable def dd30 : He.DefD := ⟨("inverse", none), "inverse", "inverse", defArgs s_inverse, defBody s_inverse, defScope s_inverse, [], []⟩
noncomputable def dd31 : He.DefD := ⟨("led_together", none), "led_together", "led_together", defArgs s_led, defBody s_led, defScope s_led, [], []⟩
noncomputable def dd32 : He.DefD := ⟨("with_figure", none), "with_figure", "with_figure", defArgs s_withfig, defBody s_withfig, defScope s_withfig, [], []⟩
noncomputable def dd33 : He.DefD := ⟨("with_all_figures", none), "with_all_figures", "with_all_figures", defArgs s_withall, defBody s_withall, defScope s_withall, [], []⟩
noncomputable def dd34 : He.DefD := ⟨("by_each_figure", none), "by_each_figure", "by_each_figure", defArgs s_byeach, defBody s_byeach, defScope s_byeach, [], []⟩
noncomputable def dd35 : He.DefD := ⟨("signed_classes", none), "signed_classes", "signed_classes", defArgs s_sigcls, defBody s_sigcls, defScope s_sigcls, [], []⟩
noncomputable def dd36 : He.DefD := ⟨("_law_balls", none), "_law_balls", "_law_balls", defArgs s_balls, defBody s_balls, defScope s_balls, [], []⟩
noncomputable def dd37 : He.DefD := ⟨("_law_members", none), "_law_members", "_law_members", defArgs s_membs, defBody s_membs, defScope s_membs, [], []⟩
noncomputable def dd38 : He.DefD := ⟨("_law_order_right", none), "_law_order_right", "_law_order_right", defArgs s_ordr, defBody s_ordr, defScope s_ordr, [], []⟩
noncomputable def dd39 : He.DefD := ⟨("_law_right", none), "_law_right", "_law_right", defArgs s_right, defBody s_right, defScope s_right, [], []⟩
noncomputable def dd40 : He.DefD := ⟨("Modulus", some "__init__"), "__init__", "Modulus.__init__", defArgs s_modinit, defBody s_modinit, defScope s_modinit, [], []⟩
noncomputable def dd41 : He.DefD := ⟨("Modulus", some "__eq__"), "__eq__", "Modulus.__eq__", defArgs s_eqmd, defBody s_eqmd, defScope s_eqmd, [], []⟩
noncomputable def dd42 : He.DefD := ⟨("Rows", some "__init__"), "__init__", "Rows.__init__", defArgs s_rwinit, defBody s_rwinit, defScope s_rwinit, [], []⟩
noncomputable def dd43 : He.DefD := ⟨("Bases", some "__init__"), "__init__", "Bases.__init__", defArgs s_bsinit, defBody s_bsinit, defScope s_bsinit, [], []⟩
noncomputable def dd44 : He.DefD := ⟨("Bases", some "signed"), "signed", "Bases.signed", defArgs s_bssig, defBody s_bssig, defScope s_bssig, [], []⟩
noncomputable def dd45 : He.DefD := ⟨("Bases", some "below"), "below", "Bases.below", defArgs s_bsbelow, defBody s_bsbelow, defScope s_bsbelow, [], []⟩
noncomputable def dd46 : He.DefD := ⟨("Bases", some "nth"), "nth", "Bases.nth", defArgs s_bsnth, defBody s_bsnth, defScope s_bsnth, [], []⟩
noncomputable def dd47 : He.DefD := ⟨("Bases", some "first_from"), "first_from", "Bases.first_from", defArgs s_bsfrm, defBody s_bsfrm, defScope s_bsfrm, [], []⟩
noncomputable def dd48 : He.DefD := ⟨("Bases", some "__contains__"), "__contains__", "Bases.__contains__", defArgs s_bshas, defBody s_bshas, defScope s_bshas, [], []⟩
noncomputable def dd49 : He.DefD := ⟨("Bases", some "__eq__"), "__eq__", "Bases.__eq__", defArgs s_eqbs, defBody s_eqbs, defScope s_eqbs, [], []⟩
noncomputable def dd50 : He.DefD := ⟨("law", none), "law", "law", defArgs s_law, defBody s_law, defScope s_law, [], []⟩
noncomputable def hdFn0 : List He.DefD := [dd1, dd2, dd3, dd4, dd5, dd6, dd7, dd8, dd9, dd10, dd11, dd12, dd13, dd14, dd15, dd16, dd17, dd18, dd19, dd20, dd21, dd22, dd23, dd24, dd25, dd26, dd27, dd28, dd29, dd30]
noncomputable def hdFn1 : List He.DefD := [dd31, dd32, dd33, dd34, dd35, dd36, dd37, dd38, dd39, dd40, dd41, dd42, dd43, dd44, dd45, dd46, dd47, dd48, dd49, dd50]
noncomputable def hdFn : List He.DefD := hdFn0 ++ hdFn1
noncomputable def hdE0 (K : PySem.W.Frag) : Bool := decide (PySem.W.nsIn K mainGlobals "len" = some none) && (decide (PySem.W.nsIn K mainGlobals "int" = some none) && (decide (PySem.W.nsIn K mainGlobals "abs" = some none) && (decide (PySem.W.nsIn K mainGlobals "max" = some none) && (decide (PySem.W.nsIn K mainGlobals "min" = some none) && (decide (PySem.W.nsIn K mainGlobals "range" = some none) && (decide (PySem.W.nsIn K mainGlobals "isinstance" = some none) && (decide (PySem.W.nsIn K mainGlobals "list" = some none) && (decide (PySem.W.nsIn K mainGlobals "tuple" = some none) && (decide (PySem.W.nsIn K mainGlobals "str" = some none) && (decide (PySem.W.nsIn K mainGlobals "bool" = some none) && (decide (PySem.W.nsIn K mainGlobals "ord" = some none) && (decide (PySem.W.nsIn K mainGlobals "all" = some none) && (decide (PySem.W.nsIn K mainGlobals "enumerate" = some none) && (decide (PySem.W.nsIn K mainGlobals "zip" = some none) && (decide (PySem.W.nsIn K mainGlobals "sorted" = some none) && (decide (PySem.W.nsIn K mainGlobals "set" = some none) && (decide (PySem.W.nsIn K mainGlobals "dict" = some none) && (decide (PySem.W.nsIn K mainGlobals "reversed" = some none) && (decide (PySem.W.nsIn K mainGlobals "Modulus" = some (some (.ref (He.ga K "Modulus")))))))))))))))))))))))
noncomputable def hdE1 (K : PySem.W.Frag) : Bool := decide (PySem.W.plainGet K (He.ga K "Modulus") Str.empty = true) && (decide (PySem.W.hasDictIn K (He.ga K "Modulus") = true) && (decide (PySem.W.plainOver K (He.ga K "Modulus") = true) && (decide (PySem.W.findIn K (.ref (He.ga K "Modulus")) "__setattr__" = some (some (.builtin "object.__setattr__"))) && (decide (PySem.W.findIn K (.ref (He.ga K "Modulus")) "__class__" = some (some (.builtin "object.__class__"))) && (decide (PySem.W.mroIn K (He.ga K "Modulus") (.type "object") = some true) && (decide (PySem.W.makesIn K (He.ga K "Modulus") = true) && (decide (PySem.W.keepIn K (.ref (He.ga K "Modulus")) = true) && (decide (PySem.W.specialIn K (.builtin "object.__class__") "__get__" = some (some (.builtin "getset_descriptor.__get__"))) && (decide (PySem.W.takesIn K (.builtin "object.__class__") = some true) && (decide (PySem.W.nsIn K mainGlobals "Bases" = some (some (.ref (He.ga K "Bases")))) && (decide (PySem.W.plainGet K (He.ga K "Bases") Str.empty = true) && (decide (PySem.W.hasDictIn K (He.ga K "Bases") = true) && (decide (PySem.W.plainOver K (He.ga K "Bases") = true) && (decide (PySem.W.findIn K (.ref (He.ga K "Bases")) "__setattr__" = some (some (.builtin "object.__setattr__"))) && (decide (PySem.W.findIn K (.ref (He.ga K "Bases")) "__class__" = some (some (.builtin "object.__class__"))) && (decide (PySem.W.mroIn K (He.ga K "Bases") (.type "object") = some true) && (decide (PySem.W.makesIn K (He.ga K "Bases") = true) && (decide (PySem.W.keepIn K (.ref (He.ga K "Bases")) = true) && (decide (PySem.W.nsIn K mainGlobals "Rows" = some (some (.ref (He.ga K "Rows")))))))))))))))))))))))
noncomputable def hdE2 (K : PySem.W.Frag) : Bool := decide (PySem.W.plainGet K (He.ga K "Rows") Str.empty = true) && (decide (PySem.W.hasDictIn K (He.ga K "Rows") = true) && (decide (PySem.W.plainOver K (He.ga K "Rows") = true) && (decide (PySem.W.findIn K (.ref (He.ga K "Rows")) "__setattr__" = some (some (.builtin "object.__setattr__"))) && (decide (PySem.W.findIn K (.ref (He.ga K "Rows")) "__class__" = some (some (.builtin "object.__class__"))) && (decide (PySem.W.mroIn K (He.ga K "Rows") (.type "object") = some true) && (decide (PySem.W.makesIn K (He.ga K "Rows") = true) && (decide (PySem.W.keepIn K (.ref (He.ga K "Rows")) = true) && (decide (PySem.W.findIn K (.ref (He.ga K "Modulus")) "number" = some none) && (decide (PySem.W.findIn K (.ref (He.ga K "Modulus")) "factors" = some none) && (decide (PySem.W.findIn K (.ref (He.ga K "Modulus")) "low" = some none) && (decide (PySem.W.findIn K (.ref (He.ga K "Modulus")) "shift" = some none) && (decide (PySem.W.findIn K (.ref (He.ga K "Modulus")) "lead" = some none) && (decide (PySem.W.findIn K (.ref (He.ga K "Modulus")) "marking" = some none) && (decide (PySem.W.findIn K (.ref (He.ga K "Modulus")) "modulus" = some none) && (decide (PySem.W.findIn K (.ref (He.ga K "Modulus")) "base" = some none) && (decide (PySem.W.findIn K (.ref (He.ga K "Bases")) "modulus" = some none) && (decide (PySem.W.findIn K (.ref (He.ga K "Bases")) "figures" = some none) && (decide (PySem.W.findIn K (.ref (He.ga K "Bases")) "rows" = some none) && (decide (PySem.W.findIn K (.ref (He.ga K "Bases")) "root" = some none))))))))))))))))))))
noncomputable def hdE3 (K : PySem.W.Frag) : Bool := decide (PySem.W.findIn K (.ref (He.ga K "Bases")) "size" = some none) && (decide (PySem.W.isClsIn K (He.ga K "Rows") = true) && (decide (PySem.W.typeIn K (.ref (He.ga K "Rows")) = some (.type "type")) && (decide (PySem.W.subIn K (.type "list") (.ref (He.ga K "Rows")) = some false) && (decide (PySem.W.subIn K (.type "tuple") (.ref (He.ga K "Rows")) = some false) && (decide (PySem.W.findIn K (.ref (He.ga K "Rows")) "rows" = some none) && (decide (PySem.W.findIn K (.ref (He.ga K "Rows")) "root" = some none) && (decide (PySem.W.subIn K (.ref (He.ga K "Modulus")) (.type "int") = some false) && (decide (PySem.W.subIn K (.ref (He.ga K "Modulus")) (.type "bool") = some false) && (glB K "NONE" 0 && (glB K "EVERY" 1 && (decide (PySem.W.nsIn K mainGlobals "EITHER" = some (some (.ref (He.ga K "EITHER")))) && (tblB K (He.ga K "EITHER") 0 1 1 1 && (decide (PySem.W.findIn K (.ref (He.ga K "Modulus")) "__ne__" = some (some (.builtin "object.__ne__"))) && (decide (PySem.W.findIn K (.ref (He.ga K "Bases")) "__ne__" = some (some (.builtin "object.__ne__"))) && (decide (PySem.W.nsIn K mainGlobals "is_integer" = some (some (.ref (He.fAd K ("is_integer", none))))) && (decide (PySem.W.nsIn K mainGlobals "raised" = some (some (.ref (He.fAd K ("raised", none))))) && (decide (PySem.W.nsIn K mainGlobals "common_divisor" = some (some (.ref (He.fAd K ("common_divisor", none))))) && (decide (PySem.W.nsIn K mainGlobals "is_prime_number" = some (some (.ref (He.fAd K ("is_prime_number", none))))) && (decide (PySem.W.nsIn K mainGlobals "is_factor" = some (some (.ref (He.fAd K ("is_factor", none))))))))))))))))))))))))
noncomputable def hdE4 (K : PySem.W.Frag) : Bool := decide (PySem.W.nsIn K mainGlobals "require_modulus" = some (some (.ref (He.fAd K ("require_modulus", none))))) && (decide (PySem.W.nsIn K mainGlobals "_law_mixed" = some (some (.ref (He.fAd K ("_law_mixed", none))))) && (decide (PySem.W.nsIn K mainGlobals "_law_purse" = some (some (.ref (He.fAd K ("_law_purse", none))))) && (decide (PySem.W.nsIn K mainGlobals "_law_draw" = some (some (.ref (He.fAd K ("_law_draw", none))))) && (decide (PySem.W.nsIn K mainGlobals "below_at" = some (some (.ref (He.fAd K ("below_at", none))))) && (decide (PySem.W.nsIn K mainGlobals "count_below" = some (some (.ref (He.fAd K ("count_below", none))))) && (decide (PySem.W.nsIn K mainGlobals "member_at" = some (some (.ref (He.fAd K ("member_at", none))))) && (decide (PySem.W.nsIn K mainGlobals "holds" = some (some (.ref (He.fAd K ("holds", none))))) && (decide (PySem.W.nsIn K mainGlobals "spread" = some (some (.ref (He.fAd K ("spread", none))))) && (decide (PySem.W.nsIn K mainGlobals "size_of" = some (some (.ref (He.fAd K ("size_of", none))))) && (decide (PySem.W.nsIn K mainGlobals "first_rows" = some (some (.ref (He.fAd K ("first_rows", none))))) && (decide (PySem.W.nsIn K mainGlobals "figures_of" = some (some (.ref (He.fAd K ("figures_of", none))))) && (decide (PySem.W.nsIn K mainGlobals "figures_at" = some (some (.ref (He.fAd K ("figures_at", none))))) && (decide (PySem.W.nsIn K mainGlobals "pairs_below" = some (some (.ref (He.fAd K ("pairs_below", none))))) && (decide (PySem.W.nsIn K mainGlobals "met_pairs" = some (some (.ref (He.fAd K ("met_pairs", none))))) && (decide (PySem.W.nsIn K mainGlobals "usual" = some (some (.ref (He.fAd K ("usual", none))))) && (decide (PySem.W.nsIn K mainGlobals "made_row" = some (some (.ref (He.fAd K ("made_row", none))))) && (decide (PySem.W.nsIn K mainGlobals "row_at" = some (some (.ref (He.fAd K ("row_at", none))))) && (decide (PySem.W.nsIn K mainGlobals "settled" = some (some (.ref (He.fAd K ("settled", none))))) && (decide (PySem.W.nsIn K mainGlobals "class_rows" = some (some (.ref (He.fAd K ("class_rows", none))))))))))))))))))))))))
noncomputable def hdE5 (K : PySem.W.Frag) : Bool := decide (PySem.W.nsIn K mainGlobals "together" = some (some (.ref (He.fAd K ("together", none))))) && (decide (PySem.W.nsIn K mainGlobals "is_class" = some (some (.ref (He.fAd K ("is_class", none))))) && (decide (PySem.W.nsIn K mainGlobals "require_classes" = some (some (.ref (He.fAd K ("require_classes", none))))) && (decide (PySem.W.nsIn K mainGlobals "merged_rows" = some (some (.ref (He.fAd K ("merged_rows", none))))) && (decide (PySem.W.nsIn K mainGlobals "inverse" = some (some (.ref (He.fAd K ("inverse", none))))) && (decide (PySem.W.nsIn K mainGlobals "led_together" = some (some (.ref (He.fAd K ("led_together", none))))) && (decide (PySem.W.nsIn K mainGlobals "with_figure" = some (some (.ref (He.fAd K ("with_figure", none))))) && (decide (PySem.W.nsIn K mainGlobals "with_all_figures" = some (some (.ref (He.fAd K ("with_all_figures", none))))) && (decide (PySem.W.nsIn K mainGlobals "by_each_figure" = some (some (.ref (He.fAd K ("by_each_figure", none))))) && (decide (PySem.W.nsIn K mainGlobals "signed_classes" = some (some (.ref (He.fAd K ("signed_classes", none))))) && (decide (PySem.W.nsIn K mainGlobals "_law_balls" = some (some (.ref (He.fAd K ("_law_balls", none))))) && (decide (PySem.W.nsIn K mainGlobals "_law_members" = some (some (.ref (He.fAd K ("_law_members", none))))) && (decide (PySem.W.nsIn K mainGlobals "_law_order_right" = some (some (.ref (He.fAd K ("_law_order_right", none))))) && (decide (PySem.W.nsIn K mainGlobals "_law_right" = some (some (.ref (He.fAd K ("_law_right", none))))) && (decide (PySem.W.findIn K (.ref (He.ga K "Modulus")) "__init__" = some (some (.ref (He.fAd K ("Modulus", some "__init__"))))) && (decide (PySem.W.isFn K (.ref (He.fAd K ("Modulus", some "__init__"))) = true) && (decide (PySem.W.findIn K (.ref (He.ga K "Modulus")) "__eq__" = some (some (.ref (He.fAd K ("Modulus", some "__eq__"))))) && (decide (PySem.W.isFn K (.ref (He.fAd K ("Modulus", some "__eq__"))) = true) && (decide (PySem.W.findIn K (.ref (He.ga K "Rows")) "__init__" = some (some (.ref (He.fAd K ("Rows", some "__init__"))))) && (decide (PySem.W.isFn K (.ref (He.fAd K ("Rows", some "__init__"))) = true))))))))))))))))))))
noncomputable def hdE6 (K : PySem.W.Frag) : Bool := decide (PySem.W.findIn K (.ref (He.ga K "Bases")) "__init__" = some (some (.ref (He.fAd K ("Bases", some "__init__"))))) && (decide (PySem.W.isFn K (.ref (He.fAd K ("Bases", some "__init__"))) = true) && (decide (PySem.W.findIn K (.ref (He.ga K "Bases")) "signed" = some (some (.ref (He.fAd K ("Bases", some "signed"))))) && (decide (PySem.W.isFn K (.ref (He.fAd K ("Bases", some "signed"))) = true) && (decide (PySem.W.findIn K (.ref (He.ga K "Bases")) "below" = some (some (.ref (He.fAd K ("Bases", some "below"))))) && (decide (PySem.W.isFn K (.ref (He.fAd K ("Bases", some "below"))) = true) && (decide (PySem.W.findIn K (.ref (He.ga K "Bases")) "nth" = some (some (.ref (He.fAd K ("Bases", some "nth"))))) && (decide (PySem.W.isFn K (.ref (He.fAd K ("Bases", some "nth"))) = true) && (decide (PySem.W.findIn K (.ref (He.ga K "Bases")) "first_from" = some (some (.ref (He.fAd K ("Bases", some "first_from"))))) && (decide (PySem.W.isFn K (.ref (He.fAd K ("Bases", some "first_from"))) = true) && (decide (PySem.W.findIn K (.ref (He.ga K "Bases")) "__contains__" = some (some (.ref (He.fAd K ("Bases", some "__contains__"))))) && (decide (PySem.W.isFn K (.ref (He.fAd K ("Bases", some "__contains__"))) = true) && (decide (PySem.W.findIn K (.ref (He.ga K "Bases")) "__eq__" = some (some (.ref (He.fAd K ("Bases", some "__eq__"))))) && (decide (PySem.W.isFn K (.ref (He.fAd K ("Bases", some "__eq__"))) = true) && (decide (PySem.W.nsIn K mainGlobals "law" = some (some (.ref (He.fAd K ("law", none)))))))))))))))))))
noncomputable def hdEx (K : PySem.W.Frag) : Bool := hdE0 K && (hdE1 K && (hdE2 K && (hdE3 K && (hdE4 K && (hdE5 K && (hdE6 K))))))
theorem hdRun (w : World) : HandSHeadRun.RunEq (PySem.W.OpenLaw.row PySem.Challenge.rw_baseclash_k30_sets_of_classes) (PySem.W.view (PySem.W.OpenLaw.row PySem.Challenge.rw_baseclash_k30_sets_of_classes).prog [62]) (hookX 4 hdEx hdFn) (obX 4 hdEx hdFn) 60000 hdNames w := by
  intro os
  kernel_rfl
end LwH
namespace Bc
open PySem PySem.Spec PyProof.Rows L2
section
variable {X : Cx}
noncomputable def rLen (K : PySem.W.Frag) : List V → Hp → VK → Prop := fun xs H Q => ∃ p ys, xs = [.ref p] ∧ (SqL K H p ys ∨ SqT K H p ys) ∧ Q (.int ys.length) H
theorem cLen : CallR X (.builtin "len") (rLen X.K) := call_len_seq
noncomputable def rAbs : List V → Hp → VK → Prop := fun xs H Q => ∃ i, xs = [.int i] ∧ Q (.int (if i < 0 then -i else i)) H
theorem cAbs : CallR X (.builtin "abs") rAbs := call_abs
noncomputable def rMax2 : List V → Hp → VK → Prop := fun xs H Q => ∃ i j, xs = [.int i, .int j] ∧ Q (.int (if j > i then j else i)) H
theorem cMax2 (hc : X.calm = true) : CallR X (.builtin "max") rMax2 := call_max2 hc
noncomputable def rMin2 : List V → Hp → VK → Prop := fun xs H Q => ∃ i j, xs = [.int i, .int j] ∧ Q (.int (if j < i then j else i)) H
theorem cMin2 (hc : X.calm = true) : CallR X (.builtin "min") rMin2 := call_min2 hc
noncomputable def rInt1 : List V → Hp → VK → Prop := fun xs H Q => (∃ i, xs = [.int i] ∧ Q (.int i) H) ∨ ∃ k, xs = [.bl k] ∧ Q (.int (if k then 1 else 0)) H
theorem cInt1 : CallR X (.type "int") rInt1 := call_int1
noncomputable def rOrd : List V → Hp → VK → Prop := fun xs H Q => ∃ x, xs = [.str x] ∧ x.length = 1 ∧ Q (.int (x.cps.getD 0 0 : Nat)) H
noncomputable def rListOf (K : PySem.W.Frag) : List V → Hp → VK → Prop := fun xs H Q => ∃ p ys, xs = [.ref p] ∧ (SqL K H p ys ∨ SqT K H p ys) ∧ ∀ l, H l = none → Q (.ref l) (upd H l (.lst ys))
theorem cListOf : CallR X (.type "list") (rListOf X.K) := call_list_of
noncomputable def rTupOf (K : PySem.W.Frag) : List V → Hp → VK → Prop := fun xs H Q => ∃ p ys, xs = [.ref p] ∧ ((SqL K H p ys ∧ ∀ l, H l = none → Q (.ref l) (upd H l (.tup ys))) ∨ (SqT K H p ys ∧ Q (.ref p) H))
theorem cTupOf : CallR X (.type "tuple") (rTupOf X.K) := call_tuple_of
noncomputable def rLeS : R2 := fun x y H Q => ∃ i j, x = .str i ∧ y = .str j ∧ Q (.bl (!decide (j.cps.toList < i.cps.toList))) H
noncomputable def CPowW (i j : Int) : Prop := 0 ≤ j ∧ (Builtin.Int.intBits i : Int) * j ≤ 2 ^ 27
theorem oPowW : OpR X (binaryOp .Pow) (rI CPowW fun i j => .int (i ^ j.toNat)) := opI fun _ _ _ _ _ _ _ hc q => PyProof.Rows.pow_int hc.1 hc.2 q
end
section
variable {σ : L2.St} {H : Hp} {D : Ends} {Q : VK} {QT : Bool → Hp → Prop} {QA : List V → Hp → Prop} {K : PySem.W.Frag} {te ta tb tc : TE} {t u : TS} {tt tu : TT} {as : TA} {i j : Nat} {v x y : V} {a b n m : Int}
/-- a continuation kept apart -/
noncomputable def atV (Q : VK) (v : V) (H : Hp) : Prop := Q v H
theorem w_atV (q : Q v H) : atV Q v H := q
theorem w_var (h : σ[i]? = some (some v)) (q : Q v H) : tVar i σ H Q := ⟨v, h, q⟩
theorem w_c (q : Q v H) : tC v σ H Q := q
theorem w_op {r : R2} (q : ta σ H fun x H1 => tb σ H1 fun y H2 => r x y H2 Q) : tOp r ta tb σ H Q := q
theorem w_un {r : V → Hp → VK → Prop} (q : ta σ H fun x H1 => r x H1 Q) : tUn r ta σ H Q := q
theorem w_cb {r : List V → Hp → VK → Prop} (q : as σ H fun vs H1 => r vs H1 Q) : tCB r as σ H Q := q
theorem w_cons {tr : TA} (q : ta σ H fun x H1 => tr σ H1 fun xs H2 => QA (x :: xs) H2) : tCons ta tr σ H QA := q
theorem w_nil (q : QA [] H) : tNil σ H QA := q
theorem w_seq (q : t { D with nx := u D } σ H) : tSeq t u D σ H := q
theorem w_set (q : te σ H fun x H1 => D.nx (σ.set i (some x)) H1) : tAsg te (gName i) D σ H := q
theorem w_asg {g : TG} (q : te σ H fun x H1 => g x σ H1 D.nx) : tAsg te g D σ H := q
theorem w_name {Qs : L2.St → Hp → Prop} (q : Qs (σ.set i (some v)) H) : gName i v σ H Qs := q
theorem w_par (q : as σ H fun vs H1 => ∃ v w, vs = [v, w] ∧ D.nx ((σ.set i (some v)).set j (some w)) H1) : tPar i j as D σ H := q
theorem w_par2 {p q : V} {P : V → V → Prop} (h : P p q) : ∃ v w, [p, q] = [v, w] ∧ P v w := ⟨p, q, rfl, h⟩
theorem w_aug {ti : TIp} (h : σ[i]? = some (some v)) (q : te σ H fun y H1 => ti v y H1 fun z H2 => D.nx (σ.set i (some z)) H2) : tAug i te ti D σ H := ⟨v, h, q⟩
theorem w_ipI {f : Int → Int → Int} (q : Q (.int (f a b)) H) : ipI f (.int a) (.int b) H Q := ⟨a, b, rfl, rfl, q⟩
theorem w_drop (q : te σ H fun _ H1 => D.nx σ H1) : tDrop te D σ H := q
theorem w_ret (q : te σ H D.rt) : tRet te D σ H := q
theorem w_retN (q : D.rt .non H) : tRetN D σ H := q
theorem w_next (q : D.nx σ H) : tNext D σ H := q
theorem w_if {c : TT} (q : c σ H fun b H1 => if b = true then t D σ H1 else u D σ H1) : tIfS c t u D σ H := q
theorem w_test (q : te σ H fun x H' => ∃ k, x = .bl k ∧ QT k H') : tTest te σ H QT := q
theorem w_tB (q : te σ H fun x H' => ∃ k, x = .bl k ∧ QT k H') : tB te σ H QT := q
theorem w_bl {k : Bool} {P : Bool → Prop} (q : P k) : ∃ c, V.bl k = .bl c ∧ P c := ⟨k, rfl, q⟩
theorem w_and (q : tt σ H fun c H1 => if c = true then tu σ H1 QT else QT false H1) : tAnd tt tu σ H QT := q
theorem w_or (q : tt σ H fun c H1 => if c = true then QT true H1 else tu σ H1 QT) : tOr tt tu σ H QT := q
theorem w_not (q : tt σ H fun c H1 => QT (!c) H1) : tNot tt σ H QT := q
theorem w_andV (q : ta σ H fun x H1 => ∃ c, x = .bl c ∧ if c = true then tb σ H1 Q else Q (.bl false) H1) : tAndV ta tb σ H Q := q
theorem w_orV (q : ta σ H fun x H1 => ∃ c, x = .bl c ∧ if c = true then Q (.bl true) H1 else tb σ H1 Q) : tOrV ta tb σ H Q := q
theorem w_notV (q : ta σ H fun x H1 => ∃ c, x = .bl c ∧ Q (.bl (!c)) H1) : tNotV ta σ H Q := q
theorem w_ifE (q : tt σ H fun c H1 => if c = true then ta σ H1 Q else tb σ H1 Q) : tIf tt ta tb σ H Q := q
theorem w_tup (q : as σ H fun xs H1 => xs.length ≤ sizeLine ∧ ∀ p, H1 p = none → atV Q (.ref p) (upd H1 p (.tup xs))) : tTup as σ H Q := q
theorem w_lst (q : as σ H fun xs H1 => xs.length ≤ sizeLine ∧ ∀ p, H1 p = none → atV Q (.ref p) (upd H1 p (.lst xs))) : tLst as σ H Q := q
theorem w_call {sp : Sp} {dvs : List V} {E : XK} (q : as σ H fun vs H1 => sp (vs ++ dvs) H1 Q E) : tCall sp dvs E as σ H Q := q
theorem w_yes (q : QT true H) : tYes σ H QT := q
theorem w_chain {r r' : R2} (q : ta σ H fun x H1 => tb σ H1 fun y H2 => r x y H2 fun z H3 => ∃ k, z = .bl k ∧ (if k = true then tc σ H3 fun w' H4 => r' y w' H4 Q else Q (.bl false) H3)) : tChain r r' ta tb tc σ H Q := q
theorem w_I0 {g : Int → Int → V} (q : Q (g a b) H) : rI0 g (.int a) (.int b) H Q := ⟨a, b, rfl, rfl, q⟩
theorem w_I {C : Int → Int → Prop} {g : Int → Int → V} (c : C a b) (q : Q (g a b) H) : rI C g (.int a) (.int b) H Q := ⟨a, b, rfl, rfl, c, q⟩
theorem w_U {g : Int → V} (q : Q (g a) H) : rU g (.int a) H Q := ⟨a, rfl, q⟩
theorem w_eq (h : scal x y = true) (q : Q (.bl (decide (x = y))) H) : rEq x y H Q := ⟨h, q⟩
theorem w_ne (h : scal x y = true) (q : Q (.bl (!decide (x = y))) H) : rNe x y H Q := ⟨h, q⟩
theorem w_ixL {p : Addr} {xs : List V} (h : SqL K H p xs) (e : atI xs a = some v) (q : Q v H) : rIxL K (.ref p) (.int a) H Q := ⟨p, xs, a, v, rfl, rfl, h, e, q⟩
theorem w_ixT {p : Addr} {xs : List V} (h : SqT K H p xs) (e : atI xs a = some v) (q : Q v H) : rIxT K (.ref p) (.int a) H Q := ⟨p, xs, a, v, rfl, rfl, h, e, q⟩
theorem w_len {p : Addr} {xs : List V} (h : SqL K H p xs) (q : Q (.int xs.length) H) : rLen K [.ref p] H Q := ⟨p, xs, rfl, .inl h, q⟩
theorem w_lenT {p : Addr} {xs : List V} (h : SqT K H p xs) (q : Q (.int xs.length) H) : rLen K [.ref p] H Q := ⟨p, xs, rfl, .inr h, q⟩
theorem w_abs (q : Q (.int (if a < 0 then -a else a)) H) : rAbs [.int a] H Q := ⟨a, rfl, q⟩
theorem w_max2 (q : Q (.int (if b > a then b else a)) H) : rMax2 [.int a, .int b] H Q := ⟨a, b, rfl, q⟩
theorem w_min2 (q : Q (.int (if b < a then b else a)) H) : rMin2 [.int a, .int b] H Q := ⟨a, b, rfl, q⟩
theorem w_int1 (q : Q (.int a) H) : rInt1 [.int a] H Q := .inl ⟨a, rfl, q⟩
theorem w_int1b {k : Bool} (q : Q (.int (if k then 1 else 0)) H) : rInt1 [.bl k] H Q := .inr ⟨k, rfl, q⟩
theorem w_listL {p : Addr} {xs : List V} (h : SqL K H p xs) (q : ∀ l, H l = none → atV Q (.ref l) (upd H l (.lst xs))) : rListOf K [.ref p] H Q := ⟨p, xs, rfl, .inl h, q⟩
theorem w_tupL {p : Addr} {xs : List V} (h : SqL K H p xs) (q : ∀ l, H l = none → atV Q (.ref l) (upd H l (.tup xs))) : rTupOf K [.ref p] H Q := ⟨p, xs, rfl, .inl ⟨h, q⟩⟩
theorem w_setL {p : Addr} {xs : List V} {Qs : Hp → Prop} (h : H p = some (.lst xs)) (e : ixN xs.length a = some j) (q : Qs (upd H p (.lst (xs.set j v)))) : rSetL (.ref p) (.int a) v H Qs := ⟨p, xs, a, j, rfl, rfl, h, e, q⟩
theorem w_gsub {to ti : TE} {ts : TSet} {Qs : L2.St → Hp → Prop} (q : to σ H fun o H1 => ti σ H1 fun i H2 => ts o i v H2 fun H3 => Qs σ H3) : gSub to ti ts v σ H Qs := q
theorem w_bm {T : String} {r : V → List V → Hp → VK → Prop} (q : ta σ H fun x H1 => tyV K T x H1 ∧ as σ H1 fun xs H2 => r x xs H2 Q) : tBM K T r ta as σ H Q := q
theorem w_bm0 {T : String} {r : V → List V → Hp → VK → Prop} (q : ta σ H fun x H1 => tyV K T x H1 ∧ r x [] H1 Q) : tBM0 K T r ta σ H Q := q
theorem w_append {p : Addr} {xs : List V} (h : H p = some (.lst xs)) (l : xs.length < sizeLine) (q : Q .non (upd H p (.lst (xs ++ [v])))) : rAppend (.ref p) [v] H Q := ⟨p, xs, v, rfl, rfl, h, l, q⟩
theorem w_cat {p r : Addr} {xs ys : List V} (h : H p = some (.lst xs)) (h2 : H r = some (.lst ys)) (l : xs.length + ys.length ≤ sizeLine) (q : ∀ p, H p = none → atV Q (.ref p) (upd H p (.lst (xs ++ ys)))) : rCat (.ref p) (.ref r) H Q := ⟨p, r, xs, ys, rfl, rfl, h, h2, l, q⟩
theorem w_fld {f : Str} (q : ta σ H fun x H1 => ∃ a C dx fs v, x = .ref a ∧ H1 a = some (.ins C dx fs) ∧ Cls K C ∧ NoAttr K C f ∧ fs.lookup f = some v ∧ Q v H1) : tFld K ta f σ H Q := q
theorem w_sl {r : V → Option Int → Option Int → Hp → VK → Prop} {tl th : TO} (q : te σ H fun x H1 => tl σ H1 fun l H2 => th σ H2 fun u H3 => r x l u H3 Q) : tSl r te tl th σ H Q := q
theorem w_slL {p : Addr} {xs : List V} {lo hi : Option Int} (h : SqL K H p xs) (q : ∀ p, H p = none → atV Q (.ref p) (upd H p (.lst (cutV xs lo hi)))) : rSlL K (.ref p) lo hi H Q := ⟨p, xs, rfl, h, q⟩
theorem w_noPart {Qo : Option Int → Hp → Prop} (q : Qo none H) : tNoPart σ H Qo := q
theorem w_part {Qo : Option Int → Hp → Prop} (q : te σ H fun x H1 => ∃ i, x = .int i ∧ Qo (some i) H1) : tPart te σ H Qo := q
theorem w_isI {P : Int → Prop} (q : P a) : ∃ i, V.int a = .int i ∧ P i := ⟨a, rfl, q⟩
theorem w_revL {K : PySem.W.Frag} (q : te σ H fun x H1 => ∃ a xs, x = .ref a ∧ SqL K H1 a xs ∧ ∀ p, H1 p = none → atV Q (.ref p) (upd H1 p (.lst xs.reverse))) : tRevL K te σ H Q := q
theorem w_isN (q : Q (.bl (decide (x = .non))) H) : rIsN x .non H Q := ⟨rfl, q⟩
theorem w_notN (q : Q (.bl (!decide (x = .non))) H) : rNotN x .non H Q := ⟨rfl, q⟩
theorem w_bits (q : te σ H fun x H1 => ∃ i, x = .int i ∧ Q (.int (Builtin.Int.intBits i : Nat)) H1) : tBits te σ H Q := q
theorem w_gtup {K : PySem.W.Frag} {tg : TGs} {p : Addr} {xs : List V} {k : Nat} {Qs : L2.St → Hp → Prop} (h : SqT K H p xs) (l : xs.length = k) (q : tg xs σ H Qs) : gTup K k tg (.ref p) σ H Qs := ⟨p, xs, rfl, h, l, q⟩
theorem w_gcons {tg : TG} {tr : TGs} {xs : List V} {Qs : L2.St → Hp → Prop} (q : tg v σ H fun σ' H' => tr xs σ' H' Qs) : gCons tg tr (v :: xs) σ H Qs := ⟨v, xs, rfl, q⟩
theorem w_gnil {Qs : L2.St → Hp → Prop} (q : Qs σ H) : gNil [] σ H Qs := ⟨rfl, q⟩
theorem w_for {wi : TI} {g : TG} {tb : TS} (q : wi σ H fun J H1 => ∃ W : Nat → Nat → L2.St → Hp → Prop, (∃ m, W 0 m σ H1) ∧ ∀ i m σ H, W i m σ H →
      (J.stop i H ∧ D.nx σ H) ∨ (J.go i H ∧ ∃ N : L2.St → Hp → Prop, (∀ σ' H', N σ' H' → ∃ m', m' < m ∧ W (i + 1) m' σ' H') ∧ ∀ x H', J.yld i H x H' → g x σ H' fun σ2 H2 => tb { D with nx := N, ct := N, bk := D.nx } σ2 H2)) : tFor wi g tb D σ H := q
theorem w_rng1 {R : It → Hp → Prop} (q : as σ H fun vs H1 => ∃ j : Int, vs = [.int j] ∧ -(2 ^ 62) ≤ j ∧ j < 2 ^ 62 ∧ R (Itr 0 j.toNat) H1) : iRng1 as σ H R := q
theorem w_rng1i {P : Int → Prop} (h0 : -(2 ^ 62) ≤ n) (h1 : n < 2 ^ 62) (q : P n) : ∃ j : Int, [V.int n] = [.int j] ∧ -(2 ^ 62) ≤ j ∧ j < 2 ^ 62 ∧ P j := ⟨n, rfl, h0, h1, q⟩
theorem w_rng2 {R : It → Hp → Prop} (q : as σ H fun vs H1 => ∃ i j : Int, vs = [.int i, .int j] ∧ (-(2 ^ 62) ≤ i ∧ i < 2 ^ 62 ∧ -(2 ^ 62) ≤ j ∧ j < 2 ^ 62) ∧ R (Itr i (j - i).toNat) H1) : iRng2 as σ H R := q
theorem w_rng2i {P : Int → Int → Prop} (h0 : -(2 ^ 62) ≤ n ∧ n < 2 ^ 62 ∧ -(2 ^ 62) ≤ m ∧ m < 2 ^ 62) (q : P n m) : ∃ i j : Int, [V.int n, V.int m] = [.int i, .int j] ∧ (-(2 ^ 62) ≤ i ∧ i < 2 ^ 62 ∧ -(2 ^ 62) ≤ j ∧ j < 2 ^ 62) ∧ P i j := ⟨n, m, rfl, h0, q⟩
theorem w_andsz {xs : List V} {P : Prop} (h : Nat.ble xs.length 100000 = true) (q : P) : xs.length ≤ sizeLine ∧ P := ⟨Nat.le_trans (Nat.le_of_ble_eq_true h) (by decide), q⟩
theorem w_iList {R : It → Hp → Prop} (q : te σ H fun x H1 => ∃ a, x = .ref a ∧ (∃ xs, SqL K H1 a xs) ∧ R (Itl K a) H1) : iList K te σ H R := q
theorem w_iTup {R : It → Hp → Prop} (q : te σ H fun x H1 => ∃ a, x = .ref a ∧ (∃ xs, SqT K H1 a xs) ∧ R (Itt K a) H1) : iTup K te σ H R := q
theorem w_iAt {p : Addr} {P : Addr → Prop} (q : P p) : ∃ a, V.ref p = .ref a ∧ P a := ⟨p, rfl, q⟩
end
theorem w_lc {wi : TI} {g : TG} {tt : TT} {te : TE} {vs : List Nat} {σ : L2.St} {H : Hp} {Q : VK} (q : wi σ H fun J H1 => ∀ D, H1 D = none → ∃ W : Nat → Nat → Hp → Prop, (∃ m, W 0 m (upd H1 D (.lst []))) ∧ ∀ i m H, W i m H →
  (J.stop i H ∧ Q (.ref D) H) ∨ (J.go i H ∧ ∃ Nx : Hp → Prop, (∀ H', Nx H' → ∃ m', m' < m ∧ W (i + 1) m' H') ∧ ∀ x H', J.yld i H x H' → g x (wipe σ vs) H' fun σ2 H2 => wipe σ2 vs = wipe σ vs ∧ tt σ2 H2 fun b H3 =>
    if b = true then te σ2 H3 fun y H4 => ∃ acc, H4 D = some (.lst acc) ∧ acc.length < sizeLine ∧ Nx (upd H4 D (.lst (acc ++ [y]))) else Nx H3)) : tLc wi g tt te vs σ H Q := q
theorem w_iStr {te : TE} {σ : L2.St} {H : Hp} {R : It → Hp → Prop} (q : te σ H fun v H1 => ∃ x, v = .str x ∧ R (Its x) H1) : iStr te σ H R := q
theorem w_isS {z : Str} {P : Str → Prop} (q : P z) : ∃ x, V.str z = .str x ∧ P x := ⟨z, rfl, q⟩
theorem w_iL {K : PySem.W.Frag} {H : Hp} {a : Addr} {xs : List V} {P : Prop} (h : SqL K H a xs) (q : P) : (∃ xs, SqL K H a xs) ∧ P := ⟨⟨xs, h⟩, q⟩
theorem w_iT {K : PySem.W.Frag} {H : Hp} {a : Addr} {xs : List V} {P : Prop} (h : SqT K H a xs) (q : P) : (∃ xs, SqT K H a xs) ∧ P := ⟨⟨xs, h⟩, q⟩
theorem w_leS {x y : Str} {H : Hp} {Q : VK} (q : Q (.bl (!decide (y.cps.toList < x.cps.toList))) H) : rLeS (.str x) (.str y) H Q := ⟨x, y, rfl, rfl, q⟩
theorem w_ord {H : Hp} {Q : VK} {c : Nat} (q : Q (.int (c : Int)) H) : rOrd [.str ⟨#[c]⟩] H Q := ⟨_, rfl, rfl, q⟩
theorem w_nx {N : L2.St → Hp → Prop} {rt : VK} {bk ct : L2.St → Hp → Prop} {σ : L2.St} {H : Hp} (q : N σ H) : Ends.nx ⟨N, rt, bk, ct⟩ σ H := q
theorem w_rt {N : L2.St → Hp → Prop} {rt : VK} {bk ct : L2.St → Hp → Prop} {v : V} {H : Hp} (q : rt v H) : Ends.rt ⟨N, rt, bk, ct⟩ v H := q
theorem w_ct {N : L2.St → Hp → Prop} {rt : VK} {bk ct : L2.St → Hp → Prop} {σ : L2.St} {H : Hp} (q : ct σ H) : Ends.ct ⟨N, rt, bk, ct⟩ σ H := q
theorem w_bk {N : L2.St → Hp → Prop} {rt : VK} {bk ct : L2.St → Hp → Prop} {σ : L2.St} {H : Hp} (q : bk σ H) : Ends.bk ⟨N, rt, bk, ct⟩ σ H := q
theorem sq {K : PySem.W.Frag} {H : Hp} {a : Addr} {xs : List V} (h : H a = some (.lst xs)) : SqL K H a xs := .inl (.inl h)
theorem sqt {K : PySem.W.Frag} {H : Hp} {a : Addr} {xs : List V} (h : H a = some (.tup xs)) : SqT K H a xs := .inl (.inl h)
theorem upd_new {H : Hp} {p q : Addr} {o u : HO} (n : H p = none) (h : H q = some u) : upd H p o q = some u := (upd_ne (ne_of_none h n)).trans h
theorem ite_d {p : Prop} [Decidable p] {A B : Prop} (h1 : p → A) (h2 : ¬ p → B) : if decide p = true then A else B := by
  by_cases h : p
  · rw [if_pos (decide_eq_true h)]; exact h1 h
  · rw [if_neg (by rw [decide_eq_false h]; decide)]; exact h2 h
theorem ite_nd {p : Prop} [Decidable p] {A B : Prop} (h1 : ¬ p → A) (h2 : p → B) : if (!decide p) = true then A else B := by
  by_cases h : p
  · rw [if_neg (by rw [decide_eq_true h]; decide)]; exact h2 h
  · rw [if_pos (by rw [decide_eq_false h]; rfl)]; exact h1 h
theorem wmul {i j : Int} {a b : Nat} (ha : i.natAbs < 2 ^ a) (hb : j.natAbs < 2 ^ b) (h : a + b ≤ 900000) : CMulW i j :=
  wide_mul (a := a + 1) (b := b + 1) (Nat.lt_trans ha (Nat.pow_lt_pow_right (by decide) (Nat.lt_succ_self _))) (Nat.lt_trans hb (Nat.pow_lt_pow_right (by decide) (Nat.lt_succ_self _))) (Nat.succ_pos _) (Nat.succ_pos _) (by omega)
theorem wdiv {i j : Int} {b : Nat} (h : 0 < j) (hb : j.natAbs < 2 ^ b) (h9 : b ≤ 8000) : CDivW i j :=
  wide_div (b := b + 1) h (Nat.lt_trans hb (Nat.pow_lt_pow_right (by decide) (Nat.lt_succ_self _))) (Nat.succ_pos _) (by omega)
/-- products: one side small, or both of bounded bits -/
noncomputable def CMx (i j : Int) : Prop := CMul i j ∨ CMulW i j
theorem oMul {X : Cx} : OpR X (binaryOp .Mult) (rI CMx fun i j => .int (i * j)) := opI fun _ _ _ _ _ _ _ hc q => hc.elim (fun h => mul_int q h.ok) (fun h => mul_int q h.ok)
theorem mx_l {i j : Int} (h : -(2 ^ 64) < i ∧ i < 2 ^ 64) : CMx i j := .inl (.inl h)
theorem mx_r {i j : Int} (h : -(2 ^ 64) < j ∧ j < 2 ^ 64) : CMx i j := .inl (.inr h)
theorem mx_w {i j : Int} {a b : Nat} (ha : i.natAbs < 2 ^ a) (hb : j.natAbs < 2 ^ b) (h : a + b ≤ 900000) : CMx i j := .inr (wmul ha hb h)
theorem wdiv60 {i j : Int} (h : 0 < j) (hb : j < 2 ^ 60) : CDivW i j := wdiv (b := 60) h (by omega) (by decide)
structure Bt (mg : Str → Option Value) : Prop where
  len : mg "len" = none
  int : mg "int" = none
  abs : mg "abs" = none
  max : mg "max" = none
  min : mg "min" = none
  range : mg "range" = none
  isinstance : mg "isinstance" = none
  list : mg "list" = none
  tuple : mg "tuple" = none
  str : mg "str" = none
  bool : mg "bool" = none
  ord : mg "ord" = none
  all : mg "all" = none
  enumerate : mg "enumerate" = none
  zip : mg "zip" = none
/-- a list of three ints at a: what is left of a great number, a seed, a count up to c -/
noncomputable def Purse (H : Hp) (a : Addr) (c : Int) : Prop := ∃ x y z : Int, H a = some (.lst [.int x, .int y, .int z]) ∧ 0 ≤ x ∧ x < 2 ^ 1600 ∧ 0 ≤ y ∧ y < 2 ^ 31 ∧ 0 ≤ z ∧ z ≤ c
/-- all but what stands at a is kept -/
noncomputable def Keep (a : Addr) (H H' : Hp) : Prop := ∀ b o, b ≠ a → H b = some o → H' b = some o
theorem Keep.refl {a : Addr} {H : Hp} : Keep a H H := fun _ _ _ h => h
theorem Keep.trans {a : Addr} {H H1 H2 : Hp} (k : Keep a H H1) (l : Keep a H1 H2) : Keep a H H2 := fun b o n h => l b o n (k b o n h)
theorem Keep.of {a : Addr} {H H' : Hp} (s : Same H H') : Keep a H H' := fun b o _ h => s b o h
theorem Keep.at_ {a b : Addr} {o : HO} {H H' : Hp} (k : Keep a H H') (n : b ≠ a) (h : H b = some o) : H' b = some o := k b o n h
theorem Same.new {H : Hp} {p : Addr} {o : HO} (n : H p = none) : Same H (upd H p o) := fun b u h => upd_new n h
theorem Purse.same {H H' : Hp} {a : Addr} {c : Int} (p : Purse H a c) (s : Same H H') : Purse H' a c := by
  obtain ⟨x, y, z, h, r⟩ := p
  exact ⟨x, y, z, s _ _ h, r⟩
theorem Purse.le {H : Hp} {a : Addr} {c d : Int} (p : Purse H a c) (h : c ≤ d) : Purse H a d := by
  obtain ⟨x, y, z, h0, h1, h2, h3, h4, h5, h6⟩ := p
  exact ⟨x, y, z, h0, h1, h2, h3, h4, h5, by omega⟩
section
variable {P : Program} {w : World} {K : PySem.W.Frag} {mg : Str → Option Value} {base : Heap}
/-- a def of the module without defaults -/
structure Dn (K : PySem.W.Frag) (mg : Str → Option Value) (x : Str) (st : Stmt) (ps : List Str) : Prop where
  ex : ∃ (f : Addr) (fd : FuncData), L2.Fun K x x st f fd ∧ mg x = some (.ref f) ∧ Binds K fd ps []
theorem Dn.cal {x : Str} {st : Stmt} {N ps : List Str} {k : Nat} {sp : Sp} (F : Dn K mg x st ps) (S : FnScope N ps (defScope st)) (len : ∀ vs H Q E, sp vs H Q E → vs.length = ps.length)
    (hbody : ∀ (f : Addr) (cdv : Value) (A : Around) (outer : List Env) (s : Shared) (H : Hp) (vs : List V) (Q : VK) (E : XK), Room k (A.deeper (envOfC x (defScope st) s.heap.objs.size f cdv)) → sp vs H Q E →
      ∃ t, PSs (cxOf CX0 P w K mg base N x (defScope st) f cdv A outer s H E).nox (defBody st) t ∧ t { nx := fun _ H' => Q .non H', rt := Q } (start N vs) H) : C8.Cal P w K mg base (k + 1) x sp [] := by
  obtain ⟨f, fd, F1, m, b⟩ := F.ex
  exact ⟨f, fd, ps, [], F1.ok S len (fun cdv A outer s H vs Q E hr h => hbody f cdv A outer s H vs Q E hr h), m, F1.kp, b, .nil⟩
end
theorem atI_ints {ns : List Int} {i : Int} (h0 : 0 ≤ i) (h1 : i < (ns.map V.int).length) : atI (ns.map V.int) i = some (.int (ns.getD i.toNat 0)) := by
  obtain ⟨j, rfl⟩ := Int.eq_ofNat_of_zero_le h0
  rw [List.length_map] at h1
  have h2 : j < ns.length := by omega
  refine atI_nat ?_
  rw [List.getElem?_map, List.getElem?_eq_getElem h2]
  simp [List.getD, h2]
theorem atI_get {xs : List V} {i : Int} {v : V} (h0 : 0 ≤ i) (h : xs[i.toNat]? = some v) : atI xs i = some v := by
  obtain ⟨j, rfl⟩ := Int.eq_ofNat_of_zero_le h0
  exact atI_nat h
theorem Keep.upd {a : Addr} {H H' : Hp} {o : HO} (k : Keep a H H') : Keep a H (upd H' a o) := fun b u n h => by rw [upd_ne n]; exact k b u n h
section
variable {c : TT} {tb : TS} {D : Ends} {σ : L2.St} {H : Hp}
theorem while_go (Pv : L2.St → Hp → Prop) (μ : L2.St → Hp → Nat) (h0 : Pv σ H) (hs : ∀ σ H, Pv σ H → c σ H fun b H1 => if b = true then (∃ N : L2.St → Hp → Prop, (∀ σ' H', N σ' H' → ∃ m', m' < μ σ H ∧ (m' = μ σ' H' ∧ Pv σ' H')) ∧
      tb { D with nx := N, ct := N, bk := D.nx } σ H1) else D.nx σ H1) : tWhile c tb D σ H := ⟨fun m σ H => m = μ σ H ∧ Pv σ H, ⟨_, rfl, h0⟩, fun m σ H h => by
  obtain ⟨e, p⟩ := h
  subst e
  exact hs σ H p⟩
theorem while_n {Pv : L2.St → Hp → Prop} {μ : L2.St → Hp → Nat} {k : Nat} (q : tb { D with nx := fun σ' H' => μ σ' H' < k ∧ Pv σ' H', ct := fun σ' H' => μ σ' H' < k ∧ Pv σ' H', bk := D.nx } σ H) :
    ∃ N : L2.St → Hp → Prop, (∀ σ' H', N σ' H' → ∃ m', m' < k ∧ (m' = μ σ' H' ∧ Pv σ' H')) ∧ tb { D with nx := N, ct := N, bk := D.nx } σ H := ⟨_, fun _ _ h => ⟨_, h.1, rfl, h.2⟩, q⟩
end
theorem w_isi {K : PySem.W.Frag} {H : Hp} {Q : VK} {x : V} {t : Value} {n : String} {b : Bool} (ty : TyX K H x t) (k : PySem.W.kitOne K t (.type n) = some b) (q : Q (.bl b) H) : rIsi K [x, .ty n] H Q := ⟨x, .ty n, t, .type n, b, rfl, .ty n, ty, k, q⟩
theorem w_isiC {K : PySem.W.Frag} {H : Hp} {Q : VK} {x : V} {t : Value} {C : Addr} {b : Bool} (ty : TyX K H x t) (k : PySem.W.kitOne K t (.ref C) = some b) (q : Q (.bl b) H) : rIsi K [x, .ref C] H Q := ⟨x, .ref C, t, .ref C, b, rfl, .own C, ty, k, q⟩
theorem w_isi2 {K : PySem.W.Frag} {H : Hp} {Q : VK} {x : V} {t : Value} {m n : String} {p : Addr} {b : Bool} (h : H p = some (.tup [.ty m, .ty n])) (ty : TyX K H x t) (k : PySem.W.kitAny K t [.type m, .type n] = some b) (q : Q (.bl b) H) : rIsiT K [x, .ref p] H Q :=
  ⟨x, p, _, t, _, b, rfl, h, .cons (.ty m) (.cons (.ty n) .nil), ty, k, q⟩
theorem ty_int {K : PySem.W.Frag} {H : Hp} (i : Int) : TyX K H (.int i) (.type "int") := .base (.int i)
noncomputable def spIsInt (K : PySem.W.Frag) : Sp := fun vs H Q _ => ∃ (v : V) (t : Value) (b1 b2 : Bool), vs = [v] ∧ TyX K H v t ∧ PySem.W.kitOne K t (.type "int") = some b1 ∧ PySem.W.kitOne K t (.type "bool") = some b2 ∧ Q (.bl (b1 && !b2)) H
theorem use_isInt {K : PySem.W.Frag} {H : Hp} {Q : VK} {E : XK} {i : Int} (q : Q (.bl true) H) : spIsInt K ([.int i] ++ []) H Q E := ⟨.int i, _, true, false, rfl, ty_int i, kit_ty (by decide +kernel), kit_ty (by decide +kernel), q⟩
noncomputable def spRaised : Sp := fun vs H Q _ => ∃ (f p : Int) (b : Nat), vs = [.int f, .int p] ∧ 0 ≤ p ∧ p < 2 ^ 40 ∧ f.natAbs < 2 ^ b ∧ b * p.toNat + b ≤ 100000 ∧ Q (.int (f ^ p.toNat)) H
noncomputable def spGcd : Sp := fun vs H Q _ => ∃ a b : Int, vs = [.int a, .int b] ∧ Q (.int (Int.gcd a b)) H
noncomputable def Pr (n : Int) : Prop := 1 < n ∧ ∀ d : Int, 2 ≤ d → d * d ≤ n → n % d ≠ 0
noncomputable def spPrime : Sp := fun vs H Q _ => ∃ n : Int, vs = [.int n] ∧ n < 2 ^ 60 ∧ ∀ b : Bool, (b = true ↔ Pr n) → Q (.bl b) H
theorem natAbs_pow_lt {f : Int} {b : Nat} (h : f.natAbs < 2 ^ b) (n : Nat) : (f ^ n).natAbs < 2 ^ (b * n + 1) := by
  rw [Int.natAbs_pow]
  have h1 : f.natAbs ^ n ≤ (2 ^ b) ^ n := Nat.pow_le_pow_left (Nat.le_of_lt h) n
  rw [← Nat.pow_mul] at h1
  exact Nat.lt_of_le_of_lt h1 (Nat.pow_lt_pow_right (by decide) (Nat.lt_succ_self _))
section
variable {J : It} {G : Hp → Prop} {te : TE} {vs : List Nat} {σ : L2.St} {H : Hp} {D : Addr} {Qd : Hp → Prop} {j : Nat}
theorem lc_pure (xs ys : List V) (w : Walk J xs.length G (YAt xs)) (hD : H D = none) (hG : ∀ H', Same H H' → G H') (hl : ys.length = xs.length) (sz : ys.length ≤ 100000)
    (wp : ∀ v, wipe ((wipe σ vs).set j v) vs = wipe σ vs)
    (step : ∀ (i : Nat) (x y : V) (H' : Hp), xs[i]? = some x → ys[i]? = some y → Same H H' → ∀ Q' : VK, (∀ H'', Same H' H'' → Q' y H'') → te ((wipe σ vs).set j (some x)) H' Q')
    (q : ∀ H', Same H H' → H' D = some (.lst ys) → Qd H') :
    ∃ W : Nat → Nat → Hp → Prop, (∃ m, W 0 m (upd H D (.lst []))) ∧ ∀ i m H, W i m H →
      (J.stop i H ∧ Qd H) ∨ (J.go i H ∧ ∃ Nx : Hp → Prop, (∀ H', Nx H' → ∃ m', m' < m ∧ W (i + 1) m' H') ∧ ∀ x H', J.yld i H x H' → gName j x (wipe σ vs) H' fun σ2 H2 => wipe σ2 vs = wipe σ vs ∧ tYes σ2 H2 fun b H3 =>
        if b = true then te σ2 H3 fun y H4 => ∃ acc, H4 D = some (.lst acc) ∧ acc.length < sizeLine ∧ Nx (upd H4 D (.lst (acc ++ [y]))) else Nx H3) := by
  refine lc_it w (fun i H' => H' D = some (.lst (ys.take i)) ∧ Same H H') ⟨upd_same, Same.new hD⟩ (fun i H' _ h => hG H' h.2) ?_ ?_
  · rintro i x H1 H' hi ⟨h1, h2⟩ ⟨rfl, hx⟩
    refine ⟨wp _, w_yes ?_⟩
    rw [if_pos rfl]
    have hi' : i < ys.length := by omega
    refine step i x ys[i] H' hx (by simp [hi']) h2 _ fun H'' h3 => ?_
    refine ⟨_, h3 _ _ h1, ?_, ?_, ?_⟩
    · rw [List.length_take]
      have : (100000 : Nat) < sizeLine := by decide
      omega
    · rw [upd_same, List.take_succ_eq_append_getElem hi']
    · exact fun b o e => by
        rw [upd_ne (ne_of_none e hD)]
        exact h3 _ _ (h2 _ _ e)
  · rintro H' ⟨h1, h2⟩
    refine q H' h2 ?_
    rw [h1, ← hl, List.take_length]
end
/-- a text's value and its letters -/
inductive TextAt (H : Hp) : V → List Int → Prop where
  | str (z : Str) (h : ∀ c ∈ z.cps.toList, 32 ≤ c ∧ c ≤ 126) (l : z.length ≤ 100000) : TextAt H (.str z) (z.cps.toList.map Int.ofNat)
  | lst (a : Addr) (ls : List Int) (h : H a = some (.lst (ls.map V.int))) (l : ls.length ≤ 100000) : TextAt H (.ref a) ls
  | tup (a : Addr) (ls : List Int) (h : H a = some (.tup (ls.map V.int))) (l : ls.length ≤ 100000) : TextAt H (.ref a) ls
theorem TextAt.same {H H' : Hp} {v : V} {ls : List Int} (t : TextAt H v ls) (s : Same H H') : TextAt H' v ls := by
  cases t with
  | str z h l => exact .str z h l
  | lst a _ h l => exact .lst a _ (s _ _ h) l
  | tup a _ h l => exact .tup a _ (s _ _ h) l
theorem TextAt.len {H : Hp} {v : V} {ls : List Int} (t : TextAt H v ls) : ls.length ≤ 100000 := by
  cases t with
  | str z h l => rw [List.length_map]; exact l
  | lst a _ h l => exact l
  | tup a _ h l => exact l
theorem lt1 {a b : Nat} : (([a] : List Nat) < [b]) ↔ a < b := by simp [List.cons_lt_cons_iff]
theorem all_true {α : Type} (l : List α) : (l.map fun _ => true).all id = true := by
  induction l with
  | nil => rfl
  | cons a r ih => rw [List.map_cons, List.all_cons, ih]; rfl
theorem get_map {α β : Type} {f : α → β} {l : List α} {i : Nat} {y : β} (h : (l.map f)[i]? = some y) : ∃ x, l[i]? = some x ∧ f x = y := by
  rw [List.getElem?_map] at h
  cases e : l[i]? with
  | none => rw [e] at h; cases h
  | some x => rw [e] at h; exact ⟨x, rfl, Option.some.inj h⟩
theorem kitA {K : PySem.W.Frag} {t m n : String} {b : Bool} (h : (match kitB t m with | some true => some true | some false => (match kitB t n with | some true => some true | some false => some false | none => none) | none => none) = some b) : PySem.W.kitAny K (.type t) [.type m, .type n] = some b := h
noncomputable def num (ps : List (Int × Int)) : Int := ps.foldl (fun n p => n * p.1 ^ p.2.toNat) 1
noncomputable def Asc : Int → List (Int × Int) → Prop
  | _, [] => True
  | l, q :: r => l < q.1 ∧ 0 < q.2 ∧ Pr q.1 ∧ Asc q.1 r
noncomputable def Small (ps : List (Int × Int)) : Prop := (∀ q ∈ ps, 0 < q.1 ∧ q.1 < 1024 ∧ 0 < q.2 ∧ q.2 ≤ 100) ∧ ps.length ≤ 64
theorem num_snoc (ps : List (Int × Int)) (q : Int × Int) : num (ps ++ [q]) = num ps * q.1 ^ q.2.toNat := by
  unfold num
  rw [List.foldl_append]
  rfl
theorem num_take {ps : List (Int × Int)} {i : Nat} {q : Int × Int} (h : ps[i]? = some q) : num (ps.take (i + 1)) = num (ps.take i) * q.1 ^ q.2.toNat := by
  obtain ⟨hi, e⟩ := List.getElem?_eq_some_iff.mp h
  rw [List.take_succ_eq_append_getElem hi, num_snoc, e]
theorem num_bound {ps : List (Int × Int)} (h : Small ps) : ∀ i, i ≤ ps.length → 0 < num (ps.take i) ∧ (num (ps.take i)).natAbs < 2 ^ (1010 * i + 1)
  | 0, _ => by
    rw [List.take_zero]
    exact ⟨by decide, by decide⟩
  | i + 1, hi => by
    have ih := num_bound h i (by omega)
    have hlt : i < ps.length := by omega
    have hq := h.1 ps[i] (List.getElem_mem hlt)
    rw [num_take (q := ps[i]) (by simp [hlt])]
    have h1 : ((ps[i].1) ^ (ps[i].2.toNat)).natAbs < 2 ^ (10 * ps[i].2.toNat + 1) := natAbs_pow_lt (b := 10) (by show ps[i].1.natAbs < 1024; omega) _
    refine ⟨Int.mul_pos ih.1 (Int.pow_pos hq.1), ?_⟩
    have h2 := wide_lt ih.2 h1
    refine Nat.lt_of_lt_of_le h2 (Nat.pow_le_pow_right (by decide) ?_)
    omega
theorem num_pos {ps : List (Int × Int)} (h : Small ps) : 0 < num ps := by
  have := (num_bound h ps.length (Nat.le_refl _)).1
  rwa [List.take_length] at this
theorem Asc.at_ : ∀ {l : Int} {ps : List (Int × Int)} {i : Nat} {q : Int × Int}, Asc l ps → ps[i]? = some q → ((ps.take i).getLast?.map (·.1)).getD l < q.1 ∧ 0 < q.2 ∧ Pr q.1
  | l, [], i, q, _, h => by simp at h
  | l, r :: ps, 0, q, a, h => by
    have e : r = q := by simpa using h
    subst e
    exact ⟨a.1, a.2.1, a.2.2.1⟩
  | l, r :: ps, i + 1, q, a, h => by
    have ih := Asc.at_ (i := i) a.2.2.2 (by simpa using h)
    refine ⟨?_, ih.2⟩
    have e := ih.1
    rw [List.take_succ_cons, List.getLast?_cons]
    cases hh : (ps.take i).getLast? with
    | none => rw [hh] at e; exact e
    | some z => rw [hh] at e; exact e
noncomputable def Tp (H : Hp) (p : Int × Int) (t : Addr) : Prop := H t = some (.tup [.int p.1, .int p.2])
theorem paired_get {α β : Type} {R : α → β → Prop} : ∀ {xs : List α} {ys : List β} {i : Nat} {y : β}, Paired R xs ys → ys[i]? = some y → ∃ x, xs[i]? = some x ∧ R x y
  | _, _, _, _, .nil, h => by simp at h
  | _, _, 0, _, .cons r _, h => by
    have e := Option.some.inj (by simpa using h)
    subst e
    exact ⟨_, rfl, r⟩
  | _, _, i + 1, _, .cons _ t, h => by
    obtain ⟨x, h1, h2⟩ := paired_get (i := i) t (by simpa using h)
    exact ⟨x, by simpa using h1, h2⟩
theorem paired_imp {α β : Type} {R S : α → β → Prop} (h : ∀ x y, R x y → S x y) : ∀ {xs : List α} {ys : List β}, Paired R xs ys → Paired S xs ys
  | _, _, .nil => .nil
  | _, _, .cons r t => .cons (h _ _ r) (paired_imp h t)
theorem lk0 {f : Str} {v : V} {r : List (Str × V)} : List.lookup f ((f, v) :: r) = some v := by simp [List.lookup]
theorem lkS {f g : Str} {u : V} {r : List (Str × V)} (h : f ≠ g) : List.lookup f ((g, u) :: r) = List.lookup f r := by
  rw [List.lookup]
  have e : (f == g) = false := by simpa using h
  rw [e]
theorem putS {f g : Str} {u v : V} {r : List (Str × V)} (h : g ≠ f) : putF f v ((g, u) :: r) = (g, u) :: putF f v r := by
  unfold putF
  rw [if_neg h]
  cases r <;> rfl
theorem put0 {f : Str} {v : V} : putF f v [] = [(f, v)] := rfl
/-- a class whose instances are plain -/
structure ClsF (K : PySem.W.Frag) (C : Addr) : Prop where
  cl : Cls K C
  ha : PySem.W.findIn K (.ref C) "__class__" = some (some (.builtin "object.__class__"))
  hn : PySem.W.specialIn K (.builtin "object.__class__") "__get__" = some (some (.builtin "getset_descriptor.__get__"))
  htk : PySem.W.takesIn K (.builtin "object.__class__") = some true
  hm : PySem.W.mroIn K C (.type "object") = some true
theorem ClsF.ty {K : PySem.W.Frag} {C : Addr} (c : ClsF K C) {H : Hp} {a dx : Addr} {fs : List (Str × V)} (h : H a = some (.ins C dx fs)) : TyX K H (.ref a) (.ref C) := .base (.ins h c.cl c.ha c.hn c.htk c.hm)
theorem kit_own {K : PySem.W.Frag} {C : Addr} : PySem.W.kitOne K (.ref C) (.ref C) = some true := by
  unfold PySem.W.kitOne
  rw [if_pos (by simp)]
/-- the addresses of the three classes -/
structure CA where
  md : Addr
  kg : Addr
  wy : Addr
structure Kx (K : PySem.W.Frag) (mg : Str → Option Value) (c : CA) : Prop where
  md : ClsF K c.md
  kg : ClsF K c.kg
  wy : ClsF K c.wy
  mgMd : mg "Modulus" = some (.ref c.md)
  mgMk : True
  mgWy : True
  number : NoAttr K c.md "number"
  factors : NoAttr K c.md "factors"
  low : NoAttr K c.kg "low"
  shift : NoAttr K c.kg "shift"
  lead : NoAttr K c.kg "lead"
  marking : NoAttr K c.wy "marking"
  modulus : NoAttr K c.wy "modulus"
  wnumber : NoAttr K c.wy "number"
  base : NoAttr K c.wy "base"
noncomputable def mdF (n : Int) (t : Addr) : List (Str × V) := [("number", .int n), ("factors", .ref t)]
noncomputable def mkF (low : Bool) (shift : Int) (lead : Bool) : List (Str × V) := [("low", .bl low), ("shift", .int shift), ("lead", .bl lead)]
noncomputable def wyF (k m : Addr) (n b : Int) : List (Str × V) := [("marking", .ref k), ("modulus", .ref m), ("number", .int n), ("base", .int b)]
noncomputable def ModAt (c : CA) (H : Hp) (m : Addr) (ps : List (Int × Int)) : Prop := ∃ (dx t : Addr) (ts : List Addr), H m = some (.ins c.md dx (mdF (num ps) t)) ∧ H t = some (.tup (ts.map V.ref)) ∧ Paired (Tp H) ps ts ∧ Asc 0 ps ∧ Small ps
noncomputable def MkAt (c : CA) (H : Hp) (k : Addr) (low : Bool) (shift : Int) (lead : Bool) : Prop := ∃ dx : Addr, H k = some (.ins c.kg dx (mkF low shift lead))
/-- how letters are added up -/
structure Sty where
  low : Bool
  shift : Int
  lead : Bool
noncomputable def WayAt (c : CA) (H : Hp) (a : Addr) (b : Int) (ps : List (Int × Int)) (y : Sty) : Prop := ∃ (dx m k : Addr), H a = some (.ins c.wy dx (wyF k m (num ps) b)) ∧ ModAt c H m ps ∧ MkAt c H k y.low y.shift y.lead ∧ 0 ≤ b ∧ b < num ps
theorem ModAt.same {c : CA} {H H' : Hp} {m : Addr} {ps : List (Int × Int)} (h : ModAt c H m ps) (s : Same H H') : ModAt c H' m ps := by
  obtain ⟨dx, t, ts, h1, h2, h3, h4⟩ := h
  exact ⟨dx, t, ts, s _ _ h1, s _ _ h2, paired_imp (fun _ _ z => s _ _ z) h3, h4⟩
theorem MkAt.same {c : CA} {H H' : Hp} {k : Addr} {l : Bool} {s : Int} {d : Bool} (h : MkAt c H k l s d) (e : Same H H') : MkAt c H' k l s d := by
  obtain ⟨dx, h1⟩ := h
  exact ⟨dx, e _ _ h1⟩
theorem WayAt.same {c : CA} {H H' : Hp} {a : Addr} {b : Int} {ps : List (Int × Int)} {y : Sty} (h : WayAt c H a b ps y) (s : Same H H') : WayAt c H' a b ps y := by
  obtain ⟨dx, m, k, h1, h2, h3, h4⟩ := h
  exact ⟨dx, m, k, s _ _ h1, h2.same s, h3.same s, h4⟩
/-- coefficients of the sum, that of the highest power first -/
noncomputable def hf (y : Sty) (ls : List Int) : List Int := (if y.lead then 1 else 0) :: (if y.low then (ls.map (· + y.shift)).reverse else ls.map (· + y.shift))
noncomputable def restAt (cs : List Int) (b n : Int) : Int := cs.foldl (fun f c => (f * b + c) % n) 0
noncomputable def mark (y : Sty) (b n : Int) (ls : List Int) : Int := restAt (hf y ls) b n
section
variable {σ : L2.St} {H : Hp} {D : Ends} {Q : VK} {K : PySem.W.Frag} {ta tv : TE} {f : Str} {x C dx : Addr} {fs : List (Str × V)} {v y : V}
theorem w_fldi {P : V → Prop} (h : H x = some (.ins C dx fs)) (c : Cls K C) (n : NoAttr K C f) (l : fs.lookup f = some v) (q : P v) : ∃ a C dx fs v, V.ref x = .ref a ∧ H a = some (.ins C dx fs) ∧ Cls K C ∧ NoAttr K C f ∧ fs.lookup f = some v ∧ P v := ⟨x, C, dx, fs, v, rfl, h, c, n, l, q⟩
theorem w_sfld (q : tv σ H fun y H1 => ta σ H1 fun x H2 => ∃ a C dx fs, x = .ref a ∧ H2 a = some (.ins C dx fs) ∧ Cls K C ∧ NoAttr K C f ∧ fs.length < 1000 ∧ D.nx σ (upd H2 a (.ins C dx (putF f y fs)))) : sFld K ta tv f D σ H := q
theorem w_sfldi {P : Hp → Prop} (h : H x = some (.ins C dx fs)) (c : Cls K C) (n : NoAttr K C f) (l : fs.length < 1000) (q : P (upd H x (.ins C dx (putF f y fs)))) : ∃ a C dx fs, V.ref x = .ref a ∧ H a = some (.ins C dx fs) ∧ Cls K C ∧ NoAttr K C f ∧ fs.length < 1000 ∧ P (upd H a (.ins C dx (putF f y fs))) :=
  ⟨x, C, dx, fs, rfl, h, c, n, l, q⟩
theorem w_make {sp : Sp} {dvs : List V} {E : XK} {as : TA} (q : as σ H fun vs H1 => ∀ x dx, H1 x = none → H1 dx = none → dx ≠ x → sp (.ref x :: (vs ++ dvs)) (upd (upd H1 dx (.own x)) x (.ins C dx [])) (fun v H2 => v = .non ∧ Q (.ref x) H2) E) : tMake C sp dvs E as σ H Q := q
theorem w_meth {m : Str} {sp : Sp} {dvs : List V} {E : XK} {as : TA} (q : ta σ H fun x H1 => ∃ a dx fs, x = .ref a ∧ H1 a = some (.ins C dx fs) ∧ fs.lookup m = none ∧ as σ H1 fun vs H2 => sp (x :: (vs ++ dvs)) H2 Q E) : tMeth C m sp dvs E ta as σ H Q := q
theorem w_iEnum {K : PySem.W.Frag} {as : TA} {R : It → Hp → Prop} (q : as σ H fun vs H1 => ∃ a xs, vs = [.ref a] ∧ SqL K H1 a xs ∧ R (Ite K a) H1) : iEnum K as σ H R := q
theorem w_enumi {K : PySem.W.Frag} {a : Addr} {xs : List V} {P : Addr → Prop} (h : SqL K H a xs) (q : P a) : ∃ a' xs', [V.ref a] = [.ref a'] ∧ SqL K H a' xs' ∧ P a' := ⟨a, xs, rfl, h, q⟩
end
theorem mk_same {H H' : Hp} {x dx C : Addr} (nx : H x = none) (nd : H dx = none) (k : ∀ b o, b ≠ x → (upd (upd H dx (.own x)) x (.ins C dx [])) b = some o → H' b = some o) : Same H H' := fun b o e =>
  k b o (ne_of_none e nx) (by rw [upd_ne (ne_of_none e nx), upd_ne (ne_of_none e nd)]; exact e)
/-- __init__ of an own class by its body -/
theorem fnD_ok {P : Program} {w : World} {K : PySem.W.Frag} {mg : Str → Option Value} {base : Heap} {x qual : Str} {st : Stmt} {dvs : List V} {kws : List (Str × V)} {f : Addr} {fd : FuncData} {N ps : List Str} {k : Nat} {sp : Sp}
    (F : FunD K x qual (defArgs st) (defBody st) (defScope st) dvs kws f fd) (S : FnScope N ps (defScope st)) (len : ∀ vs H Q E, sp vs H Q E → vs.length = ps.length)
    (hbody : ∀ (cdv : Value) (A : Around) (outer : List Env) (s : Shared) (H : Hp) (vs : List V) (Q : VK) (E : XK), Room k (A.deeper (envOfC qual (defScope st) s.heap.objs.size f cdv)) → sp vs H Q E →
      ∃ t, PSs (cxOf CX0 P w K mg base N qual (defScope st) f cdv A outer s H E).nox (defBody st) t ∧ t { nx := fun _ H' => Q .non H', rt := Q } (start N vs) H) : FnOk P w K mg base CX0 (k + 1) f fd ps sp := by
  refine F.ok S len fun cdv A outer s H vs Q E hr h => ?_
  obtain ⟨t, h1, h2⟩ := hbody cdv A outer s H vs Q E hr h
  exact ⟨t, h1.nox, h2⟩
noncomputable def spIsFactor : Sp := fun vs H Q _ => ∃ (t : Addr) (l p k : Int), vs = [.ref t, .int l] ∧ H t = some (.tup [.int p, .int k]) ∧ p < 2 ^ 60 ∧ ∀ b : Bool, (b = true ↔ l < p ∧ 0 < k ∧ Pr p) → Q (.bl b) H
noncomputable def spModInit (c : CA) : Sp := fun vs H Q _ => ∃ (x dx l : Addr) (ts : List Addr) (ps : List (Int × Int)), vs = [.ref x, .ref l] ∧ H x = some (.ins c.md dx []) ∧ H l = some (.lst (ts.map V.ref)) ∧ Paired (Tp H) ps ts ∧ Asc 0 ps ∧ Small ps ∧
  ∀ H' t, (∀ b o, b ≠ x → H b = some o → H' b = some o) → H' x = some (.ins c.md dx (mdF (num ps) t)) → H' t = some (.tup (ts.map V.ref)) → Q .non H'
theorem use_mod {c : CA} {H : Hp} {PP : Addr → Hp → Prop} {E : XK} {l : Addr} {ts : List Addr} {ps : List (Int × Int)} (hl : H l = some (.lst (ts.map V.ref))) (hp : Paired (Tp H) ps ts) (ha : Asc 0 ps) (hs : Small ps) (q : ∀ m H', H m = none → Same H H' → ModAt c H' m ps → PP m H') :
    ∀ x dx, H x = none → H dx = none → dx ≠ x → spModInit c (.ref x :: ([.ref l] ++ [])) (upd (upd H dx (.own x)) x (.ins c.md dx [])) (fun v H2 => v = .non ∧ PP x H2) E := fun x dx nx nd ne => by
  have up : Same H (upd (upd H dx (.own x)) x (.ins c.md dx [])) := fun b o e => by rw [upd_ne (ne_of_none e nx), upd_ne (ne_of_none e nd)]; exact e
  refine ⟨x, dx, l, ts, ps, rfl, upd_same, up _ _ hl, paired_imp (fun _ _ z => up _ _ z) hp, ha, hs, fun H' t k h1 h2 => ⟨rfl, ?_⟩⟩
  have sm : Same H H' := mk_same nx nd k
  exact q x H' nx sm ⟨dx, t, ts, h1, h2, paired_imp (fun _ _ z => sm _ _ z) hp, ha, hs⟩
noncomputable def spReqMod (c : CA) : Sp := fun vs H Q _ => ∃ (m dx : Addr) (fs : List (Str × V)), vs = [.ref m] ∧ H m = some (.ins c.md dx fs) ∧ Q .non H
noncomputable def rAgree (y : Sty) (b n : Int) (ls ms : List Int) : Bool := decide (mark y b n ls = mark y b n ms)
section
variable {X : Cx} {k j : Nat} {x : Str} {C : Addr} {sp : Sp} {dvs : List V} {p pos : Pos} {ks : List Str} {gV : List V → List V → List V} {kws : List Keyword} {tk : TA}
structure MakK (P : Program) (w : World) (K : PySem.W.Frag) (mg : Str → Option Value) (base : Heap) (k : Nat) (x : Str) (C : Addr) (ks : List Str) (sp : Sp) (gV : List V → List V → List V) : Prop where
  ex : ∃ (f : Addr) (fd : FuncData) (ps : List Str) (g : List Value → List Value → List Value), Mk K C f ∧ FnOk P w K mg base L2.CX0 k f fd ps sp ∧ mg x = some (.ref C) ∧ KBn K fd ps 1 ks g gV
theorem pe_mkK0 (c : MakK X.prog X.w X.K X.mg X.base k x C ks sp gV) (hr : Room j X.A) (hk : k + 1 ≤ j) (hg : Gl X x) (hkw : PK X kws tk)
    (hall : (backToKw pos (keywordEach kws X.env)).all (·.1.isSome) = true := by rfl) (hks : (backToKw pos (keywordEach kws X.env)).filterMap (·.1) = ks := by rfl) (hdb : (x == ("__debug__" : Str)) = false := by decide)
    (hpl : ((backTo pos (starEach [] X.env)).any (·.1) || (backToKw pos (keywordEach kws X.env)).any (·.1.isNone)) = false := by rfl) :
    PE X (.Call (.Name x p) [] kws pos) (tMakeK C 0 ks.length sp gV L2.E0 tNil tk) := by
  obtain ⟨f, fd, ps, g, M, F, hm, b⟩ := c.ex
  exact pe_makeK0 M F (hr.mono hk) hg hm b pass0 hkw hall hks hdb hpl
theorem w_makeK {σ : L2.St} {H : Hp} {Q : VK} {n m : Nat} {E : XK} {t tk : TA} (q : t σ H fun vs H1 => tk σ H1 fun zs H2 => vs.length = n ∧ zs.length = m ∧ ∀ x dx, H2 x = none → H2 dx = none → dx ≠ x → sp (gV (.ref x :: vs) zs) (upd (upd H2 dx (.own x)) x (.ins C dx [])) (fun v H3 => v = .non ∧ Q (.ref x) H3) E) : tMakeK C n m sp gV E t tk σ H Q := q
theorem w_callN {σ : L2.St} {H : Hp} {Q : VK} {n m : Nat} {E : XK} {t tk : TA} (q : t σ H fun vs H1 => tk σ H1 fun zs H2 => vs.length = n ∧ zs.length = m ∧ sp (gV vs zs) H2 Q E) : tCallN n m sp gV E t tk σ H Q := q
end
section
variable {K : PySem.W.Frag} {H : Hp}
theorem dp_ints : ∀ ls : List Int, DpAll K H (ls.map V.int) (ls.map PyData.int)
  | [] => .nil
  | i :: r => .cons (.int i) (dp_ints r)
theorem eqv_ints : ∀ ls ms : List Int, PyData.eqvAll (ls.map PyData.int) (ms.map PyData.int) = decide (ls = ms)
  | [], [] => by simp [PyData.eqvAll]
  | [], _ :: _ => by simp [PyData.eqvAll]
  | _ :: _, [] => by simp [PyData.eqvAll]
  | i :: r, j :: t => by
    rw [List.map_cons, List.map_cons, PyData.eqvAll, eqv_ints r t, PyData.eqv]
    simp only [List.cons.injEq, Bool.decide_and]
    congr 1
theorem lay_ints : ∀ ls : List Int, PyData.canLayAll0 (ls.map PyData.int) = true
  | [] => rfl
  | i :: r => by
    rw [List.map_cons, PyData.canLayAll0, lay_ints r]
    rfl
theorem depth_ints : ∀ ls : List Int, PyData.depthAll (ls.map PyData.int) = 0
  | [] => rfl
  | i :: r => by
    rw [List.map_cons, PyData.depthAll, depth_ints r]
    rfl
theorem shaped_lst (ls : List Int) : SeqAt.shaped (.list (ls.map PyData.int)) = true := by
  unfold SeqAt.shaped
  rw [PyData.canLay0, lay_ints, PyData.depth, depth_ints]
  rfl
theorem w_neLL {a b : Addr} {ls ms : List Int} {Q : VK} (ha : SqL K H a (ls.map V.int)) (hb : SqL K H b (ms.map V.int)) (q : Q (.bl (!decide (ls = ms))) H) : rNeD K (.ref a) (.ref b) H Q :=
  ⟨_, _, .lst ha (dp_ints ls), .lst hb (dp_ints ms), shaped_lst _, shaped_lst _, by rw [PyData.eqv, eqv_ints]; exact q⟩
theorem w_eqLL {a b : Addr} {ls ms : List Int} {Q : VK} (ha : SqL K H a (ls.map V.int)) (hb : SqL K H b (ms.map V.int)) (q : Q (.bl (decide (ls = ms))) H) : rEqD K (.ref a) (.ref b) H Q :=
  ⟨_, _, .lst ha (dp_ints ls), .lst hb (dp_ints ms), shaped_lst _, shaped_lst _, by rw [PyData.eqv, eqv_ints]; exact q⟩
end
theorem mk_low {l : Bool} {s : Int} {d : Bool} : (mkF l s d).lookup ("low" : Str) = some (.bl l) := lk0
theorem mk_shift {l : Bool} {s : Int} {d : Bool} : (mkF l s d).lookup ("shift" : Str) = some (.int s) := (lkS (by decide +kernel)).trans lk0
theorem mk_lead {l : Bool} {s : Int} {d : Bool} : (mkF l s d).lookup ("lead" : Str) = some (.bl d) := (lkS (by decide +kernel)).trans ((lkS (by decide +kernel)).trans lk0)
theorem md_number {n : Int} {t : Addr} : (mdF n t).lookup ("number" : Str) = some (.int n) := lk0
theorem md_factors {n : Int} {t : Addr} : (mdF n t).lookup ("factors" : Str) = some (.ref t) := (lkS (by decide +kernel)).trans lk0
theorem wy_marking {k m : Addr} {n b : Int} : (wyF k m n b).lookup ("marking" : Str) = some (.ref k) := lk0
theorem wy_modulus {k m : Addr} {n b : Int} : (wyF k m n b).lookup ("modulus" : Str) = some (.ref m) := (lkS (by decide +kernel)).trans lk0
theorem wy_number {k m : Addr} {n b : Int} : (wyF k m n b).lookup ("number" : Str) = some (.int n) := (lkS (by decide +kernel)).trans ((lkS (by decide +kernel)).trans lk0)
theorem wy_base {k m : Addr} {n b : Int} : (wyF k m n b).lookup ("base" : Str) = some (.int b) := (lkS (by decide +kernel)).trans ((lkS (by decide +kernel)).trans ((lkS (by decide +kernel)).trans lk0))
theorem w_tyL {K : PySem.W.Frag} {H : Hp} {a : Addr} {xs : List V} {P : Prop} (h : SqL K H a xs) (q : P) : tyV K "list" (.ref a) H ∧ P := ⟨Or.inl ⟨rfl, _, h⟩, q⟩
theorem decI {a b : Int} : decide (V.int a = V.int b) = decide (a = b) := by
  by_cases z : a = b
  · rw [decide_eq_true z, decide_eq_true (by rw [z])]
  · rw [decide_eq_false z, decide_eq_false (fun w => z (by injection w))]
theorem w_m1 {σ : L2.St} {H : Hp} {Q : VK} {r : V → List V → Hp → VK → Prop} {to te : TE} (q : to σ H fun x H1 => (∃ a, x = .str a) ∧ te σ H1 fun y H2 => r x [y] H2 Q) : tM1 r to te σ H Q := q
theorem w_isStr {z : Str} {P : Prop} (q : P) : (∃ a, V.str z = .str a) ∧ P := ⟨⟨z, rfl⟩, q⟩
section
variable {a b : Addr} {c : Int} {H H' : Hp} {o : HO}
theorem Purse.ne (p : Purse H a c) (h : H b = some o) (d : ∀ x y z : Int, o ≠ .lst [.int x, .int y, .int z]) : b ≠ a := fun e => by
  obtain ⟨x, y, z, h1, _⟩ := p
  rw [e, h1] at h
  exact d x y z (Option.some.inj h).symm
theorem Purse.fresh (p : Purse H a c) (h : H b = none) : b ≠ a := fun e => by
  obtain ⟨x, y, z, h1, _⟩ := p
  rw [e, h1] at h
  cases h
theorem Keep.free (k : Keep a H H') (p : Purse H' a c) (h : H' b = none) : H b = none := by
  cases e : H b with
  | none => rfl
  | some o =>
    by_cases z : b = a
    · obtain ⟨_, _, _, e2, _⟩ := p
      rw [z, e2] at h
      cases h
    · rw [k _ _ z e] at h
      cases h
theorem Keep.tup {xs : List V} (k : Keep a H H') (p : Purse H a c) (h : H b = some (.tup xs)) : H' b = some (.tup xs) := k b _ (p.ne h fun _ _ _ z => by cases z) h
theorem Keep.ins {C dx : Addr} {fs : List (Str × V)} (k : Keep a H H') (p : Purse H a c) (h : H b = some (.ins C dx fs)) : H' b = some (.ins C dx fs) := k b _ (p.ne h fun _ _ _ z => by cases z) h
/-- a list of pairs -/
noncomputable def PrL (H : Hp) (l : Addr) (ps : List (Int × Int)) : Prop := ∃ ts : List Addr, H l = some (.lst (ts.map V.ref)) ∧ Paired (Tp H) ps ts
theorem refs_ne {ts : List Addr} (x y z : Int) : HO.lst (ts.map V.ref) ≠ .lst [.int x, .int y, .int z] := fun e => by
  injection e with e
  cases ts with
  | nil => cases e
  | cons t r =>
    rw [List.map_cons] at e
    injection e with e1
    cases e1
theorem PrL.keep {l : Addr} {ps : List (Int × Int)} (h : PrL H l ps) (p : Purse H a c) (k : Keep a H H') : PrL H' l ps := by
  obtain ⟨ts, h1, h2⟩ := h
  exact ⟨ts, k l _ (p.ne h1 refs_ne) h1, paired_imp (fun _ _ z => k.tup p z) h2⟩
theorem PrL.same {l : Addr} {ps : List (Int × Int)} (h : PrL H l ps) (s : Same H H') : PrL H' l ps := by
  obtain ⟨ts, h1, h2⟩ := h
  exact ⟨ts, s _ _ h1, paired_imp (fun _ _ z => s _ _ z) h2⟩
theorem ModAt.keep {ca : CA} {m : Addr} {ps : List (Int × Int)} (h : ModAt ca H m ps) (p : Purse H a c) (k : Keep a H H') : ModAt ca H' m ps := by
  obtain ⟨dx, t, ts, h1, h2, h3, h4⟩ := h
  exact ⟨dx, t, ts, k.ins p h1, k.tup p h2, paired_imp (fun _ _ z => k.tup p z) h3, h4⟩
theorem MkAt.keep {ca : CA} {m : Addr} {l : Bool} {s : Int} {d : Bool} (h : MkAt ca H m l s d) (p : Purse H a c) (k : Keep a H H') : MkAt ca H' m l s d := by
  obtain ⟨dx, h1⟩ := h
  exact ⟨dx, k.ins p h1⟩
theorem WayAt.keep {ca : CA} {m : Addr} {b : Int} {ps : List (Int × Int)} {y : Sty} (h : WayAt ca H m b ps y) (p : Purse H a c) (k : Keep a H H') : WayAt ca H' m b ps y := by
  obtain ⟨dx, m1, k1, h1, h2, h3, h4⟩ := h
  exact ⟨dx, m1, k1, k.ins p h1, h2.keep p k, h3.keep p k, h4⟩
theorem Keep.new (p : Purse H a c) {q : Addr} (n : H q = none) : Keep a H (L2.upd H q o) := .of (Same.new n)
end
theorem Asc.snoc : ∀ {l : Int} {ps : List (Int × Int)} {q : Int × Int}, Asc l ps → (ps.getLast?.map (·.1)).getD l < q.1 → 0 < q.2 → Pr q.1 → Asc l (ps ++ [q])
  | l, [], q, _, h1, h2, h3 => ⟨h1, h2, h3, trivial⟩
  | l, r :: ps, q, a, h1, h2, h3 => by
    refine ⟨a.1, a.2.1, a.2.2.1, Asc.snoc a.2.2.2 ?_ h2 h3⟩
    rw [List.getLast?_cons] at h1
    cases hh : ps.getLast? with
    | none => rw [hh] at h1; exact h1
    | some z => rw [hh] at h1; exact h1
noncomputable instance (n : Int) : Decidable (∀ d : Int, 2 ≤ d → d * d ≤ n → n % d ≠ 0) := 
  if h : ∀ k : Fin 64, (2 ≤ k.val ∧ (k.val : Int) * k.val ≤ n) → n % (k.val : Int) ≠ 0 then
    if h2 : n < 4096 then .isTrue (fun d h3 h4 => by
      have hd : d < 64 := by
        refine Int.not_le.mp fun z => ?_
        have := Int.mul_le_mul z z (by decide) (by omega)
        omega
      have e : ((d.toNat : Nat) : Int) = d := Int.toNat_of_nonneg (by omega)
      have := h ⟨d.toNat, by omega⟩ ⟨by show 2 ≤ d.toNat; omega, by show ((d.toNat : Nat) : Int) * ((d.toNat : Nat) : Int) ≤ n; rw [e]; exact h4⟩
      rwa [show (((⟨d.toNat, by omega⟩ : Fin 64).val : Nat) : Int) = d from e] at this)
    else if h5 : ∀ k : Fin n.toNat, (2 ≤ k.val ∧ (k.val : Int) * k.val ≤ n) → n % (k.val : Int) ≠ 0 then .isTrue (fun d h3 h4 => by
      have hd : d < n := by
        refine Int.not_le.mp fun z => ?_
        have : n * 2 ≤ d * d := Int.mul_le_mul z h3 (by decide) (by omega)
        omega
      have e : ((d.toNat : Nat) : Int) = d := Int.toNat_of_nonneg (by omega)
      have := h5 ⟨d.toNat, by omega⟩ ⟨by show 2 ≤ d.toNat; omega, by show ((d.toNat : Nat) : Int) * ((d.toNat : Nat) : Int) ≤ n; rw [e]; exact h4⟩
      rwa [show (((⟨d.toNat, by omega⟩ : Fin n.toNat).val : Nat) : Int) = d from e] at this)
    else .isFalse fun z => h5 fun k hk => z k.val (by omega) hk.2
  else .isFalse fun z => h fun k hk => z k.val (by omega) hk.2
noncomputable instance (n : Int) : Decidable (Pr n) := inferInstanceAs (Decidable (_ ∧ _))
theorem prN {p : Int} (h : Pr p) (d : Nat) (hd : d ∣ p.natAbs) : d = 1 ∨ d = p.natAbs := by
  obtain ⟨e, he⟩ := hd
  have hp := h.1
  have h0 : p = ((d * e : Nat) : Int) := by omega
  by_cases d1 : d = 1
  · exact .inl d1
  by_cases e1 : e = 1
  · right; rw [he, e1, Nat.mul_one]
  exfalso
  have d0 : d ≠ 0 := fun z => by rw [z, Nat.zero_mul] at he; omega
  have e0 : e ≠ 0 := fun z => by rw [z, Nat.mul_zero] at he; omega
  by_cases c : d ≤ e
  · refine h.2 d (by omega) ?_ ?_
    · rw [h0]
      have : d * d ≤ d * e := Nat.mul_le_mul_left d c
      exact_mod_cast this
    · rw [h0, Int.natCast_mul]
      exact Int.mul_emod_right _ _
  · refine h.2 e (by omega) ?_ ?_
    · rw [h0]
      have : e * e ≤ d * e := Nat.mul_le_mul_right e (by omega)
      exact_mod_cast this
    · rw [h0, Int.natCast_mul]
      exact Int.mul_emod_left _ _
theorem cop_or {p : Int} (h : Pr p) (b : Nat) : p.natAbs ∣ b ∨ Nat.Coprime b p.natAbs := by
  rcases prN h _ (Nat.gcd_dvd_right b p.natAbs) with e | e
  · exact .inr e
  · left
    have := Nat.gcd_dvd_left b p.natAbs
    rwa [e] at this
noncomputable def numN (ps : List (Int × Int)) : Nat := ps.foldl (fun n p => n * p.1.natAbs ^ p.2.toNat) 1
theorem numN_fold (ps : List (Int × Int)) : ∀ a : Nat, ps.foldl (fun n p => n * p.1.natAbs ^ p.2.toNat) a = a * numN ps := by
  unfold numN
  induction ps with
  | nil => intro a; simp
  | cons q r ih =>
    intro a
    rw [List.foldl_cons, List.foldl_cons, ih, ih (1 * _), Nat.one_mul, Nat.mul_assoc]
theorem numN_cons (q : Int × Int) (ps : List (Int × Int)) : numN (q :: ps) = q.1.natAbs ^ q.2.toNat * numN ps := by
  show List.foldl _ _ _ = _
  rw [List.foldl_cons, numN_fold, Nat.one_mul]
theorem num_fold (ps : List (Int × Int)) : ∀ a : Int, ps.foldl (fun n p => n * p.1 ^ p.2.toNat) a = a * num ps := by
  unfold num
  induction ps with
  | nil => intro a; simp
  | cons q r ih =>
    intro a
    rw [List.foldl_cons, List.foldl_cons, ih, ih (1 * _), Int.one_mul, Int.mul_assoc]
theorem num_cons (q : Int × Int) (ps : List (Int × Int)) : num (q :: ps) = q.1 ^ q.2.toNat * num ps := by
  show List.foldl _ _ _ = _
  rw [List.foldl_cons, num_fold, Int.one_mul]
theorem num_cast : ∀ {l : Int} {ps : List (Int × Int)}, 0 ≤ l → Asc l ps → num ps = (numN ps : Int)
  | _, [], _, _ => rfl
  | l, q :: r, h0, a => by
    have h1 := a.1
    rw [num_cons, numN_cons, num_cast (l := q.1) (by omega) a.2.2.2, Int.natCast_mul, Int.natCast_pow, Int.natAbs_of_nonneg (by omega)]
theorem Asc.lt : ∀ {l : Int} {ps : List (Int × Int)}, Asc l ps → ∀ q ∈ ps, l < q.1 ∧ 0 < q.2 ∧ Pr q.1
  | _, [], _, q, h => by cases h
  | l, r :: ps, a, q, h => by
    rcases List.mem_cons.mp h with e | e
    · rw [e]; exact ⟨a.1, a.2.1, a.2.2.1⟩
    · have := Asc.lt a.2.2.2 q e
      exact ⟨Int.lt_trans a.1 this.1, this.2⟩
theorem cop_num {p : Int} (hp : Pr p) (k : Nat) : ∀ {ps : List (Int × Int)}, (∀ q ∈ ps, p < q.1 ∧ 0 < q.2 ∧ Pr q.1) → Nat.Coprime (p.natAbs ^ k) (numN ps)
  | [], _ => Nat.coprime_one_right _
  | q :: r, h => by
    rw [numN_cons]
    refine Nat.Coprime.mul_right (Nat.Coprime.pow _ _ ?_) (cop_num hp k fun q hq => h q (List.mem_cons_of_mem _ hq))
    have hq := h q (List.mem_cons_self ..)
    have hp1 := hp.1
    rcases cop_or hq.2.2 p.natAbs with z | z
    · exfalso
      have := Nat.le_of_dvd (by omega) z
      omega
    · exact z
/-- the first of the places below N at which P holds -/
noncomputable def Fst (P : Nat → Prop) (N : Nat) : Option Nat → Prop
  | none => ∀ e, e < N → ¬ P e
  | some e => e < N ∧ P e ∧ ∀ j, j < e → ¬ P j
theorem Fst.same {P P' : Nat → Prop} {N M S : Nat} {r r' : Option Nat} (h : Fst P N r) (h' : Fst P' M r') (e : ∀ j, P j ↔ P' j) (st : ∀ j, S ≤ j → P j → P S) (hN : S < N) (hM : S < M) : r = r' := by
  have low : ∀ j, P j → ∃ i, i ≤ S ∧ i ≤ j ∧ P i := fun j hj => by
    by_cases c : S ≤ j
    · exact ⟨S, Nat.le_refl _, c, st j c hj⟩
    · exact ⟨j, by omega, Nat.le_refl _, hj⟩
  cases r with
  | none =>
    cases r' with
    | none => rfl
    | some e' =>
      obtain ⟨i, h1, h2, h3⟩ := low e' ((e e').mpr h'.2.1)
      exact absurd h3 (h i (by omega))
  | some e1 =>
    cases r' with
    | none =>
      obtain ⟨i, h1, h2, h3⟩ := low e1 h.2.1
      exact absurd ((e i).mp h3) (h' i (by omega))
    | some e2 =>
      have a1 : ¬ e1 < e2 := fun z => h'.2.2 e1 z ((e e1).mp h.2.1)
      have a2 : ¬ e2 < e1 := fun z => h.2.2 e2 z ((e e2).mpr h'.2.1)
      have : e1 = e2 := by omega
      rw [this]
section
variable {J : It} {G : Hp → Prop} {tt : TT} {te : TE} {vs : List Nat} {σ : L2.St} {H : Hp} {D : Addr} {Qd : Hp → Prop} {j : Nat}
theorem lc_filt (xs : List V) (p : V → Bool) (f : V → V) (w : Walk J xs.length G (YAt xs)) (hD : H D = none) (hG : ∀ H', Same H H' → G H') (sz : xs.length ≤ 100000)
    (wp : ∀ v, wipe ((wipe σ vs).set j v) vs = wipe σ vs)
    (tst : ∀ (i : Nat) (x : V) (H' : Hp), xs[i]? = some x → Same H H' → ∀ Q' : Bool → Hp → Prop, (∀ H'', Same H' H'' → Q' (p x) H'') → tt ((wipe σ vs).set j (some x)) H' Q')
    (step : ∀ (i : Nat) (x : V) (H' : Hp), xs[i]? = some x → p x = true → Same H H' → ∀ Q' : VK, (∀ H'', Same H' H'' → Q' (f x) H'') → te ((wipe σ vs).set j (some x)) H' Q')
    (q : ∀ H', Same H H' → H' D = some (.lst ((xs.filter p).map f)) → Qd H') :
    ∃ W : Nat → Nat → Hp → Prop, (∃ m, W 0 m (upd H D (.lst []))) ∧ ∀ i m H, W i m H →
      (J.stop i H ∧ Qd H) ∨ (J.go i H ∧ ∃ Nx : Hp → Prop, (∀ H', Nx H' → ∃ m', m' < m ∧ W (i + 1) m' H') ∧ ∀ x H', J.yld i H x H' → gName j x (wipe σ vs) H' fun σ2 H2 => wipe σ2 vs = wipe σ vs ∧ tt σ2 H2 fun b H3 =>
        if b = true then te σ2 H3 fun y H4 => ∃ acc, H4 D = some (.lst acc) ∧ acc.length < sizeLine ∧ Nx (upd H4 D (.lst (acc ++ [y]))) else Nx H3) := by
  refine lc_it w (fun i H' => H' D = some (.lst (((xs.take i).filter p).map f)) ∧ Same H H') ⟨upd_same, Same.new hD⟩ (fun i H' _ h => hG H' h.2) ?_ ?_
  · rintro i x H1 H' hi ⟨h1, h2⟩ ⟨rfl, hx⟩
    refine ⟨wp _, ?_⟩
    have e : xs[i] = x := by rw [List.getElem?_eq_getElem hi] at hx; exact Option.some.inj hx
    have tk : xs.take (i + 1) = xs.take i ++ [x] := by rw [List.take_succ_eq_append_getElem hi, e]
    refine tst i x H' hx h2 _ fun H2 s2 => ?_
    by_cases hp : p x = true
    · rw [hp]
      refine iteT ?_
      refine step i x H2 hx hp (h2.trans s2) _ fun H3 s3 => ?_
      refine ⟨_, s3 _ _ (s2 _ _ h1), ?_, ?_, ?_⟩
      · rw [List.length_map]
        have h5 := List.length_filter_le p (xs.take i)
        rw [List.length_take] at h5
        have : (100000 : Nat) < sizeLine := by decide
        omega
      · rw [upd_same, tk, List.filter_append, List.map_append, List.filter_cons, if_pos hp]
        rfl
      · exact fun b o e => by
          rw [upd_ne (ne_of_none e hD)]
          exact s3 _ _ (s2 _ _ (h2 _ _ e))
    · have hp' : p x = false := by simpa using hp
      rw [hp']
      refine iteF ?_
      refine ⟨?_, h2.trans s2⟩
      rw [s2 _ _ h1, tk, List.filter_append, List.map_append, List.filter_cons, if_neg hp]
      simp
  · rintro H' ⟨h1, h2⟩
    refine q H' h2 ?_
    rw [h1, List.take_length]
end
theorem walk_rangeY {lo : Int} {n : Nat} : Walk (Itr lo n) ((List.range n).map fun i : Nat => V.int (lo + i)).length (fun _ => True) (YAt ((List.range n).map fun i : Nat => V.int (lo + i))) := by
  have h := walk_range (lo := lo) (n := n)
  have e : ((List.range n).map fun i : Nat => V.int (lo + i)).length = n := by simp
  rw [e]
  refine h.mono (fun _ h => h) (fun i H x H' hi _ y => ?_)
  obtain ⟨rfl, rfl⟩ := y
  refine ⟨rfl, ?_⟩
  rw [List.getElem?_map, List.getElem?_range hi]
  rfl
noncomputable def hv (cs : List Int) (b : Int) : Int := cs.foldl (fun f c => f * b + c) 0
theorem hv_fold (cs : List Int) (b : Int) : ∀ a : Int, cs.foldl (fun f c => f * b + c) a = a * b ^ cs.length + hv cs b := by
  unfold hv
  induction cs with
  | nil => intro a; simp
  | cons c r ih =>
    intro a
    rw [List.foldl_cons, List.foldl_cons, ih, ih (0 * b + c), List.length_cons, Int.pow_succ, Int.zero_mul, Int.zero_add, Int.add_mul, Int.mul_assoc, Int.mul_comm b]
    omega
noncomputable def spMixed : Sp := fun vs H Q _ => ∃ a b : Int, vs = [.int a, .int b] ∧ 0 ≤ a ∧ a < 2 ^ 31 ∧ 0 ≤ b ∧ b < 2 ^ 60 ∧ ∀ r : Int, 0 ≤ r → r < 2 ^ 31 → Q (.int r) H
noncomputable def spPurse (K : PySem.W.Frag) : Sp := fun vs H Q _ => ∃ (a : Addr) (ns : List Int) (i : Int), vs = [.ref a, .int i] ∧ SqL K H a (ns.map V.int) ∧ 0 ≤ i ∧ i < 2 ^ 40 ∧
  ∀ p H', H p = none → Same H H' → Purse H' p (1000 * i) → Q (.ref p) H'
noncomputable def spDraw : Sp := fun vs H Q _ => ∃ (a : Addr) (n c : Int), vs = [.ref a, .int n] ∧ 0 < n ∧ n < 2 ^ 60 ∧ c < 2 ^ 50 ∧ Purse H a c ∧
  ∀ r H', 0 ≤ r → r < n → Keep a H H' → Purse H' a (c + 1) → Q (.int r) H'
theorem use_draw {H : Hp} {Q : VK} {E : XK} {a : Addr} {n c : Int} (p : Purse H a c) (n0 : 0 < n) (n1 : n < 2 ^ 60) (hc : c < 2 ^ 50) (q : ∀ r H', 0 ≤ r → r < n → Keep a H H' → Purse H' a (c + 1) → Q (.int r) H') :
    spDraw ([.ref a, .int n] ++ []) H Q E := ⟨a, n, c, rfl, n0, n1, hc, p, q⟩
theorem w_st {t : TS} {N : List Str} {vs : List V} {σ' : L2.St} {D : Ends} {H : Hp} (h : L2.start N vs = σ') (q : t D σ' H) : t D (L2.start N vs) H := by rw [h]; exact q
theorem w_setN {te : TE} {i : Nat} {σ : L2.St} {σ' : V → L2.St} {D : Ends} {H : Hp} (h : ∀ x, σ.set i (some x) = σ' x) (q : te σ H fun x H1 => D.nx (σ' x) H1) : tAsg te (gName i) D σ H := by
  have e : (fun x H1 => D.nx (σ' x) H1) = fun x H1 => gName i x σ H1 D.nx := by
    funext x H1
    rw [← h x]
    rfl
  show te σ H fun x H1 => gName i x σ H1 D.nx
  rw [← e]
  exact q
theorem w_nxD {D : Ends} {σ : L2.St} {H : Hp} (q : D.nx σ H) : D.nx σ H := q
theorem w_rtD {D : Ends} {v : V} {H : Hp} (q : D.rt v H) : D.rt v H := q
theorem w_ctD {D : Ends} {σ : L2.St} {H : Hp} (q : D.ct σ H) : D.ct σ H := q
theorem w_bkD {D : Ends} {σ : L2.St} {H : Hp} (q : D.bk σ H) : D.bk σ H := q
end Bc
namespace Bc
open PySem PySem.Spec PyProof.Rows L2
theorem take_min {α : Type} (xs : List α) (j : Nat) : xs.take (min j xs.length) = xs.take j := by
  by_cases h : j ≤ xs.length
  · rw [Nat.min_eq_left h]
  · rw [Nat.min_eq_right (by omega), List.take_length, List.take_of_length_le (by omega)]
theorem sz {n : Nat} (h : n ≤ 100000) : n ≤ sizeLine := Nat.le_trans h (by decide)
theorem vals_rev : ∀ {zs : List V} {ws : List Value}, Vals zs ws → Vals zs.reverse ws.reverse
  | _, _, .nil => .nil
  | _, _, .cons r t => by
    rw [List.reverse_cons, List.reverse_cons]
    exact Vals.append (vals_rev t) (.cons r .nil)
noncomputable def spLaw (K : PySem.W.Frag) : Sp := fun vs H Q _ => ∃ (a : Addr) (ns : List Int), vs = [.ref a] ∧ SqL K H a (ns.map V.int) ∧ ns.length ≤ 63 ∧ ∀ H', Q (.bl true) H'
end Bc
namespace Bc
open PySem PySem.Spec PyProof.Rows L2
noncomputable def NotAt (a : Addr) : V → Prop
  | .ref p => p ≠ a
  | _ => True
theorem TextAt.keep {a : Addr} {H H' : Hp} {v : V} {ls : List Int} (t : TextAt H v ls) (n : NotAt a v) (k : Keep a H H') : TextAt H' v ls := by
  cases t with
  | str z h l => exact .str z h l
  | lst p _ h l => exact .lst p _ (k _ _ n h) l
  | tup p _ h l => exact .tup p _ (k _ _ n h) l
end Bc
namespace Bc
open PySem PySem.Spec PyProof.Rows L2
section
variable {X : Cx} {k j : Nat} {C : Addr} {sp : Sp} {tf : TE} {t : TA} {fe e : Expr} {es : List Expr} {pos : Pos}
noncomputable def tCO (C : Addr) (sp : Sp) (E : XK) (tf : TE) (t : TA) : TE := fun σ H Q => tf σ H fun y H1 => ∃ a, y = V.ref a ∧ t σ H1 fun vs H2 => ((∃ dx vs, SlX.Slt H2 a C dx vs) ∨ ∃ dx fs, H2 a = some (.ins C dx fs)) ∧ sp (V.ref a :: vs) H2 Q E
theorem w_cO {σ : L2.St} {H : Hp} {Q : VK} {E : XK} (q : tf σ H fun y H1 => ∃ a, y = V.ref a ∧ t σ H1 fun vs H2 => ((∃ dx vs, SlX.Slt H2 a C dx vs) ∨ ∃ dx fs, H2 a = some (.ins C dx fs)) ∧ sp (V.ref a :: vs) H2 Q E) : tCO C sp E tf t σ H Q := q
end
theorem WayAt.pos {c : CA} {H : Hp} {x : Addr} {b : Int} {ps : List (Int × Int)} {y : Sty} (h : WayAt c H x b ps y) : 0 < num ps := by
  obtain ⟨_, _, _, _, _, _, h1, h2⟩ := h
  omega
end Bc
namespace Bc
open PySem PySem.Spec PyProof.Rows L2
theorem hv_app (u v : List Int) (b : Int) : hv (u ++ v) b = hv u b * b ^ v.length + hv v b := by
  show List.foldl _ _ _ = _
  rw [List.foldl_append, hv_fold]
  rfl
/-- the two rows of the search for an inverse -/
noncomputable def InvRow (r n one two f l : Int) : Prop := (one ≤ n ∧ two ≤ n) ∧ 0 < one ∧ 0 ≤ two ∧ (∃ u, f * r = one + n * u) ∧ (∃ v, l * r = two + n * v) ∧ Int.gcd one two = Int.gcd r n ∧ ∃ s F L : Int, (s = 1 ∨ s = -1) ∧ f = -s * F ∧ l = s * L ∧ 0 ≤ F ∧ 0 ≤ L ∧ L * one + F * two = n
theorem InvRow.start {r n : Int} (hn : 0 < n) : InvRow r n n (r % n) 0 1 := by
  have hlt := Int.emod_lt_of_pos r hn
  refine ⟨⟨by omega, by omega⟩, hn, Int.emod_nonneg _ (by omega), ⟨-1, by omega⟩, ⟨r / n, ?_⟩, ?_, 1, 0, 1, .inl rfl, rfl, rfl, by decide, by decide, by omega⟩
  · have := Int.emod_add_mul_ediv r n
    omega
  · have h := Int.gcd_mul_left_add_left n (r % n) (r / n)
    rw [Int.mul_ediv_add_emod] at h
    rw [Int.gcd_comm, h]
theorem InvRow.step {r n one two f l : Int} (h : InvRow r n one two f l) (h2 : two ≠ 0) : InvRow r n two (one - one / two * two) l (f - one / two * l) := by
  obtain ⟨a0, a1, a2, ⟨u, a3⟩, ⟨v, a4⟩, a5, s, F, L, a6, a7, a8, a9, a10, a11⟩ := h
  have hlt := Int.emod_lt_of_pos one (show 0 < two by omega)
  have e : one - one / two * two = one % two := by rw [Int.emod_def, Int.mul_comm]
  have hm := Int.emod_nonneg one h2
  have hq : 0 ≤ one / two := Int.ediv_nonneg (by omega) a2
  refine ⟨⟨by omega, by omega⟩, by omega, by omega, ⟨v, a4⟩, ⟨u - one / two * v, ?_⟩, ?_, -s, L, F + one / two * L, ?_, ?_, ?_, a10, ?_, ?_⟩
  · generalize one / two = t
    grind
  · rw [e, ← a5]
    have h6 := Int.gcd_mul_left_add_right two (one % two) (one / two)
    rw [Int.mul_ediv_add_emod] at h6
    rw [← h6, Int.gcd_comm]
  · omega
  · rw [a8]; grind
  · rw [a7, a8]
    generalize one / two = t
    grind
  · have := Int.mul_nonneg hq a10
    omega
  · generalize one / two = t
    grind
theorem InvRow.small {r n one two f l : Int} (h : InvRow r n one two f l) : l.natAbs ≤ n.natAbs := by
  obtain ⟨_, a1, a2, _, _, _, s, F, L, a6, a7, a8, a9, a10, a11⟩ := h
  have h1 : L ≤ L * one := by
    have := Int.mul_le_mul_of_nonneg_left (show 1 ≤ one by omega) a10
    omega
  have h2 : 0 ≤ F * two := Int.mul_nonneg a9 a2
  rcases a6 with rfl | rfl <;> omega
end Bc
namespace Bc
open PySem PySem.Spec PyProof.Rows L2
theorem cg {n x y : Int} : x % n = y % n ↔ ∃ k, x = y + n * k := by
  rw [Int.emod_eq_emod_iff_emod_sub_eq_zero, ← Int.dvd_iff_emod_eq_zero]
  constructor
  · rintro ⟨k, hk⟩
    exact ⟨k, by omega⟩
  · rintro ⟨k, hk⟩
    exact ⟨k, by omega⟩
theorem self_mod (n x : Int) : ∃ k, x % n = x + n * k := ⟨-(x / n), by rw [Int.emod_def]; grind⟩
end Bc
namespace Bc
open PySem PySem.Spec PyProof.Rows L2
noncomputable def rm (a : Addr) (H : Hp) : Hp := fun b => if b = a then none else H b
section
variable {a b p : Addr} {c d : Int} {H H' X : Hp} {o : HO} {Q : VK} {ca : CA} {K : PySem.W.Frag}
theorem rm_le : Same (rm a H) H := fun b o h => by
  unfold rm at h
  by_cases e : b = a
  · rw [if_pos e] at h; cases h
  · rwa [if_neg e] at h
theorem rm_of (n : b ≠ a) (h : H b = some o) : rm a H b = some o := by
  unfold rm
  rw [if_neg n]; exact h
theorem rm_none (h : H b = none) : rm a H b = none := by
  unfold rm
  by_cases e : b = a
  · rw [if_pos e]
  · rw [if_neg e]; exact h
theorem rm_self : rm a H a = none := by
  unfold rm
  rw [if_pos rfl]
theorem Keep.rm (k : Keep a H H') : Same (rm a H) (rm a H') := fun b o h => by
  by_cases e : b = a
  · rw [e, rm_self] at h; cases h
  · exact rm_of e (k b o e (rm_le _ _ h))
theorem _root_.L2.Same.rm (s : Same H H') : Same (rm a H) (rm a H') := Keep.rm (.of s)
theorem rm_in (n : X a = none) (s : Same X H) : Same X (rm a H) := fun b o h => rm_of (fun e => by rw [e, n] at h; cases h) (s b o h)
theorem rm_upd (n : p ≠ a) : rm a (upd H p o) = upd (rm a H) p o := by
  funext b
  by_cases e : b = a
  · rw [e, rm_self, upd_ne n.symm, rm_self]
  · by_cases e2 : b = p
    · rw [e2, upd_same, rm_of n upd_same]
    · rw [upd_ne e2]
      unfold rm
      rw [if_neg e, if_neg e, upd_ne e2]
theorem rm_updS : rm a (upd H a o) = rm a H := by
  funext b
  by_cases e : b = a
  · rw [e, rm_self, rm_self]
  · unfold rm
    rw [if_neg e, if_neg e, upd_ne e]
theorem same_rm (s : Same X (rm a H)) : Same X H := s.trans rm_le
theorem hpL (h : X b = some o) (s : Same X H) : H b = some o := s _ _ h
theorem al (q : ∀ p H', H p = none → Same H H' → H' p = some o → atV Q (.ref p) H') : ∀ p, H p = none → atV Q (.ref p) (upd H p o) := fun p n => q p _ n (Same.new n) upd_same
theorem alR (pu : Purse H a c) (q : ∀ p H', Same (rm a H) (rm a H') → Purse H' a c → rm a H' p = some o → rm a H p = none → atV Q (.ref p) H') : ∀ p, H p = none → atV Q (.ref p) (upd H p o) := fun p n =>
  q p _ (Same.new n).rm (pu.same (Same.new n)) (rm_of (pu.fresh n) upd_same) (rm_none n)
theorem PrL.rm {l : Addr} {ps : List (Int × Int)} (h : PrL H l ps) (pu : Purse H a c) : PrL (rm a H) l ps := by
  obtain ⟨ts, h1, h2⟩ := h
  exact ⟨ts, rm_of (pu.ne h1 refs_ne) h1, paired_imp (fun _ _ z => rm_of (pu.ne z fun _ _ _ w => by cases w) z) h2⟩
theorem ModAt.rm {m : Addr} {ps : List (Int × Int)} (h : ModAt ca H m ps) (pu : Purse H a c) : ModAt ca (rm a H) m ps := by
  obtain ⟨dx, t, ts, h1, h2, h3, h4⟩ := h
  exact ⟨dx, t, ts, rm_of (pu.ne h1 fun _ _ _ w => by cases w) h1, rm_of (pu.ne h2 fun _ _ _ w => by cases w) h2, paired_imp (fun _ _ z => rm_of (pu.ne z fun _ _ _ w => by cases w) z) h3, h4⟩
theorem MkAt.rm {m : Addr} {l : Bool} {s : Int} {e : Bool} (h : MkAt ca H m l s e) (pu : Purse H a c) : MkAt ca (rm a H) m l s e := by
  obtain ⟨dx, h1⟩ := h
  exact ⟨dx, rm_of (pu.ne h1 fun _ _ _ w => by cases w) h1⟩
theorem WayAt.rm {m : Addr} {b : Int} {ps : List (Int × Int)} {y : Sty} (h : WayAt ca H m b ps y) (pu : Purse H a c) : WayAt ca (rm a H) m b ps y := by
  obtain ⟨dx, m1, k1, h1, h2, h3, h4⟩ := h
  exact ⟨dx, m1, k1, rm_of (pu.ne h1 fun _ _ _ w => by cases w) h1, h2.rm pu, h3.rm pu, h4⟩
theorem TextAt.rm {v : V} {ls : List Int} (t : TextAt H v ls) (n : NotAt a v) : TextAt (rm a H) v ls := by
  cases t with
  | str z h l => exact .str z h l
  | lst p _ h l => exact .lst p _ (rm_of n h) l
  | tup p _ h l => exact .tup p _ (rm_of n h) l
variable {x m k : Addr} {bb : Int} {ps : List (Int × Int)} {y : Sty} {mg : Str → Option Value} {P : V → Prop}
theorem w_wbase (X : Kx K mg ca) (h : WayAt ca H x bb ps y) (q : P (.int bb)) : ∃ a C dx fs v, V.ref x = .ref a ∧ H a = some (.ins C dx fs) ∧ Cls K C ∧ NoAttr K C "base" ∧ fs.lookup ("base" : Str) = some v ∧ P v := by
  obtain ⟨dx, m, k, hx, _⟩ := h
  exact w_fldi hx X.wy.cl X.base wy_base q
theorem w_wnum (X : Kx K mg ca) (h : WayAt ca H x bb ps y) (q : P (.int (num ps))) : ∃ a C dx fs v, V.ref x = .ref a ∧ H a = some (.ins C dx fs) ∧ Cls K C ∧ NoAttr K C "number" ∧ fs.lookup ("number" : Str) = some v ∧ P v := by
  obtain ⟨dx, m, k, hx, _⟩ := h
  exact w_fldi hx X.wy.cl X.wnumber wy_number q
theorem w_wmark (X : Kx K mg ca) (h : WayAt ca H x bb ps y) (q : ∀ k, MkAt ca H k y.low y.shift y.lead → P (.ref k)) : ∃ a C dx fs v, V.ref x = .ref a ∧ H a = some (.ins C dx fs) ∧ Cls K C ∧ NoAttr K C "marking" ∧ fs.lookup ("marking" : Str) = some v ∧ P v := by
  obtain ⟨dx, m, k, hx, hm, hk, _⟩ := h
  exact w_fldi hx X.wy.cl X.marking wy_marking (q k hk)
theorem w_wmod (X : Kx K mg ca) (h : WayAt ca H x bb ps y) (q : ∀ m, ModAt ca H m ps → P (.ref m)) : ∃ a C dx fs v, V.ref x = .ref a ∧ H a = some (.ins C dx fs) ∧ Cls K C ∧ NoAttr K C "modulus" ∧ fs.lookup ("modulus" : Str) = some v ∧ P v := by
  obtain ⟨dx, m, k, hx, hm, hk, _⟩ := h
  exact w_fldi hx X.wy.cl X.modulus wy_modulus (q m hm)
theorem w_mnum (X : Kx K mg ca) (h : ModAt ca H m ps) (q : P (.int (num ps))) : ∃ a C dx fs v, V.ref m = .ref a ∧ H a = some (.ins C dx fs) ∧ Cls K C ∧ NoAttr K C "number" ∧ fs.lookup ("number" : Str) = some v ∧ P v := by
  obtain ⟨dx, t, ts, hx, _⟩ := h
  exact w_fldi hx X.md.cl X.number md_number q
theorem w_mfac (X : Kx K mg ca) (h : ModAt ca H m ps) (q : ∀ t ts, H t = some (.tup (ts.map V.ref)) → Paired (Tp H) ps ts → P (.ref t)) : ∃ a C dx fs v, V.ref m = .ref a ∧ H a = some (.ins C dx fs) ∧ Cls K C ∧ NoAttr K C "factors" ∧ fs.lookup ("factors" : Str) = some v ∧ P v := by
  obtain ⟨dx, t, ts, hx, h1, h2, _⟩ := h
  exact w_fldi hx X.md.cl X.factors md_factors (q t ts h1 h2)
theorem w_klow (X : Kx K mg ca) {l e : Bool} {s : Int} (h : MkAt ca H k l s e) (q : P (.bl l)) : ∃ a C dx fs v, V.ref k = .ref a ∧ H a = some (.ins C dx fs) ∧ Cls K C ∧ NoAttr K C "low" ∧ fs.lookup ("low" : Str) = some v ∧ P v := by
  obtain ⟨dx, hx⟩ := h
  exact w_fldi hx X.kg.cl X.low mk_low q
theorem w_kshift (X : Kx K mg ca) {l e : Bool} {s : Int} (h : MkAt ca H k l s e) (q : P (.int s)) : ∃ a C dx fs v, V.ref k = .ref a ∧ H a = some (.ins C dx fs) ∧ Cls K C ∧ NoAttr K C "shift" ∧ fs.lookup ("shift" : Str) = some v ∧ P v := by
  obtain ⟨dx, hx⟩ := h
  exact w_fldi hx X.kg.cl X.shift mk_shift q
theorem w_klead (X : Kx K mg ca) {l e : Bool} {s : Int} (h : MkAt ca H k l s e) (q : P (.bl e)) : ∃ a C dx fs v, V.ref k = .ref a ∧ H a = some (.ins C dx fs) ∧ Cls K C ∧ NoAttr K C "lead" ∧ fs.lookup ("lead" : Str) = some v ∧ P v := by
  obtain ⟨dx, hx⟩ := h
  exact w_fldi hx X.kg.cl X.lead mk_lead q
variable {E : XK} {n : Int} {l g : Addr} {PP : Addr → Hp → Prop}
theorem use_drawR (pu : Purse H a c) (n0 : 0 < n) (n1 : n < 2 ^ 60) (hc : c < 2 ^ 50) (q : ∀ r H', 0 ≤ r → r < n → Same (rm a H) (rm a H') → Purse H' a (c + 1) → Q (.int r) H') : spDraw ([.ref a, .int n] ++ []) H Q E :=
  use_draw pu n0 n1 hc fun r H' h0 h1 k p => q r H' h0 h1 k.rm p
theorem use_modR (pu : Purse H a c) (hl : PrL H l ps) (ha : Asc 0 ps) (hs : Small ps) (q : ∀ m H', Same (rm a H) (rm a H') → Purse H' a c → ModAt ca (rm a H') m ps → PP m H') :
    ∀ x dx, H x = none → H dx = none → dx ≠ x → spModInit ca (.ref x :: ([.ref l] ++ [])) (upd (upd H dx (.own x)) x (.ins ca.md dx [])) (fun v H2 => v = .non ∧ PP x H2) E := by
  obtain ⟨ts, h1, h2⟩ := hl
  exact use_mod h1 h2 ha hs fun m H' _ s hm => q m H' s.rm (pu.same s) (hm.rm (pu.same s))
theorem use_modS (hl : PrL H l ps) (ha : Asc 0 ps) (hs : Small ps) (q : ∀ m H', Same H H' → ModAt ca H' m ps → PP m H') :
    ∀ x dx, H x = none → H dx = none → dx ≠ x → spModInit ca (.ref x :: ([.ref l] ++ [])) (upd (upd H dx (.own x)) x (.ins ca.md dx [])) (fun v H2 => v = .non ∧ PP x H2) E := by
  obtain ⟨ts, h1, h2⟩ := hl
  exact use_mod h1 h2 ha hs fun m H' _ s hm => q m H' s hm
end
end Bc
namespace Bc
open PySem PySem.Spec PyProof.Rows L2
end Bc
namespace Bc
open PySem PySem.Spec PyProof.Rows L2
section
variable {σ : L2.St} {H : Hp} {Q : VK} {ta tb : TE} {tr : L2.St → Hp → (Int → Int → Hp → Prop) → Prop} {R : Int → Int → Hp → Prop} {i j : Int} {P : Prop}
theorem w_lstRg (q : tr σ H fun a b H1 => RgOk a b ∧ ∀ q, H1 q = none → atV Q (.ref q) (upd H1 q (.lst (rgV a b)))) : tLstRg tr σ H Q := q
theorem w_rg1 (q : ta σ H fun x H1 => ∃ n, x = .int n ∧ R 0 n H1) : tRg1 ta σ H R := q
theorem w_rg2 (q : ta σ H fun x H1 => tb σ H1 fun y H2 => ∃ i j, x = .int i ∧ y = .int j ∧ R i j H2) : tRg2 ta tb σ H R := q
theorem w_rg2i {P : Int → Int → Prop} (q : P i j) : ∃ a b, V.int i = .int a ∧ V.int j = .int b ∧ P a b := ⟨i, j, rfl, rfl, q⟩
theorem w_rgok (h : -(2 ^ 62) ≤ i ∧ i < 2 ^ 62 ∧ -(2 ^ 62) ≤ j ∧ j < 2 ^ 62 ∧ (j - i).toNat ≤ 2 ^ 24) (q : P) : RgOk i j ∧ P := ⟨h, q⟩
end
section
variable {J : It} {G : Hp → Prop} {te : TE} {vs : List Nat} {σ : L2.St} {H : Hp} {D a : Addr} {c : Int} {Qd : Hp → Prop} {j : Nat}
/-- what is made of each item, by a relation that new things leave alone; the turns may draw -/
theorem lc_relR (xs : List V) (n : Int) (R : V → V → Hp → Prop) (mono : ∀ x y G G', Same G G' → R x y G → R x y G') (w : Walk J xs.length G (YAt xs)) (pu : Purse H a c) (hD : H D = none) (hG : ∀ H', Same (rm a H) (rm a H') → G H') (sz : xs.length ≤ 100000)
    (wp : ∀ v, wipe ((wipe σ vs).set j v) vs = wipe σ vs)
    (step : ∀ (i : Nat) (x : V) (H' : Hp), xs[i]? = some x → Same (rm a H) (rm a H') → Purse H' a (c + n * i) → (∃ acc, rm a H' D = some (.lst acc)) → ∀ Q' : VK, (∀ (y : V) (H'' : Hp), Same (rm a H') (rm a H'') → Purse H'' a (c + n * ((i + 1 : Nat) : Int)) → R x y (rm D (rm a H'')) → Q' y H'') → te ((wipe σ vs).set j (some x)) H' Q')
    (q : ∀ (H' : Hp) (ys : List V), Same (rm a H) (rm a H') → Purse H' a (c + n * xs.length) → rm a H' D = some (.lst ys) → Paired (fun x y => R x y (rm a H')) xs ys → Qd H') :
    ∃ W : Nat → Nat → Hp → Prop, (∃ m, W 0 m (upd H D (.lst []))) ∧ ∀ i m H, W i m H →
      (J.stop i H ∧ Qd H) ∨ (J.go i H ∧ ∃ Nx : Hp → Prop, (∀ H', Nx H' → ∃ m', m' < m ∧ W (i + 1) m' H') ∧ ∀ x H', J.yld i H x H' → gName j x (wipe σ vs) H' fun σ2 H2 => wipe σ2 vs = wipe σ vs ∧ tYes σ2 H2 fun b H3 =>
        if b = true then te σ2 H3 fun y H4 => ∃ acc, H4 D = some (.lst acc) ∧ acc.length < sizeLine ∧ Nx (upd H4 D (.lst (acc ++ [y]))) else Nx H3) := by
  have nD : D ≠ a := pu.fresh hD
  refine lc_it w (fun i H' => ∃ ys : List V, Same (rm a H) (rm D (rm a H')) ∧ Purse H' a (c + n * i) ∧ rm a H' D = some (.lst ys) ∧ Paired (fun x y => R x y (rm D (rm a H'))) (xs.take i) ys) ⟨[], ?_, (pu.same (Same.new hD)).le (by simp), rm_of nD upd_same, .nil⟩ (fun i H' _ h => by obtain ⟨_, k, _⟩ := h; exact hG H' (k.trans rm_le)) ?_ ?_
  · rw [rm_upd nD, rm_updS]
    exact rm_in (rm_none hD) (Same.refl _)
  · rintro i x H1 H' hi ⟨ys, h1, h2, h3, h4⟩ ⟨rfl, hx⟩
    refine ⟨wp _, w_yes ?_⟩
    rw [if_pos rfl]
    have el := h4.length
    rw [List.length_take] at el
    refine step i x H' hx (h1.trans rm_le) h2 ⟨_, h3⟩ _ fun y H2 s2 p2 r => ?_
    have e : xs[i] = x := by rw [List.getElem?_eq_getElem hi] at hx; exact Option.some.inj hx
    refine ⟨ys, rm_le _ _ (s2 _ _ h3), ?_, ys ++ [y], ?_, ?_, ?_, ?_⟩
    · have : (100000 : Nat) < sizeLine := by decide
      omega
    · rw [rm_upd nD, rm_updS]
      exact h1.trans s2.rm
    · obtain ⟨x1, y1, z1, e1, r1⟩ := p2
      exact ⟨x1, y1, z1, by rw [upd_ne nD.symm]; exact e1, r1⟩
    · exact rm_of nD upd_same
    · rw [rm_upd nD, rm_updS, List.take_succ_eq_append_getElem hi, e]
      exact Paired.snoc (paired_imp (fun _ _ z => mono _ _ _ _ s2.rm z) h4) r
  · rintro H' ⟨ys, h1, h2, h3, h4⟩
    rw [List.take_length] at h4
    exact q H' ys (h1.trans rm_le) h2 h3 (paired_imp (fun _ _ z => mono _ _ _ _ rm_le z) h4)
end
section
variable {c : TT} {tb : TS} {D : Ends} {σ : L2.St} {H : Hp}
theorem while_m (Pv : Nat → L2.St → Hp → Prop) (m : Nat) (h0 : Pv m σ H) (hs : ∀ m σ H, Pv m σ H → c σ H fun b H1 => if b = true then (∃ N : L2.St → Hp → Prop, (∀ σ' H', N σ' H' → ∃ m', m' < m ∧ Pv m' σ' H') ∧
      tb { D with nx := N, ct := N, bk := D.nx } σ H1) else D.nx σ H1) : tWhile c tb D σ H := ⟨Pv, ⟨m, h0⟩, hs⟩
theorem while_nm {Pv : Nat → L2.St → Hp → Prop} {m : Nat} (q : tb { D with nx := fun σ' H' => ∃ m', m' < m ∧ Pv m' σ' H', ct := fun σ' H' => ∃ m', m' < m ∧ Pv m' σ' H', bk := D.nx } σ H) :
    ∃ N : L2.St → Hp → Prop, (∀ σ' H', N σ' H' → ∃ m', m' < m ∧ Pv m' σ' H') ∧ tb { D with nx := N, ct := N, bk := D.nx } σ H := ⟨_, fun _ _ h => h, q⟩
end
theorem w_unl {K : PySem.W.Frag} {H : Hp} {σ : L2.St} {tg : TGs} {p : Addr} {xs : List V} {k : Nat} {Qs : L2.St → Hp → Prop} (h : SqL K H p xs) (l : xs.length = k) (q : tg xs σ H Qs) : gUnl K k tg (.ref p) σ H Qs := ⟨p, xs, rfl, h, l, q⟩
end Bc
namespace Bc
open PySem PySem.Spec PyProof.Rows L2
noncomputable def LL (H : Hp) (r : Addr) (cuts : List (List Int)) : Prop := ∃ as : List Addr, H r = some (.lst (as.map V.ref)) ∧ Paired (fun c p => H p = some (.lst (c.map V.int))) cuts as
noncomputable def PM (y : Sty) (b n : Int) (H : Hp) (r : Addr) (us : List (List Int)) : Prop := ∃ qs : List Addr, H r = some (.lst (qs.map V.ref)) ∧ Paired (fun c q => H q = some (.lst [.int (mark y b n c), .int c.length])) us qs
theorem LL.same {H H' : Hp} {r : Addr} {cuts : List (List Int)} (h : LL H r cuts) (s : Same H H') : LL H' r cuts := by
  obtain ⟨as, h1, h2⟩ := h
  exact ⟨as, s _ _ h1, paired_imp (fun _ _ z => s _ _ z) h2⟩
theorem PM.same {y : Sty} {b n : Int} {H H' : Hp} {r : Addr} {us : List (List Int)} (h : PM y b n H r us) (s : Same H H') : PM y b n H' r us := by
  obtain ⟨as, h1, h2⟩ := h
  exact ⟨as, s _ _ h1, paired_imp (fun _ _ z => s _ _ z) h2⟩
theorem paired_take {α β : Type} {R : α → β → Prop} : ∀ {xs : List α} {ys : List β} (k : Nat), Paired R xs ys → Paired R (xs.take k) (ys.take k)
  | _, _, 0, _ => .nil
  | _, _, _ + 1, .nil => .nil
  | _, _, k + 1, .cons r t => .cons r (paired_take k t)
theorem paired_drop {α β : Type} {R : α → β → Prop} : ∀ {xs : List α} {ys : List β} (k : Nat), Paired R xs ys → Paired R (xs.drop k) (ys.drop k)
  | _, _, 0, h => h
  | _, _, _ + 1, .nil => .nil
  | _, _, k + 1, .cons _ t => paired_drop k t
theorem paired_app {α β : Type} {R : α → β → Prop} : ∀ {xs xs' : List α} {ys ys' : List β}, Paired R xs ys → Paired R xs' ys' → Paired R (xs ++ xs') (ys ++ ys')
  | _, _, _, _, .nil, h => h
  | _, _, _, _, .cons r t, h => .cons r (paired_app t h)
theorem cut_to' {α : Type} (f : α → V) (ls : List α) (j : Nat) : cutV (ls.map f) none (some (j : Int)) = (ls.take j).map f := by
  unfold cutV
  rw [HT.sIx_none, HT.sIx_nat, List.drop_zero, Nat.sub_zero, take_min, List.map_take]
theorem atI_map {α : Type} {f : α → V} {ls : List α} {i : Int} {x : α} (h0 : 0 ≤ i) (h : ls[i.toNat]? = some x) : atI (ls.map f) i = some (f x) := atI_get h0 (by rw [List.getElem?_map, h]; rfl)
/-- letters exchanged one by one, those of ord still to come -/
noncomputable def Mix (ls ms cur : List Int) (ord : List Nat) : Prop := cur.length = ls.length ∧ ord.Nodup ∧ ∀ i, i < ls.length → cur[i]? = if i ∈ ord then ls[i]? else ms[i]?
theorem Mix.step {ls ms cur : List Int} {ord : List Nat} {k i : Nat} {z : Int} (h : Mix ls ms cur ord) (hk : ord[k]? = some i) (hz : ms[i]? = some z) : Mix ls ms (cur.set i z) (ord.eraseIdx k) := by
  obtain ⟨h1, h2, h3⟩ := h
  refine ⟨by rw [List.length_set]; exact h1, h2.eraseIdx k, fun j hj => ?_⟩
  obtain ⟨hk1, hk2⟩ := List.getElem?_eq_some_iff.mp hk
  by_cases e : i = j
  · subst e
    have hn : i ∉ ord.eraseIdx k := by
      intro hm
      rw [List.mem_eraseIdx_iff_getElem] at hm
      obtain ⟨m, hm1, hm2, hm3⟩ := hm
      have := (List.getElem_inj h2).mp (hm3.trans hk2.symm)
      omega
    rw [if_neg hn, List.getElem?_set_self (by omega), hz]
  · rw [List.getElem?_set_ne e, h3 j hj]
    have : j ∈ ord.eraseIdx k ↔ j ∈ ord := by
      constructor
      · exact fun z => List.mem_of_mem_eraseIdx z
      · intro z
        rw [List.mem_eraseIdx_iff_getElem]
        obtain ⟨m, hm, em⟩ := List.getElem_of_mem z
        exact ⟨m, hm, fun q => e (by rw [← em, ← hk2]; congr 1; exact q.symm), em⟩
    by_cases q : j ∈ ord
    · rw [if_pos q, if_pos (this.mpr q)]
    · rw [if_neg q, if_neg (fun w => q (this.mp w))]
theorem Mix.done {ls ms cur : List Int} (h : Mix ls ms cur []) (e : ms.length = ls.length) : cur = ms := by
  refine List.ext_getElem? fun i => ?_
  by_cases hi : i < ls.length
  · rw [h.2.2 i hi]; simp
  · rw [List.getElem?_eq_none (by have := h.1; omega), List.getElem?_eq_none (by omega)]
end Bc
namespace Bc
open PySem PySem.Spec PyProof.Rows L2
section
variable {X : Cx} {k j : Nat} {x f : Str} {C : Addr} {sp : Sp} {dvs : List V} {p pos pos2 : Pos} {e : Expr} {es : List Expr} {ta t : TA} {W : WX}
theorem w_mkO {σ : L2.St} {H : Hp} {Q : XK} {dvs : List V} (q : ta σ H fun vs H1 => vs.length ≤ 1000 ∧ ∀ a, H1 a = none → sp (.ref a :: (vs ++ dvs)) (upd H1 a (exo a C none))
  (fun v H2 => v = .non ∧ ∃ (d : Addr) (fs : List (Str × V)), H2 a = some (exo a C (some d)) ∧ H2 d = some (exd d fs) ∧ H1 d = none ∧ Q (.ref C) (some d) (upd (del H2 a) d (.xd fs))) (fun _ _ _ => False)) : tMkO C sp dvs ta σ H Q := q
theorem w_callX {σ : L2.St} {H : Hp} {Q : VK} (q : t σ H fun vs H1 => sp (vs ++ dvs) H1 Q fun cls d H2 => W cls d σ H2) : tCallSD sp dvs (WE W) t σ H Q := q
end
theorem w_xf {a C : Addr} {cls : Value} {d : Option Addr} {f : Str} {te : TE} {σ : L2.St} {H : Hp} {Q : VK} (q : te σ H fun x H1 => x = .ref a ∧ cls = .ref C ∧ ∃ (dd : Addr) (fs : List (Str × V)) (v : V), d = some dd ∧ H1 dd = some (.xd fs) ∧ fs.lookup f = some v ∧ Q v H1) : tXf a cls d C f te σ H Q := q
end Bc
namespace Bc
open PySem PySem.Spec PyProof.Rows L2
theorem gcd_mod (x n : Int) : Int.gcd (x % n) n = Int.gcd x n := by
  have h := Int.gcd_mul_left_add_left n (x % n) (x / n)
  rw [Int.mul_ediv_add_emod] at h
  exact h.symm
end Bc
namespace Bc
open PySem PySem.Spec PyProof.Rows L2
noncomputable def spInverse : Sp := fun vs H Q _ => ∃ u n : Int, vs = [.int u, .int n] ∧ 0 < n ∧ n.natAbs < 2 ^ 8000 ∧ Int.gcd u n = 1 ∧ ∀ r H', Same H H' → 0 ≤ r → r < n → u * r % n = 1 % n → Q (.int r) H'
/-- what the Euclidean steps keep -/
noncomputable def InvOk (u n one other first second : Int) : Prop := 0 ≤ one ∧ 0 ≤ other ∧ other < one + 1 + n ∧ Int.gcd one other = Int.gcd n u ∧ (∃ k, first * u = one + n * k) ∧ (∃ k, second * u = other + n * k) ∧ ((0 ≤ second ∧ first ≤ 0 ∧ -first * other + second * one = n) ∨ (second ≤ 0 ∧ 0 ≤ first ∧ first * other + -second * one = n))
theorem InvOk.start {u n : Int} (hn : 0 < n) : InvOk u n n (u % n) 0 1 := by
  have h0 := Int.emod_nonneg u (show n ≠ 0 by omega)
  have h1 := Int.emod_lt_of_pos u hn
  refine ⟨by omega, h0, by omega, ?_, ⟨-1, by omega⟩, ⟨u / n, ?_⟩, .inl ⟨by decide, by decide, by omega⟩⟩
  · rw [Int.gcd_comm n (u % n), Int.gcd_comm n u]
    exact gcd_mod u n
  · rw [Int.one_mul]
    have := Int.mul_ediv_add_emod u n
    omega
theorem InvOk.step {u n one other first second : Int} (h : InvOk u n one other first second) (hn : 0 < n) (ho : 0 < other) : InvOk u n other (one - one / other * other) second (first - one / other * second) := by
  obtain ⟨h1, h2, h3, h4, ⟨k1, e1⟩, ⟨k2, e2⟩, h5⟩ := h
  have hr : one - one / other * other = one % other := by
    have := Int.mul_ediv_add_emod one other
    rw [Int.mul_comm] at this
    omega
  have hr0 := Int.emod_nonneg one (show other ≠ 0 by omega)
  have hr1 := Int.emod_lt_of_pos one ho
  have hq : 0 ≤ one / other := Int.ediv_nonneg h1 (by omega)
  refine ⟨h2, by omega, by omega, ?_, ⟨k2, e2⟩, ⟨k1 - one / other * k2, ?_⟩, ?_⟩
  · rw [hr, ← h4, Int.gcd_comm other, gcd_mod]
  · rw [Int.sub_mul, e1, Int.mul_assoc, e2]
    grind
  · generalize one / other = q at *
    rcases h5 with ⟨a1, a2, a3⟩ | ⟨a1, a2, a3⟩
    · refine .inr ⟨?_, a1, ?_⟩
      · have := Int.mul_nonneg hq a1
        omega
      · rw [← a3]; grind
    · refine .inl ⟨?_, a1, ?_⟩
      · have := Int.mul_nonneg hq (show 0 ≤ -second by omega)
        rw [Int.mul_neg] at this
        omega
      · rw [← a3]; grind
theorem InvOk.le {u n one other first second : Int} (h : InvOk u n one other first second) (hn : 0 < n) (ho : 0 < other) : first.natAbs ≤ n.natAbs ∧ (0 < one → second.natAbs ≤ n.natAbs) ∧ one / other ≤ one ∧ 0 ≤ one / other := by
  obtain ⟨h1, h2, h3, h4, _, _, h5⟩ := h
  have hdiv : one / other ≤ one := Int.ediv_le_self _ h1
  have hdiv0 : 0 ≤ one / other := Int.ediv_nonneg h1 (by omega)
  have key : ∀ a b c d : Int, 0 ≤ a → 0 ≤ b → 0 ≤ c → 0 ≤ d → a * b + c * d = n → (0 < b → a ≤ n) ∧ (0 < d → c ≤ n) := fun a b c d ha hb hc hd e => by
    have p1 := Int.mul_nonneg ha hb
    have p2 := Int.mul_nonneg hc hd
    constructor
    · intro z
      have := Int.mul_le_mul_of_nonneg_left (show 1 ≤ b from z) ha
      omega
    · intro z
      have := Int.mul_le_mul_of_nonneg_left (show 1 ≤ d from z) hc
      omega
  rcases h5 with ⟨a1, a2, a3⟩ | ⟨a1, a2, a3⟩
  · obtain ⟨x1, x2⟩ := key (-first) other second one (by omega) h2 a1 h1 a3
    have := x1 ho
    exact ⟨by omega, fun z => by have := x2 z; omega, hdiv, hdiv0⟩
  · obtain ⟨x1, x2⟩ := key first other (-second) one a2 h2 (by omega) h1 a3
    have := x1 ho
    exact ⟨by omega, fun z => by have := x2 z; omega, hdiv, hdiv0⟩
theorem InvOk.done {u n one first second : Int} (h : InvOk u n one 0 first second) (hn : 0 < n) (hg : Int.gcd u n = 1) : u * (first % n) % n = 1 % n := by
  obtain ⟨h1, _, _, h4, ⟨k1, e1⟩, _⟩ := h
  have ho : one = 1 := by
    rw [Int.gcd_comm n u, hg] at h4
    have : Int.gcd one 0 = one.natAbs := Int.gcd_zero_right one
    omega
  obtain ⟨k, e⟩ := self_mod n first
  rw [e, cg]
  refine ⟨k1 + u * k, ?_⟩
  rw [Int.mul_add, Int.mul_comm u first, e1, ho]
  grind
end Bc
namespace Bc
open PySem PySem.Spec PyProof.Rows L2
/-- what is told of a part: its mark, or that it is open -/
noncomputable def DE (op : Prop) (m len : Int) (e : V) (G : Hp) : Prop := (¬ op ∧ e = .int m) ∨ (op ∧ ∃ p, e = .ref p ∧ G p = some (.lst [.str "open", .int len]))
theorem DE.same {op : Prop} {m len : Int} {e : V} {G G' : Hp} (h : DE op m len e G) (s : Same G G') : DE op m len e G' := by
  rcases h with h | ⟨h, p, e1, e2⟩
  · exact .inl h
  · exact .inr ⟨h, p, e1, s _ _ e2⟩
end Bc
namespace Bc
open PySem PySem.Spec PyProof.Rows L2
end Bc
namespace Bc
open PySem PySem.Spec PyProof.Rows L2
noncomputable def plainV : V → Bool
  | .byt _ => false
  | .flt _ => false
  | _ => true
noncomputable def Alk (K : PySem.W.Frag) (H : Hp) : Nat → V → V → Prop
  | 0, x, y => x = y ∧ plainV x = true
  | n + 1, x, y => (x = y ∧ plainV x = true) ∨ ∃ p q xs ys, x = .ref p ∧ y = .ref q ∧ SqL K H p xs ∧ SqL K H q ys ∧ Paired (Alk K H n) xs ys
theorem eq_self {x : V} {v u : Value} {A : Around} {s : Shared} (h : plainV x = true) (r : RelV x v) (r' : RelV x u) : PySem.SeqAt.EqAt A s v u true := by
  cases x with
  | non => cases r; cases r'; exact PySem.SeqAt.EqAt.same _
  | bl b => cases r; cases r'; exact PySem.SeqAt.EqAt.same _
  | int i =>
    obtain ⟨t, rfl⟩ := r
    obtain ⟨t', rfl⟩ := r'
    have := PySem.SeqAt.EqAt.int_int (A := A) (s := s) i t i t'
    rwa [beq_self_eq_true] at this
  | str z =>
    obtain ⟨t, rfl⟩ := r
    obtain ⟨t', rfl⟩ := r'
    have := PySem.SeqAt.EqAt.str_str (A := A) (s := s) z t z t'
    rwa [beq_self_eq_true] at this
  | byt b => cases h
  | flt b => cases h
  | ref a => cases r; cases r'; exact PySem.SeqAt.EqAt.same _
  | ty n => cases r; cases r'; exact PySem.SeqAt.EqAt.same _
section
variable {X : Cx} {pins : List (Addr × Obj)} {σ : L2.St} {H : Hp} {s : Shared}
theorem paired_at {α β : Type} {F : α → β → Prop} : ∀ {l : List α} {m : List β}, Paired F l m → ∀ j (h1 : j < l.length) (h2 : j < m.length), F l[j] m[j]
  | _, _, .cons h _, 0, _, _ => h
  | _, _, .cons _ r, j + 1, h1, h2 => paired_at r j (Nat.lt_of_succ_lt_succ h1) (Nat.lt_of_succ_lt_succ h2)
theorem rc_lists {F : V → V → Prop} {A : Around} {p q : Addr} {xs ys : List V} (I : Inv X pins σ H s) (hx : SqL X.K H p xs) (hy : SqL X.K H q ys) (hp : Paired F xs ys) (hu : A.units < cLine)
    (hF : ∀ x y v u, F x y → RelV x v → RelV y u → PySem.SeqAt.EqAt A.in1 s v u true) : PySem.SeqAt.RcAt A s (.ref p) (.ref q) true := by
  obtain ⟨is, r1, ⟨o1, n1, e1, c1, _, d1⟩, _⟩ := I.list hx
  obtain ⟨js, r2, ⟨o2, n2, e2, c2, _, d2⟩, _⟩ := I.list hy
  have l0 := hp.length
  have l1 := r1.length
  have l2 := r2.length
  have h := PySem.SeqAt.RcAt.lists (A := A) (e := fun _ => true) ⟨o1, e1, c1, n1, d1⟩ ⟨o2, e2, c2, n2, d2⟩ (by simp only [List.size_toArray]; omega) hu (fun j h1 h2 => by
    simp only [List.size_toArray] at h1 h2
    simp only [List.getElem_toArray]
    exact hF _ _ _ _ (paired_at hp j (by omega) (by omega)) (paired_at r1 j (by omega) h1) (paired_at r2 j (by omega) h2))
  rwa [show ((List.range is.toArray.size).all fun _ => true) = true from List.all_eq_true.mpr fun _ _ => rfl] at h
theorem Alk.eq (I : Inv X pins σ H s) : ∀ (n : Nat) (A : Around) (x y : V) (v u : Value), Alk X.K H n x y → RelV x v → RelV y u → A.units + n < cLine → PySem.SeqAt.EqAt A s v u true
  | 0, _, _, _, _, _, ⟨e, h⟩, r, r', _ => by subst e; exact eq_self h r r'
  | n + 1, A, _, _, _, _, .inl ⟨e, h⟩, r, r', _ => by subst e; exact eq_self h r r'
  | n + 1, A, _, _, _, _, .inr ⟨p, q, xs, ys, ex, ey, hx, hy, hp⟩, r, r', hu => by
    subst ex
    subst ey
    cases r
    cases r'
    by_cases hpq : p = q
    · subst hpq
      exact PySem.SeqAt.EqAt.same _
    · exact PySem.SeqAt.EqAt.of_refs hpq (rc_lists I hx hy hp (by omega) fun x y v u h r r' => Alk.eq I n A.in1 x y v u h r r' (by show A.units + 1 + n < cLine; omega))
end
end Bc
namespace Bc
open PySem PySem.Spec PyProof.Rows L2
theorem w_dnew {σ : L2.St} {H : Hp} {Q : VK} (q : ∀ p, H p = none → atV Q (.ref p) (upd H p (.dK []))) : tDNewK σ H Q := q
theorem w_isB {a b : Bool} {H : Hp} {Q : VK} (q : Q (.bl (decide (a = b))) H) : rIsB (.bl a) (.bl b) H Q := ⟨a, b, rfl, rfl, q⟩
theorem kit_no {K : PySem.W.Frag} {t : Value} {C : Addr} (ne : (t == .ref C) = false) (i : PySem.W.isClsIn K C = true) (ty : PySem.W.typeIn K (.ref C) = some (.type "type")) (s : PySem.W.subIn K t (.ref C) = some false) : PySem.W.kitOne K t (.ref C) = some false := by
  have i' : (PySem.W.clsIn K C).isSome = true := i
  unfold PySem.W.kitOne PySem.W.kitCls
  simp only [ne, i', ty, s, BEq.rfl, Bool.and_self, if_true, Bool.false_eq_true, if_false]
end Bc
namespace Bc
open PySem PySem.Spec PyProof.Rows L2
section
variable {X : Cx} {k j : Nat} {x : Str} {sp : Sp} {e : Expr} {es : List Expr} {t : TA} {p pos : Pos}
/-- str of a bool -/
noncomputable def rStrB : List V → Hp → VK → Prop := fun xs H Q => ∃ b, xs = [.bl b] ∧ Q (.str (if b = true then "True" else "False")) H
end
end Bc
namespace Bc
open PySem PySem.Spec PyProof.Rows L2
end Bc
namespace Bc
open PySem PySem.Spec PyProof.Rows L2
section
variable {X : Cx} {pins : List (Addr × Obj)} {σ : L2.St} {H : Hp} {s : Shared}
theorem rcn_lists {F : V → V → Prop} {A : Around} {p q : Addr} {xs ys : List V} (I : Inv X pins σ H s) (hx : SqL X.K H p xs) (hy : SqL X.K H q ys) (hp : Paired F xs ys) (hu : A.units < cLine)
    (hF : ∀ x y v u, F x y → RelV x v → RelV y u → PySem.SeqAt.EqAt A.in1 s v u true) : PySem.SeqAt.RcNeAt A s (.ref p) (.ref q) false := by
  obtain ⟨is, r1, ⟨o1, n1, e1, c1, _, d1⟩, _⟩ := I.list hx
  obtain ⟨js, r2, ⟨o2, n2, e2, c2, _, d2⟩, _⟩ := I.list hy
  have l0 := hp.length
  have l1 := r1.length
  have l2 := r2.length
  have h := PySem.SeqAt.RcNeAt.lists (A := A) (e := fun _ => true) ⟨o1, e1, c1, n1, d1⟩ ⟨o2, e2, c2, n2, d2⟩ (by simp only [List.size_toArray]; omega) hu (fun j h1 h2 => by
    simp only [List.size_toArray] at h1 h2
    simp only [List.getElem_toArray]
    exact hF _ _ _ _ (paired_at hp j (by omega) (by omega)) (paired_at r1 j (by omega) h1) (paired_at r2 j (by omega) h2))
  rwa [show ((List.range is.toArray.size).all fun _ => true) = true from List.all_eq_true.mpr fun _ _ => rfl] at h
end
theorem w_strB {b : Bool} {H : Hp} {Q : VK} (q : Q (.str (if b = true then "True" else "False")) H) : rStrB [.bl b] H Q := ⟨b, rfl, q⟩
theorem ite_joinC {c : Bool} {A B : VK → Prop} {Q : VK} (R : V → Hp → Prop) (hQ : ∀ v H, R v H → Q v H) (hA : c = true → ∀ Q' : VK, (∀ v H, R v H → Q' v H) → A Q') (hB : c = false → ∀ Q' : VK, (∀ v H, R v H → Q' v H) → B Q') : if c = true then A Q else B Q := by
  cases c with
  | true => exact iteT (hA rfl Q hQ)
  | false => exact iteF (hB rfl Q hQ)
theorem ite_joinNC {c : Bool} {T U : Ends → L2.St → Hp → Prop} {D : Ends} {σ : L2.St} {H : Hp} (R : L2.St → Hp → Prop) (rest : ∀ σ' H', R σ' H' → D.nx σ' H') (hT : c = true → ∀ N : L2.St → Hp → Prop, (∀ σ' H', R σ' H' → N σ' H') → T { D with nx := N } σ H)
    (hU : c = false → ∀ N : L2.St → Hp → Prop, (∀ σ' H', R σ' H' → N σ' H') → U { D with nx := N } σ H) : if c = true then T D σ H else U D σ H := by
  cases c with
  | true => exact iteT (hT rfl D.nx rest)
  | false => exact iteF (hU rfl D.nx rest)
theorem test_join {c : Bool} {A : (Bool → Hp → Prop) → Prop} {QT : Bool → Hp → Prop} {H : Hp} (R : Hp → Prop) (rest : ∀ H', R H' → QT false H') (hA : c = true → ∀ Q' : Bool → Hp → Prop, (∀ H', R H' → Q' false H') → A Q') (hB : c = false → R H) : if c = true then A QT else QT false H := by
  cases c with
  | true => exact iteT (hA rfl QT rest)
  | false => exact iteF (rest _ (hB rfl))
end Bc
namespace Bc
open PySem PySem.Spec PyProof.Rows L2
/-- a list of pairs of lists of letters -/
noncomputable def Two (H : Hp) (q : List Int × List Int) (t : Addr) : Prop := ∃ p1 p2 : Addr, H t = some (.tup [.ref p1, .ref p2]) ∧ H p1 = some (.lst (q.1.map V.int)) ∧ H p2 = some (.lst (q.2.map V.int)) ∧ q.1.length ≤ 1000 ∧ q.2.length ≤ 1000
noncomputable def TwL (H : Hp) (l : Addr) (qs : List (List Int × List Int)) : Prop := ∃ ts : List Addr, H l = some (.lst (ts.map V.ref)) ∧ Paired (Two H) qs ts
theorem Two.same {H H' : Hp} {q : List Int × List Int} {t : Addr} (h : Two H q t) (s : Same H H') : Two H' q t := by
  obtain ⟨p1, p2, h1, h2, h3, r⟩ := h
  exact ⟨p1, p2, s _ _ h1, s _ _ h2, s _ _ h3, r⟩
theorem TwL.same {H H' : Hp} {l : Addr} {qs : List (List Int × List Int)} (h : TwL H l qs) (s : Same H H') : TwL H' l qs := by
  obtain ⟨ts, h1, h2⟩ := h
  exact ⟨ts, s _ _ h1, paired_imp (fun _ _ z => z.same s) h2⟩
noncomputable def hit (y y' : Sty) (b n b' n' : Int) (q : List Int × List Int) : Bool := rAgree y b n q.1 q.2 && !rAgree y' b' n' q.1 q.2
noncomputable def two (n s : Int) : List (List Int × List Int) := [([], [0 - s]), ([], [n - s])]
theorem hv1 (x b : Int) : hv [x] b = x := by simp [hv]
end Bc
namespace Bc
open PySem PySem.Spec PyProof.Rows L2
noncomputable def tLstB (t : TA) : TE := fun σ H Q => t σ H fun xs H1 => xs.length ≤ sizeLine ∧ ∀ p, H1 p = none → p ≠ sysModules → atV Q (.ref p) (upd H1 p (.lst xs))
theorem w_lstB {t : TA} {σ : L2.St} {H : Hp} {Q : VK} (q : t σ H fun xs H1 => xs.length ≤ sizeLine ∧ ∀ p, H1 p = none → p ≠ sysModules → atV Q (.ref p) (upd H1 p (.lst xs))) : tLstB t σ H Q := q
mutual
inductive Dq (H : Hp) : V → PyData → Prop
  | non : Dq H .non .none
  | bl (b : Bool) : Dq H (.bl b) (.bool b)
  | int (i : Int) : Dq H (.int i) (.int i)
  | str (z : Str) : Dq H (.str z) (.str z)
  | lst {a : Addr} {xs : List V} {ds : List PyData} : a ≠ sysModules → H a = some (.lst xs) → DqAll H xs ds → Dq H (.ref a) (.list ds)
  | tup {a : Addr} {xs : List V} {ds : List PyData} : H a = some (.tup xs) → DqAll H xs ds → Dq H (.ref a) (.tuple ds)
  | dk {a : Addr} : H a = some (.dK []) → Dq H (.ref a) (.dict [])
inductive DqAll (H : Hp) : List V → List PyData → Prop
  | nil : DqAll H [] []
  | cons {v : V} {vs : List V} {d : PyData} {ds : List PyData} : Dq H v d → DqAll H vs ds → DqAll H (v :: vs) (d :: ds)
end
mutual
theorem Dq.same {H H' : Hp} (s : Same H H') : ∀ {v : V} {d : PyData}, Dq H v d → Dq H' v d
  | _, _, .non => .non
  | _, _, .bl b => .bl b
  | _, _, .int i => .int i
  | _, _, .str z => .str z
  | _, _, .lst n h t => .lst n (s _ _ h) (DqAll.same s t)
  | _, _, .tup h t => .tup (s _ _ h) (DqAll.same s t)
  | _, _, .dk h => .dk (s _ _ h)
theorem DqAll.same {H H' : Hp} (s : Same H H') : ∀ {vs : List V} {ds : List PyData}, DqAll H vs ds → DqAll H' vs ds
  | _, _, .nil => .nil
  | _, _, .cons h t => .cons (Dq.same s h) (DqAll.same s t)
end
theorem tyx_same {K : PySem.W.Frag} {H H' : Hp} {v : V} {t : Value} (h : TyX K H v t) (s : Same H H') : TyX K H' v t := by
  cases h with
  | base b =>
    refine .base ?_
    cases b with
    | non => exact .non
    | bl x => exact .bl x
    | int i => exact .int i
    | str x => exact .str x
    | flt x => exact .flt x
    | lst e => exact .lst (s _ _ e)
    | frz e => exact .frz (s _ _ e)
    | tup e => exact .tup (s _ _ e)
    | dK e => exact .dK (s _ _ e)
    | dT e => exact .dT (s _ _ e)
    | ins e cl ha hn htk hm => exact .ins (s _ _ e) cl ha hn htk hm
  | byt b => exact .byt b
  | set e => exact .set (s _ _ e)
  | kList e c => exact .kList e c
  | kTuple e c => exact .kTuple e c
  | kDict e c => exact .kDict e c
  | fTuple e => exact .fTuple (s _ _ e)
  | fDict e => exact .fDict (s _ _ e)
/-- is_integer's answer -/
noncomputable def IntB (K : PySem.W.Frag) (H : Hp) (v : V) (b : Bool) : Prop := ∃ (t : Value) (b1 b2 : Bool), TyX K H v t ∧ PySem.W.kitOne K t (.type "int") = some b1 ∧ PySem.W.kitOne K t (.type "bool") = some b2 ∧ b = (b1 && !b2)
theorem IntB.same {K : PySem.W.Frag} {H H' : Hp} {v : V} {b : Bool} (h : IntB K H v b) (s : Same H H') : IntB K H' v b := by
  obtain ⟨t, b1, b2, h1, h2⟩ := h
  exact ⟨t, b1, b2, tyx_same h1 s, h2⟩
noncomputable def sgn (c : Nat) : Bool := decide (32 ≤ c) && decide (c ≤ 126)
/-- is_text's answer -/
inductive TextB (K : PySem.W.Frag) (H : Hp) : V → Bool → Prop where
  | oth {v : V} {t : Value} (ty : TyX K H v t) (h1 : PySem.W.kitOne K t (.type "str") = some false) (h2 : PySem.W.kitAny K t [.type "list", .type "tuple"] = some false) : TextB K H v false
  | str (z : Str) (l : z.length ≤ 100000) : TextB K H (.str z) (z.cps.toList.all sgn)
  | lst (a : Addr) (xs : List V) (bs : List Bool) (h : H a = some (.lst xs)) (l : xs.length ≤ 100000) (p : Paired (IntB K H) xs bs) : TextB K H (.ref a) (bs.all id)
  | tup (a : Addr) (xs : List V) (bs : List Bool) (h : H a = some (.tup xs)) (l : xs.length ≤ 100000) (p : Paired (IntB K H) xs bs) : TextB K H (.ref a) (bs.all id)
theorem TextB.same {K : PySem.W.Frag} {H H' : Hp} {v : V} {b : Bool} (h : TextB K H v b) (s : Same H H') : TextB K H' v b := by
  cases h with
  | oth ty h1 h2 => exact .oth (tyx_same ty s) h1 h2
  | str z l => exact .str z l
  | lst a xs bs h l p => exact .lst a xs bs (s _ _ h) l (paired_imp (fun _ _ z => z.same s) p)
  | tup a xs bs h l p => exact .tup a xs bs (s _ _ h) l (paired_imp (fun _ _ z => z.same s) p)
theorem ints_b {K : PySem.W.Frag} {H : Hp} : ∀ ls : List Int, Paired (IntB K H) (ls.map V.int) (ls.map fun _ => true)
  | [] => .nil
  | l :: r => .cons ⟨_, true, false, ty_int l, kit_ty (by decide +kernel), kit_ty (by decide +kernel), rfl⟩ (ints_b r)
theorem TextAt.b {K : PySem.W.Frag} {H : Hp} {v : V} {ls : List Int} (t : TextAt H v ls) : TextB K H v true := by
  cases t with
  | str z h l =>
    have e : z.cps.toList.all sgn = true := List.all_eq_true.mpr fun c hc => by
      have := h c hc
      unfold sgn
      rw [decide_eq_true this.1, decide_eq_true this.2]
      rfl
    rw [← e]
    exact .str z l
  | lst a _ h l =>
    rw [← all_true ls]
    exact .lst a _ _ h (by rw [List.length_map]; exact l) (ints_b ls)
  | tup a _ h l =>
    rw [← all_true ls]
    exact .tup a _ _ h (by rw [List.length_map]; exact l) (ints_b ls)
end Bc
namespace Bc
open PySem PySem.Spec PyProof.Rows L2
/-- the value of coefficients, that of 1 first -/
noncomputable def ev (xs : List Int) (b : Int) : Int := hv xs.reverse b
theorem ev_cons (x : Int) (xs : List Int) (b : Int) : ev (x :: xs) b = ev xs b * b + x := by
  unfold ev
  rw [List.reverse_cons, hv_app, hv1]
  show hv xs.reverse b * b ^ 1 + x = _
  rw [Int.pow_succ, Int.pow_zero, Int.one_mul]
theorem ev_nil (b : Int) : ev [] b = 0 := rfl
section
variable {K : PySem.W.Frag} {te : TE} {vs : List Nat} {σ : L2.St} {H : Hp} {D a b : Addr} {Qd : Hp → Prop} {j1 j2 : Nat} {ta : TA} {R : It → Hp → Prop}
theorem w_iZip (q : ta σ H fun vs H1 => ∃ a b xs ys, vs = [.ref a, .ref b] ∧ SqL K H1 a xs ∧ SqL K H1 b ys ∧ R (Itz K a b) H1) : iZip K ta σ H R := q
theorem w_zipi {xs ys : List V} {P : Addr → Addr → Prop} (h1 : SqL K H a xs) (h2 : SqL K H b ys) (q : P a b) : ∃ c d xs ys, [V.ref a, V.ref b] = [.ref c, .ref d] ∧ SqL K H c xs ∧ SqL K H d ys ∧ P c d := ⟨a, b, xs, ys, rfl, h1, h2, q⟩
end
end Bc
namespace Bc
open PySem PySem.Spec PyProof.Rows L2
section
variable {X : Cx}
theorem w_augS {to ti te : TE} {tget : V → V → Hp → VK → Prop} {tip : TIp} {tset : TSet} {D : Ends} {σ : L2.St} {H : Hp}
    (q : to σ H fun o H1 => ti σ H1 fun i H2 => tget o i H2 fun x H3 => te σ H3 fun y H4 => tip x y H4 fun z H5 => tset o i z H5 fun H6 => D.nx σ H6) : tAugS to ti te tget tip tset D σ H := q
end
end Bc
namespace Bc
open PySem PySem.Spec PyProof.Rows L2
end Bc
namespace Bc
open PySem PySem.Spec PyProof.Rows L2
/-- the values of the list's tails at r: Horner's partial sums, the last one first -/
noncomputable def suf (r : Int) : List Int → List Int
  | [] => []
  | c :: cs => ev (c :: cs) r :: suf r cs
theorem suf_len (r : Int) : ∀ cs : List Int, (suf r cs).length = cs.length
  | [] => rfl
  | c :: cs => by
    show (suf r cs).length + 1 = cs.length + 1
    rw [suf_len r cs]
/-- division by x - r -/
theorem ev_suf (r x : Int) : ∀ (c : Int) (cs : List Int), ev (c :: cs) x = ev (c :: cs) r + (x - r) * ev (suf r cs) x
  | c, [] => by
    show _ = _ + (x - r) * ev [] x
    rw [ev_cons, ev_cons, ev_nil, ev_nil, Int.mul_zero, Int.zero_mul, Int.zero_mul, Int.add_zero]
  | c, d :: ds => by
    have ih := ev_suf r x d ds
    rw [show suf r (d :: ds) = ev (d :: ds) r :: suf r ds from rfl, ev_cons c, ev_cons c, ev_cons (ev (d :: ds) r), ih]
    generalize ev (suf r ds) x = S
    generalize ev (d :: ds) r = g
    simp only [Int.add_mul, Int.mul_add, Int.sub_mul, Int.mul_sub, Int.mul_assoc, Int.mul_comm, Int.mul_left_comm]
    omega
theorem pr_mul {p a b : Int} (hp : Pr p) (h : p ∣ a * b) : p ∣ a ∨ p ∣ b := by
  rcases cop_or hp a.natAbs with c | c
  · exact .inl (Int.natAbs_dvd_natAbs.mp c)
  · right
    rw [← Int.natAbs_dvd_natAbs, Int.natAbs_mul] at h
    exact Int.natAbs_dvd_natAbs.mp (Nat.Coprime.dvd_of_dvd_mul_left (Nat.coprime_comm.mp c) h)
theorem suf_zero {p r : Int} : ∀ {cs : List Int}, (∀ z ∈ suf r cs, p ∣ z) → ∀ z ∈ cs, p ∣ z
  | [], _, z, h => by cases h
  | c :: cs, hs, z, h => by
    have ih := suf_zero (cs := cs) fun z hz => hs z (List.mem_cons_of_mem _ hz)
    rcases List.mem_cons.mp h with e | e
    · rw [e]
      have h1 := hs _ (List.mem_cons_self ..)
      rw [ev_cons] at h1
      have h2 : p ∣ ev cs r := by
        cases cs with
        | nil => exact ⟨0, by rw [ev_nil]; omega⟩
        | cons d ds => exact hs _ (List.mem_cons_of_mem _ (List.mem_cons_self ..))
      have := Int.dvd_sub h1 (Int.dvd_trans h2 (Int.dvd_mul_right _ r))
      rwa [show ev cs r * r + c - ev cs r * r = c by omega] at this
    · exact ih z e
end Bc
namespace Bc
open PySem PySem.Spec PyProof.Rows L2
set_option maxHeartbeats 1000000 in
theorem meets_enum1 {v : Value} {o : Obj} {H : Heap → Prop} (B : Begins v o H) :
    Meets (Builtin.«enumerate.__new__» ⟨[.type "enumerate", v], []⟩) (fun _ R s => H s.heap ∧
      R (.ok (.ret (.ref (s.heap.push o).objs.size))) { s with heap := (s.heap.push o).push { cls := .type "enumerate", data := .fields #[.none, .bool false, .ref s.heap.objs.size, rawInt 0, .none, .none] } }) :=
  .of_wp fun prog w A R s h => by
    obtain ⟨hp, g, d, tk, os⟩ := s; obtain ⟨h1, h⟩ := h
    have hsub := sub_enumerate
    have q1 : ∀ {A' : Around} {E : Value → Shared → Prop} {Q : Value → Shared → Prop}, Q (.ref hp.objs.size) ⟨hp.push o, g, d, tk, os⟩ → wpAny (model prog w) A' (pyIter v) Q E ⟨hp, g, d, tk, os⟩ :=
      fun q => B.iter prog w _ _ ⟨hp, g, d, tk, os⟩ _ h1 q
    wp_walk using q1
    refine wpAny_stack_any fun st => wpAny_pure ?_
    split
    · rename_i c _ _ _ _ _
      cases (c == Value.type "enumerate")
      · wp_walk using q1
        exact ⟨_, rfl, h⟩
      · wp_walk using q1
        exact ⟨_, rfl, h⟩
    · wp_walk using q1
      exact ⟨_, rfl, h⟩
theorem enum_begins1 {prog : Program} {w : World} {A : Around} {E : Value → Shared → Prop} {s : Shared} {v : Value} {o : Obj} {H : Heap → Prop} {Q : Value → Shared → Prop} (B : Begins v o H) (h1 : H s.heap)
    (h : ∀ h', IsEnum h' (s.heap.objs.size + 1) s.heap.objs.size 0 .none → h'.get? s.heap.objs.size = some o → h'.objs.size = s.heap.objs.size + 2 →
      (∀ b o, s.heap.get? b = some o → h'.get? b = some o) → Q (.ref (s.heap.objs.size + 1)) { s with heap := h' }) :
    wpAny (model prog w) A (call (.type "enumerate") [v]) Q E s := by
  refine callType_new F.called_enumerate (by decide) (F.typeCall_enumerate_1 _) (F.newCall_enumerate_1 _) (fun obj => F.args_object_init_2 obj _) F.entry_enumerate_new
    (meets_enum1 B) ⟨h1, ?_⟩
  have hz : (s.heap.push o).objs.size = s.heap.objs.size + 1 := Heap.size_push ..
  show _ ∧ _
  rw [hz]
  have he : IsEnum ((s.heap.push o).push { cls := .type "enumerate", data := .fields #[.none, .bool false, .ref s.heap.objs.size, rawInt 0, .none, .none] }) (s.heap.objs.size + 1) s.heap.objs.size 0 .none := by
    have := Heap.get?_push_size (s.heap.push o) (o := { cls := .type "enumerate", data := .fields #[.none, .bool false, .ref s.heap.objs.size, rawInt 0, .none, .none] }) rfl
    rw [hz] at this; exact this
  refine ⟨⟨_, he, rfl⟩, h _ he (Heap.get?_push_of_some _ (Heap.get?_push_size _ B.free)) (by rw [Heap.size_push, hz]) fun b o x => Heap.get?_push_of_some _ (Heap.get?_push_of_some _ x)⟩
noncomputable def Iet (K : PySem.W.Frag) (a : Addr) : It :=
  ⟨fun i H => ∃ (xs : List V) (x : V), SqT K H a xs ∧ xs[i]? = some x, fun i H v H' => ∃ T x, v = .ref T ∧ H T = none ∧ H' = upd H T (.tup [.int (i : Nat), x]) ∧ ∀ xs, SqT K H a xs → xs[i]? = some x, fun i H => ∃ xs : List V, SqT K H a xs ∧ xs.length ≤ i⟩
theorem turn_enumT {P : Program} {w : World} {K : PySem.W.Frag} {elts : List Expr} {kk : Nat} {tpos : Pos} (a e it : Addr) :
    Turn P w K (.Tuple elts kk tpos) (Iet K a) [e, it] e (fun i h => (∃ old, IsEnum h e it ((i : Nat) : Int) old) ∧ h.IsTupleIter it a i ∧ e ≠ it) where
  mem := by simp
  obj := fun i h st b hb => by
    obtain ⟨⟨old, he⟩, ⟨o, ho, hc, hd⟩, _⟩ := st
    have e' : b = e ∨ b = it := by simpa using hb
    rcases e' with z | z
    · rw [z]; exact ⟨_, he, fun v q => nomatch q⟩
    · rw [z]; exact ⟨o, ho, fun v q => by rw [hd] at q; cases q⟩
  keep := fun i h h' st k => let ⟨⟨old, he⟩, hi, hne⟩ := st; ⟨⟨old, k e (by simp) _ he⟩, hi.at fun o q => k it (by simp) o q, hne⟩
  item := by
    intro X hP hw hK hc i pins s σ H E I hf st hg
    subst hP hw hK
    obtain ⟨⟨old, he⟩, hit, hne⟩ := st
    obtain ⟨xs, x, hq, hx⟩ := hg
    obtain ⟨its, rv, p, hz⟩ := I.tuple hq
    obtain ⟨u, hu, ru⟩ := rv.get hx
    have hel : e < s.heap.objs.size := Heap.lt_size he
    have hil : it < s.heap.objs.size := by obtain ⟨_, q, _⟩ := hit; exact Heap.lt_size q
    have p' : s.heap.IsTuple a its.toArray := p
    have nea : e ≠ a := fun z => by
      obtain ⟨o, ho, hc', _⟩ := p'
      rw [← z, he] at ho
      cases ho
      exact absurd (Value.type.inj hc') (by decide)
    have nia : a ≠ it := fun z => by
      obtain ⟨o, ho, hc', _⟩ := p'
      obtain ⟨o2, ho2, hc2, _⟩ := hit
      rw [z, ho2] at ho
      cases ho
      rw [hc2] at hc'
      exact absurd (Value.type.inj hc') (by decide)
    have hlt : i < its.toArray.size := by
      have := (List.getElem?_eq_some_iff.mp hu).1
      simpa using this
    refine wpAny_pyNext_enum_itemD (Draws.tuple (A := X.A.in1) (I.ok.hd hc) it a nia its.toArray) he ⟨hit, p'⟩ hlt hne (by simp [hne, nea]) fun u' h' tk hu' ho hst' hT hsz hk => ?_
    have eu : u' = u := by
      have : its[i]? = some u' := by simpa using hu'
      rw [hu] at this
      exact (Option.some.inj this).symm
    subst eu
    refine ⟨_, rfl, wpAny_letOwnedTupleGo_enum (s := { s with heap := h', toks := tk + 1 }) ho fun h'' he' sb => ?_⟩
    have hT2 : h''.get? s.heap.objs.size = some { cls := .type "tuple", data := .seq #[.int i tk, u'] } := (sb.2 _ (Nat.ne_of_gt hel)).trans hT
    have new : ObjOk X.prog X.w (upd H s.heap.objs.size (.tup [.int (i : Nat), x])) h'' s.heap.objs.size (.tup [.int (i : Nat), x]) :=
      ⟨by show 2 ≤ sizeLine; decide, [.int i tk, u'], .cons ⟨_, rfl⟩ (.cons ru .nil), ⟨_, hT2, rfl, _, rfl⟩⟩
    have I1 : Inv X pins σ (upd H s.heap.objs.size (.tup [.int (i : Nat), x])) { s with heap := h'', toks := tk + 1 } :=
      I.turnedNew (ch := [e, it]) (fun b ob hb q => (sb.2 b (fun z => hb (by simp [z]))).trans (hk b ob (fun z => hb (by simp [z])) (fun z => hb (by simp [z])) q)) hf (Nat.le_refl _) new
    refine ⟨.ref s.heap.objs.size, _, I1, rfl, ⟨_, x, rfl, I.hok.fresh (Nat.le_refl _), rfl, fun ys hy => by rw [I.tuple_inj hy hq]; exact hx⟩, ⟨⟨u', ?_⟩, hst'.1.at fun o q => (sb.2 it (Ne.symm hne)).trans q, hne⟩, fun b hb => ?_⟩
    · have e1 : ((i + 1 : Nat) : Int) = (i : Int) + 1 := by omega
      rw [e1]; exact he'
    · have hb' : b < s.heap.objs.size := by
        have e' : b = e ∨ b = it := by simpa using hb
        rcases e' with z | z
        · rw [z]; exact hel
        · rw [z]; exact hil
      rw [upd_ne (Nat.ne_of_lt hb')]
      exact (hf b hb).1
  done := by
    intro X hP hw hK hc i pins s σ H E I hf st hg
    subst hP hw hK
    obtain ⟨⟨old, he⟩, hit, hne⟩ := st
    obtain ⟨xs, hq, hx⟩ := hg
    obtain ⟨its, rv, p, hz⟩ := I.tuple hq
    obtain ⟨f0, f1, f2, f3, f4, f5⟩ := hf it (by simp)
    have hl := rv.length
    have hT : s.TypeIs (.ref e) "enumerate" := ⟨_, he, rfl⟩
    unfold pyNext
    refine wpAny_bind (wpAny_attempt (wpAny_callSpecial?_slot (name := Str.ofString "__next__") hT F.slot_enumerate_next
      (wpAny_call_entry F.slot_enumerate_next hT F.entry_enumerate_next ?_ (F.args_enumerate_next_1 _))))
    show wpAny _ _ (field (.ref e) 2 >>= _) _ _ _
    refine wpAny_bind (wpAny_field he rfl (x := .ref it) rfl ?_)
    refine wpAny_bind (wpAny_nextOf_tuple_end (I.ok.hd hc) hit (show s.heap.IsTuple a its.toArray from p) (by simp; omega) fun h' x he' hx' => ?_)
    obtain ⟨o, ho, hc⟩ := hx'
    refine wpAny_bind (wpAny_isInstance (T := "StopIteration") (b := true) ⟨o, ho, hc⟩ isSubtype_stop ?_)
    exact wpAny_pure ⟨rfl, I.turned (t' := s.toks) (fun b o hb q => he' b o hb q) f0 f1 f3 f4 f5⟩
  self := fun A i s Q E st h => let ⟨⟨_, he⟩, _⟩ := st; wpAny_pyIter_enum he h
noncomputable def iEnumT (K : PySem.W.Frag) (ta : TA) : TI := fun σ H R => ta σ H fun vs H1 => ∃ a xs, vs = [.ref a] ∧ SqT K H1 a xs ∧ R (Iet K a) H1
theorem pi_enumT {X : Cx} {e : Expr} {ta : TA} {p pos tpos : Pos} {elts : List Expr} {kk : Nat} (hg : Gl X "enumerate") (hm : X.mg "enumerate" = none) (ha : PA X [e] ta) (hs : starEach [e] X.env = [(false, eval e X.env)] := by rfl) :
    PI X (.Tuple elts kk tpos) (.Call (.Name "enumerate" p) [e] [] pos) (iEnumT X.K ta) := by
  refine ⟨fun pins s σ H R I h => ?_⟩
  refine Call_ (ld_blt I hg hm boot_enumerate (PyProof.Rows.callWith_type1 (thn (ha.run pos pins s σ H _ I h) fun us s1 ⟨vs, H1, I1, r1, q1⟩ => ?_) hs rfl))
  obtain ⟨a, xs, ex, hq, q⟩ := q1
  subst ex
  cases r1 with
  | cons r rr =>
    cases rr
    cases r
    obtain ⟨its, rv, p', hz⟩ := I1.tuple hq
    refine enum_begins1 (begins_tuple a its.toArray) p' fun h' he hit hsz hk => wpAny_pyIter_enum he ?_
    have I2 : Inv X pins σ H1 { s1 with heap := h' } := I1.kept (t' := s1.toks) hk
    refine ⟨s1.heap.objs.size + 1, [s1.heap.objs.size + 1, s1.heap.objs.size], _, _, H1, rfl, I2, turn_enumT a (s1.heap.objs.size + 1) s1.heap.objs.size, ⟨⟨.none, he⟩, ⟨_, hit, rfl, rfl⟩, Nat.succ_ne_self _⟩, fun b hb => ?_, q⟩
    have e' : b = s1.heap.objs.size + 1 ∨ b = s1.heap.objs.size := by simpa using hb
    have hle : s1.heap.objs.size ≤ b := by
      rcases e' with z | z
      · rw [z]; exact Nat.le_add_right _ _
      · rw [z]; exact Nat.le_refl _
    exact I1.fpOk hle (I1.hok.fresh hle)
theorem walk_enumT {K : PySem.W.Frag} {a : Addr} {xs : List V} : Walk (Iet K a) xs.length (fun H => SqT K H a xs) (YPair (fun i => some (.int (i : Nat))) (fun i => xs[i]?)) := by
  refine ⟨fun i _ hi q => ⟨xs, xs[i], q, by simp [hi]⟩, fun _ q => ⟨xs, q, Nat.le_refl _⟩, fun i H v H' _ q y => ?_⟩
  obtain ⟨T, x, h1, h2, h3, h4⟩ := y
  exact ⟨T, .int (i : Nat), x, h1, h2, h3, rfl, h4 xs q⟩
theorem w_enumT {K : PySem.W.Frag} {H : Hp} {a : Addr} {xs : List V} {P : Addr → Prop} (h : SqT K H a xs) (q : P a) : ∃ a' xs', [V.ref a] = [.ref a'] ∧ SqT K H a' xs' ∧ P a' := ⟨a, xs, rfl, h, q⟩
end Bc
namespace Bc
open PySem PySem.Spec PyProof.Rows L2
noncomputable def Pv : List Int → Int → Int
  | [], _ => 1
  | r :: rs, x => (x - r) * Pv rs x
theorem Pv_app (x : Int) : ∀ rs ts : List Int, Pv (rs ++ ts) x = Pv rs x * Pv ts x
  | [], ts => by rw [List.nil_append, Pv, Int.one_mul]
  | r :: rs, ts => by rw [List.cons_append, Pv, Pv, Pv_app x rs ts, Int.mul_assoc]
theorem Pv_snoc (x r : Int) (rs : List Int) : Pv (rs ++ [r]) x = Pv rs x * (x - r) := by
  rw [Pv_app, Pv, Pv, Int.mul_one]
theorem Pv_mem {x : Int} : ∀ {rs : List Int}, x ∈ rs → Pv rs x = 0
  | r :: rs, h => by
    rw [Pv]
    rcases List.mem_cons.mp h with e | e
    · rw [e, Int.sub_self, Int.zero_mul]
    · rw [Pv_mem e, Int.mul_zero]
theorem Pv_shift (c x : Int) : ∀ rs : List Int, Pv (rs.map (· + c)) (x + c) = Pv rs x
  | [] => rfl
  | r :: rs => by
    rw [List.map_cons, Pv, Pv, Pv_shift c x rs, show x + c - (r + c) = x - r by omega]
theorem Pv_neg (x : Int) : ∀ rs : List Int, Pv (rs.map fun r => 0 - r) (0 - x) = Pv rs x ∨ Pv (rs.map fun r => 0 - r) (0 - x) = -Pv rs x
  | [] => .inl rfl
  | r :: rs => by
    rw [List.map_cons, Pv, Pv, show 0 - x - (0 - r) = -(x - r) by omega]
    rcases Pv_neg x rs with e | e
    · rw [e, Int.neg_mul]
      exact .inr rfl
    · rw [e, Int.neg_mul_neg]
      exact .inl rfl
/-- p divides z just w times -/
noncomputable def EV (p z : Int) (w : Nat) : Prop := p ^ w ∣ z ∧ ¬ p ^ (w + 1) ∣ z
theorem pr_one {p : Int} (hp : Pr p) : ¬ p ∣ 1 := fun h => by
  have := Int.le_of_dvd (by decide) h
  have := hp.1
  omega
theorem pow_ne {p : Int} (hp : Pr p) (k : Nat) : p ^ k ≠ 0 := by
  have h : 0 < p ^ k := Int.pow_pos (by have := hp.1; omega)
  omega
theorem pow_dv {p : Int} {i j : Nat} (h : i ≤ j) : p ^ i ∣ p ^ j := ⟨p ^ (j - i), by rw [← Int.pow_add]; congr 1; omega⟩
theorem EV.fac {p z : Int} {w : Nat} (h : EV p z w) : ∃ u, z = p ^ w * u ∧ ¬ p ∣ u := by
  obtain ⟨u, rfl⟩ := h.1
  refine ⟨u, rfl, fun ⟨t, ht⟩ => h.2 ⟨t, ?_⟩⟩
  rw [ht, Int.pow_succ, Int.mul_assoc]
theorem EV.of {p u : Int} (hp : Pr p) {w : Nat} (h : ¬ p ∣ u) : EV p (p ^ w * u) w := by
  refine ⟨Int.dvd_mul_right .., fun ⟨t, ht⟩ => h ⟨t, ?_⟩⟩
  rw [Int.pow_succ, Int.mul_assoc] at ht
  exact Int.eq_of_mul_eq_mul_left (pow_ne hp w) ht
theorem EV.mul {p x y : Int} (hp : Pr p) {v w : Nat} (hx : EV p x v) (hy : EV p y w) : EV p (x * y) (v + w) := by
  obtain ⟨a, rfl, ha⟩ := hx.fac
  obtain ⟨b, rfl, hb⟩ := hy.fac
  rw [show p ^ v * a * (p ^ w * b) = p ^ (v + w) * (a * b) by rw [Int.pow_add]; simp only [Int.mul_assoc, Int.mul_left_comm]]
  exact EV.of hp fun h => (pr_mul hp h).elim ha hb
theorem EV.low {p z : Int} {w k : Nat} (h : EV p z w) (hk : p ^ k ∣ z) : k ≤ w := by
  refine Classical.byContradiction fun c => h.2 (Int.dvd_trans (pow_dv (by omega)) hk)
/-- p to the k divides p ^ w u d: then p ^ (k - w) divides d -/
theorem pow_cut {p : Int} (hp : Pr p) : ∀ (n : Nat) {u d : Int}, ¬ p ∣ u → p ^ n ∣ u * d → p ^ n ∣ d
  | 0, _, d, _, _ => by rw [Int.pow_zero]; exact Int.one_dvd d
  | n + 1, u, d, hu, h => by
    have h1 : p ∣ u * d := Int.dvd_trans ⟨p ^ n, by rw [Int.pow_succ, Int.mul_comm]⟩ h
    obtain ⟨e, rfl⟩ := (pr_mul hp h1).resolve_left hu
    have h2 : p ^ n ∣ u * e := by
      obtain ⟨t, ht⟩ := h
      refine ⟨t, ?_⟩
      have : p * (u * e) = p * (p ^ n * t) := by
        rw [Int.mul_left_comm, ht, Int.pow_succ, Int.mul_comm (p ^ n) p, Int.mul_assoc]
      exact Int.eq_of_mul_eq_mul_left (by have := hp.1; omega) this
    obtain ⟨t, rfl⟩ := pow_cut hp n hu h2
    exact ⟨t, by rw [Int.pow_succ, Int.mul_comm (p ^ n) p, Int.mul_assoc]⟩
theorem EV.cut {p z d : Int} (hp : Pr p) {w k : Nat} (h : EV p z w) (hw : w ≤ k) (hd : p ^ k ∣ z * d) : p ^ (k - w) ∣ d := by
  obtain ⟨u, rfl, hu⟩ := h.fac
  refine pow_cut hp (k - w) hu ?_
  obtain ⟨t, ht⟩ := hd
  refine ⟨t, ?_⟩
  have : p ^ w * (u * d) = p ^ w * (p ^ (k - w) * t) := by
    rw [← Int.mul_assoc, ht, ← Int.mul_assoc, ← Int.pow_add]
    congr 2
    omega
  exact Int.eq_of_mul_eq_mul_left (pow_ne hp w) this
/-- a row of integers of S, each with the least weight, below k -/
structure GR (p : Int) (k : Nat) (S rs : List Int) : Prop where
  all : ∀ a ∈ S, p ^ k ∣ Pv rs a
  sub : ∀ r ∈ rs, r ∈ S
  low : ∀ i, i < rs.length → ∃ w, w < k ∧ EV p (Pv (rs.take i) (rs.getD i 0)) w ∧ ∀ a ∈ S, p ^ w ∣ Pv (rs.take i) a
/-- a polynomial of a lesser degree that vanishes on the row has no coefficient that p does not divide -/
theorem nv {p : Int} {k : Nat} (hp : Pr p) : ∀ (rest don cs : List Int), (∀ i, i < rest.length → ∃ w, w < k ∧ EV p (Pv (don ++ rest.take i) (rest.getD i 0)) w ∧ ∀ a ∈ rest, p ^ w ∣ Pv (don ++ rest.take i) a) →
    cs.length ≤ rest.length → (∀ r ∈ rest, p ^ k ∣ Pv don r * ev cs r) → ∀ c ∈ cs, p ∣ c
  | [], _, cs, _, hl, _, c, hc => by
    have : cs = [] := List.length_eq_zero_iff.mp (by simpa using hl)
    subst this
    cases hc
  | _ :: _, _, [], _, _, _, c, hc => by cases hc
  | r :: rest, don, c0 :: cs, hg, hl, hv, c, hc => by
    obtain ⟨w, hw, he, hall⟩ := hg 0 (by simp)
    rw [List.take_zero, List.append_nil] at he hall
    have he : EV p (Pv don r) w := he
    have hd : p ^ (k - w) ∣ ev (c0 :: cs) r := he.cut hp (Nat.le_of_lt hw) (hv r List.mem_cons_self)
    have ih := nv hp rest (don ++ [r]) (suf r cs) (fun i hi => by
      obtain ⟨v, h1, h2, h3⟩ := hg (i + 1) (by rw [List.length_cons]; omega)
      rw [List.take_succ_cons] at h2 h3
      rw [show don ++ [r] ++ rest.take i = don ++ r :: rest.take i by rw [List.append_assoc]; rfl]
      exact ⟨v, h1, h2, fun a ha => h3 a (List.mem_cons_of_mem _ ha)⟩) (by rw [suf_len]; simpa using hl) fun x hx => by
      rw [Pv_snoc]
      have e := ev_suf r x c0 cs
      have e2 : Pv don x * (x - r) * ev (suf r cs) x = Pv don x * ev (c0 :: cs) x - Pv don x * ev (c0 :: cs) r := by
        rw [e, Int.mul_add, Int.mul_assoc]
        omega
      rw [e2]
      refine Int.dvd_sub (hv x (List.mem_cons_of_mem _ hx)) ?_
      obtain ⟨s, hs⟩ := hall x (List.mem_cons_of_mem _ hx)
      obtain ⟨t, ht⟩ := hd
      refine ⟨s * t, ?_⟩
      rw [hs, ht, show p ^ k = p ^ w * p ^ (k - w) by rw [← Int.pow_add]; congr 1; omega]
      simp only [Int.mul_assoc, Int.mul_left_comm]
    refine suf_zero (r := r) (cs := c0 :: cs) (fun z hz => ?_) c hc
    rcases List.mem_cons.mp hz with e | e
    · rw [e]
      exact Int.dvd_trans (by obtain ⟨j, hj⟩ : ∃ j, k - w = j + 1 := ⟨k - w - 1, by omega⟩
                              rw [hj, Int.pow_succ]
                              exact Int.dvd_mul_left ..) hd
    · exact ih z e
theorem GR.nv {p : Int} {k : Nat} {S rs : List Int} (hp : Pr p) (g : GR p k S rs) {cs : List Int} (hl : cs.length ≤ rs.length) (hv : ∀ a ∈ S, p ^ k ∣ ev cs a) : ∀ c ∈ cs, p ∣ c :=
  Bc.nv hp rs [] cs (fun i hi => by
    obtain ⟨w, h1, h2, h3⟩ := g.low i hi
    exact ⟨w, h1, h2, fun a ha => h3 a (g.sub a ha)⟩) hl fun r hr => by
    rw [Pv, Int.one_mul]
    exact hv r (g.sub r hr)
/-- the product has 1 among its coefficients -/
theorem Pv_ev : ∀ ts : List Int, ∃ cs : List Int, cs.length = ts.length + 1 ∧ cs.getLast? = some 1 ∧ ∀ x, ev cs x = Pv ts x
  | [] => ⟨[1], rfl, rfl, fun x => by rw [ev_cons, ev_nil, Int.zero_mul, Pv]; rfl⟩
  | t :: ts => by
    obtain ⟨cs, h1, h2, h3⟩ := Pv_ev ts
    have key : ∀ (cs : List Int) (d : Int), ∃ es : List Int, es.length = cs.length + 1 ∧ (∀ l, cs.getLast? = some l → es.getLast? = some l) ∧ ∀ x, ev es x = ev cs x * (x - t) + d := by
      intro cs
      induction cs with
      | nil => exact fun d => ⟨[d], rfl, (fun l h => by cases h), fun x => by rw [ev_cons, ev_nil, Int.zero_mul, Int.zero_mul]⟩
      | cons c cs ih =>
        intro d
        obtain ⟨es, e1, e2, e3⟩ := ih c
        refine ⟨(d - c * t) :: es, by rw [List.length_cons, List.length_cons, e1], fun l hl => ?_, fun x => ?_⟩
        · cases cs with
          | nil =>
            have hes : es = [c] := by
              match es, e1 with
              | [z], _ =>
                have := e3 0
                rw [ev_cons, ev_nil, Int.zero_mul] at this
                rw [show z = c by omega]
            rw [hes]
            exact hl
          | cons c' cs' =>
            have e4 := e2 l (by rw [List.getLast?_cons_cons] at hl; exact hl)
            cases es with
            | nil => cases e4
            | cons z zs => rw [List.getLast?_cons_cons]; exact e4
        · rw [ev_cons, e3, ev_cons]
          generalize ev cs x = g
          grind
    obtain ⟨es, e1, e2, e3⟩ := key cs 0
    refine ⟨es, by rw [e1, h1]; rfl, e2 _ h2, fun x => ?_⟩
    rw [e3, h3, Pv, Int.add_zero, Int.mul_comm]
theorem GR.key {p : Int} {k : Nat} {S rs ts : List Int} (hp : Pr p) (g : GR p k S rs) (hv : ∀ a ∈ S, p ^ k ∣ Pv ts a) : rs.length ≤ ts.length := by
  refine Classical.byContradiction fun c => ?_
  obtain ⟨cs, h1, h2, h3⟩ := Pv_ev ts
  have := g.nv hp (cs := cs) (by omega) (fun a ha => by rw [h3]; exact hv a ha) 1 (List.mem_of_getLast? h2)
  exact pr_one hp this
theorem GR.mono {p : Int} {k : Nat} {S S' rs rs' : List Int} (hp : Pr p) (g : GR p k S rs) (g' : GR p k S' rs') (h : ∀ a ∈ S, a ∈ S') : rs.length ≤ rs'.length := g.key hp fun a ha => g'.all a (h a ha)
theorem GR.few {p : Int} {k : Nat} {S rs us : List Int} (hp : Pr p) (g : GR p k S rs) (h : ∀ a ∈ S, a ∈ us) : rs.length ≤ us.length := g.key hp fun a ha => by
  rw [Pv_mem (h a ha)]
  exact Int.dvd_zero _
theorem GR.shift {p : Int} {k : Nat} {S S' rs rs' : List Int} (hp : Pr p) (c : Int) (g : GR p k S rs) (g' : GR p k S' rs') (h : ∀ a ∈ S', ∃ b ∈ S, a = b + c) : rs'.length ≤ rs.length := by
  have := g'.key hp (ts := rs.map (· + c)) fun a ha => by
    obtain ⟨b, hb, rfl⟩ := h a ha
    rw [Pv_shift]
    exact g.all b hb
  rwa [List.length_map] at this
theorem GR.neg {p : Int} {k : Nat} {S S' rs rs' : List Int} (hp : Pr p) (g : GR p k S rs) (g' : GR p k S' rs') (h : ∀ a ∈ S', ∃ b ∈ S, a = 0 - b) : rs'.length ≤ rs.length := by
  have := g'.key hp (ts := rs.map fun r => 0 - r) fun a ha => by
    obtain ⟨b, hb, rfl⟩ := h a ha
    rcases Pv_neg b rs with e | e
    · rw [e]; exact g.all b hb
    · rw [e]; exact Int.dvd_neg.mpr (g.all b hb)
  rwa [List.length_map] at this
theorem GR.more {p : Int} {k k' : Nat} {S rs rs' : List Int} (hp : Pr p) (hk : k ≤ k') (g : GR p k S rs) (g' : GR p k' S rs') : rs.length ≤ rs'.length := g.key hp fun a ha => Int.dvd_trans (pow_dv hk) (g'.all a ha)
/-- 1 * 2 * .. * m -/
noncomputable def fct : Nat → Int
  | 0 => 1
  | m + 1 => fct m * (m + 1 : Nat)
noncomputable def ups (n : Nat) : List Int := (List.range n).map fun i : Nat => (i : Int)
theorem ups_succ (n : Nat) : ups (n + 1) = ups n ++ [(n : Int)] := by
  unfold ups
  rw [List.range_succ, List.map_append]
  rfl
theorem ups_fct (m : Nat) : Pv (ups m) m = fct m := by
  have key : ∀ m (x : Int), Pv (ups m) (x + 1) * (x + 1 - m) = (x + 1) * Pv (ups m) x := by
    intro m
    induction m with
    | zero => intro x; rw [show ups 0 = [] from rfl, Pv, Pv]; simp
    | succ m ih =>
      intro x
      rw [ups_succ, Pv_snoc, Pv_snoc]
      have := ih x
      rw [this, show (x + 1 - ((m + 1 : Nat) : Int)) = x - m by omega, Int.mul_assoc]
  induction m with
  | zero => rfl
  | succ m ih =>
    have h := key m m
    rw [ih, show ((m : Int) + 1 - m) = 1 by omega, Int.mul_one] at h
    rw [ups_succ, Pv_snoc, show (((m + 1 : Nat) : Int) - m) = 1 by omega, Int.mul_one, show ((m + 1 : Nat) : Int) = (m : Int) + 1 by omega, h, fct, Int.mul_comm]
    rfl
/-- m! divides a product of m integers one behind the other -/
theorem fct_dvd : ∀ (m a : Nat), fct m ∣ Pv (ups m) a := by
  have pascal : ∀ m (x : Int), Pv (ups (m + 1)) (x + 1) = Pv (ups (m + 1)) x + ((m + 1 : Nat) : Int) * Pv (ups m) x := by
    intro m
    have key : ∀ m (x : Int), Pv (ups m) (x + 1) * (x + 1 - m) = (x + 1) * Pv (ups m) x := by
      intro m
      induction m with
      | zero => intro x; rw [show ups 0 = [] from rfl, Pv, Pv]; simp
      | succ m ih =>
        intro x
        rw [ups_succ, Pv_snoc, Pv_snoc]
        have := ih x
        rw [this, show (x + 1 - ((m + 1 : Nat) : Int)) = x - m by omega, Int.mul_assoc]
    intro x
    rw [ups_succ, Pv_snoc, Pv_snoc, key m x, Int.mul_comm (Pv (ups m) x), ← Int.add_mul]
    congr 1
    omega
  intro m
  induction m with
  | zero => exact fun a => ⟨Pv (ups 0) a, by rw [fct, Int.one_mul]⟩
  | succ m ih =>
    intro a
    induction a with
    | zero =>
      rw [Pv_mem (by unfold ups; exact List.mem_map.mpr ⟨0, List.mem_range.mpr (by omega), rfl⟩)]
      exact Int.dvd_zero _
    | succ a iha =>
      rw [show ((a + 1 : Nat) : Int) = (a : Int) + 1 by omega, pascal]
      refine Int.dvd_add iha ?_
      obtain ⟨t, ht⟩ := ih a
      exact ⟨t, by rw [ht, fct]; simp only [Int.mul_assoc, Int.mul_comm, Int.mul_left_comm]⟩
/-- a polynomial with the leading coefficient 1 that vanishes on 0 .. l -/
theorem fd {M : Int} {l : Nat} : ∀ (n i : Nat) (cs : List Int), i + n = l → cs.length = n + 1 → cs.getLast? = some 1 → (∀ j : Nat, i ≤ j → j ≤ l → M ∣ Pv (ups i) j * ev cs j) → M ∣ fct l
  | 0, i, cs, hi, hl, hlast, hv => by
    match cs, hl with
    | [c], _ =>
      have e : c = 1 := by simpa using hlast
      subst e
      have := hv i (Nat.le_refl _) (by omega)
      rw [ev_cons, ev_nil, Int.zero_mul, Int.zero_add, Int.mul_one, ups_fct] at this
      rw [show l = i by omega]
      exact this
  | n + 1, i, c0 :: cs, hi, hl, hlast, hv => by
    have hl : cs.length = n + 1 := by simpa using hl
    have h0 := hv i (Nat.le_refl _) (by omega)
    rw [ups_fct] at h0
    have hlast2 : (suf (i : Int) cs).getLast? = some 1 := by
      have key : ∀ cs : List Int, cs ≠ [] → (suf (i : Int) cs).getLast? = cs.getLast? := by
        intro cs
        induction cs with
        | nil => exact fun h => absurd rfl h
        | cons c cs ih =>
          intro _
          cases cs with
          | nil =>
            show [ev [c] i].getLast? = _
            rw [ev_cons, ev_nil, Int.zero_mul, Int.zero_add]
          | cons d ds =>
            rw [show suf (i : Int) (c :: d :: ds) = ev (c :: d :: ds) i :: suf i (d :: ds) from rfl, List.getLast?_cons_cons (a := c), ← ih (by simp)]
            show (ev (c :: d :: ds) i :: ev (d :: ds) i :: suf i ds).getLast? = (ev (d :: ds) i :: suf i ds).getLast?
            rw [List.getLast?_cons_cons]
      rw [key cs (by intro z; rw [z] at hl; cases hl)]
      cases cs with
      | nil => cases hl
      | cons d ds => rw [List.getLast?_cons_cons] at hlast; exact hlast
    refine fd n (i + 1) (suf i cs) (by omega) (by rw [suf_len, hl]) hlast2 fun j h1 h2 => ?_
    have e := ev_suf (i : Int) j c0 cs
    have e2 : Pv (ups (i + 1)) j * ev (suf (i : Int) cs) j = Pv (ups i) j * ev (c0 :: cs) j - Pv (ups i) j * ev (c0 :: cs) i := by
      rw [ups_succ, Pv_snoc, e, Int.mul_add, Int.mul_assoc]
      omega
    rw [e2]
    refine Int.dvd_sub (hv j (by omega) h2) ?_
    obtain ⟨t, ht⟩ := fct_dvd i j
    rw [ht, Int.mul_assoc, Int.mul_left_comm]
    exact Int.dvd_trans h0 (Int.dvd_mul_left ..)
/-- m: the least with M dividing m! -/
structure Lf (M : Int) (m : Nat) : Prop where
  hit : M ∣ fct m
  no : ∀ j, j < m → ¬ M ∣ fct j
theorem GR.first {p : Int} {k n m : Nat} {rs : List Int} (hp : Pr p) (g : GR p k (ups n) rs) (hm : Lf (p ^ k) m) : rs.length = min n m := by
  have ul : ∀ n, (ups n).length = n := fun n => by unfold ups; rw [List.length_map, List.length_range]
  have h1 : rs.length ≤ n := by
    have := g.few hp (us := ups n) fun a ha => ha
    rwa [ul] at this
  have h2 : rs.length ≤ m := by
    have := g.key hp (ts := ups m) fun a ha => by
      obtain ⟨i, _, rfl⟩ := List.mem_map.mp ha
      exact Int.dvd_trans hm.hit (fct_dvd m i)
    rwa [ul] at this
  refine Classical.byContradiction fun c => ?_
  obtain ⟨cs, e1, e2, e3⟩ := Pv_ev rs
  refine hm.no rs.length (by omega) (fd (l := rs.length) rs.length 0 cs (by omega) e1 e2 fun j _ hj => ?_)
  rw [show ups 0 = [] from rfl, Pv, Int.one_mul, e3]
  exact g.all _ (List.mem_map.mpr ⟨j, List.mem_range.mpr (by omega), rfl⟩)
end Bc
namespace Bc
open PySem PySem.Spec PyProof.Rows L2
noncomputable def Lg (p : Int) (k : Nat) (xs : List Int) (n : Nat) : Prop := ∃ rs, GR p k xs rs ∧ rs.length = n
noncomputable def mxn (ns : List Nat) : Nat := ns.foldl max 0
structure Rch (xs : List Int) (ps : List (Int × Int)) (r : Nat) : Prop where
  ex : ∃ ns : List Nat, Paired (fun q n => Lg q.1 q.2.toNat xs n) ps ns ∧ r = mxn ns
theorem GR.congr {p : Int} {k : Nat} {S S' rs : List Int} (g : GR p k S rs) (h : ∀ a, a ∈ S ↔ a ∈ S') : GR p k S' rs :=
  ⟨fun a ha => g.all a ((h a).mpr ha), fun r hr => (h r).mp (g.sub r hr), fun i hi => by
    obtain ⟨w, h1, h2, h3⟩ := g.low i hi
    exact ⟨w, h1, h2, fun a ha => h3 a ((h a).mpr ha)⟩⟩
theorem foldl_max (ns : List Nat) (m : Nat) : ns.foldl max m = max m (mxn ns) := by
  unfold mxn
  induction ns generalizing m with
  | nil => simp
  | cons n ns ih => rw [List.foldl_cons, List.foldl_cons, ih, ih (max 0 n)]; omega
theorem mxn_cons (n : Nat) (ns : List Nat) : mxn (n :: ns) = max n (mxn ns) := by
  unfold mxn
  rw [List.foldl_cons, foldl_max]
  unfold mxn
  omega
theorem mxn_le {α β : Type} {P : α → Nat → Prop} {Q : β → Nat → Prop} {f : α → β → Prop} : ∀ {as : List α} {bs : List β} {ns ms : List Nat}, Paired P as ns → Paired Q bs ms → Paired f as bs → (∀ a b n m, a ∈ as → f a b → P a n → Q b m → n ≤ m) → mxn ns ≤ mxn ms
  | _, _, _, _, .nil, .nil, .nil, _ => Nat.le_refl _
  | _, _, _, _, .cons r1 t1, .cons r2 t2, .cons r3 t3, h => by
    rw [mxn_cons, mxn_cons]
    have h1 := h _ _ _ _ List.mem_cons_self r3 r1 r2
    have h2 := mxn_le t1 t2 t3 fun a b n m ha => h a b n m (List.mem_cons_of_mem _ ha)
    omega
theorem paired_refl {α : Type} : ∀ as : List α, Paired (fun a b => a = b) as as
  | [] => .nil
  | a :: as => .cons rfl (paired_refl as)
theorem Asc.prs {l : Int} {ps : List (Int × Int)} (h : Asc l ps) : ∀ q ∈ ps, Pr q.1 ∧ 0 < q.2 := by
  induction ps generalizing l with
  | nil => exact fun q h => by cases h
  | cons q ps ih =>
    intro q' hq
    obtain ⟨_, h2, h3, h4⟩ := h
    rcases List.mem_cons.mp hq with e | e
    · rw [e]; exact ⟨h3, h2⟩
    · exact ih h4 q' e
/-- by each prime -/
theorem Rch.le {xs ys : List Int} {ps : List (Int × Int)} {r s : Nat} (ha : Asc 0 ps) (h : Rch xs ps r) (h' : Rch ys ps s) (k : ∀ p k rs rs', Pr p → GR p k xs rs → GR p k ys rs' → rs.length ≤ rs'.length) : r ≤ s := by
  obtain ⟨ns, h1, rfl⟩ := h.ex
  obtain ⟨ms, h2, rfl⟩ := h'.ex
  refine mxn_le h1 h2 (paired_refl ps) fun q q' n m hq e hn hm => ?_
  subst e
  obtain ⟨rs, g, rfl⟩ := hn
  obtain ⟨rs', g', rfl⟩ := hm
  exact k _ _ _ _ (ha.prs q hq).1 g g'
theorem Rch.up {xs : List Int} {ps ps' : List (Int × Int)} {r s : Nat} (ha : Asc 0 ps) (h : Rch xs ps r) (h' : Rch xs ps' s) (e : Paired (fun q q' => q.1 = q'.1 ∧ q.2 ≤ q'.2) ps ps') : r ≤ s := by
  obtain ⟨ns, h1, rfl⟩ := h.ex
  obtain ⟨ms, h2, rfl⟩ := h'.ex
  refine mxn_le h1 h2 e fun q q' n m hq e hn hm => ?_
  obtain ⟨rs, g, rfl⟩ := hn
  obtain ⟨rs', g', rfl⟩ := hm
  rw [← e.1] at g'
  exact g.more (ha.prs q hq).1 (by have := e.2; omega) g'
theorem mxn_mem {n : Nat} : ∀ {ns : List Nat}, n ∈ ns → n ≤ mxn ns
  | m :: ns, h => by
    rw [mxn_cons]
    rcases List.mem_cons.mp h with e | e
    · omega
    · have := mxn_mem e
      omega
theorem mxn_bd {b : Nat} : ∀ {ns : List Nat}, (∀ n ∈ ns, n ≤ b) → mxn ns ≤ b
  | [], _ => Nat.zero_le _
  | n :: ns, h => by
    rw [mxn_cons]
    have := h n List.mem_cons_self
    have := mxn_bd fun m hm => h m (List.mem_cons_of_mem _ hm)
    omega
theorem paired_lf {α β : Type} {P : α → β → Prop} : ∀ {as : List α} {bs : List β}, Paired P as bs → ∀ {b : β}, b ∈ bs → ∃ a ∈ as, P a b
  | _, _, .cons r t, b, h => by
    rcases List.mem_cons.mp h with e | e
    · rw [e]; exact ⟨_, List.mem_cons_self, r⟩
    · obtain ⟨a, ha, p⟩ := paired_lf t e
      exact ⟨a, List.mem_cons_of_mem _ ha, p⟩
theorem paired_rg {α β : Type} {P : α → β → Prop} : ∀ {as : List α} {bs : List β}, Paired P as bs → ∀ {a : α}, a ∈ as → ∃ b ∈ bs, P a b
  | _, _, .cons r t, a, h => by
    rcases List.mem_cons.mp h with e | e
    · rw [e]; exact ⟨_, List.mem_cons_self, r⟩
    · obtain ⟨b, hb, p⟩ := paired_rg t e
      exact ⟨b, List.mem_cons_of_mem _ hb, p⟩
/-- one prime alone reaches no farther -/
theorem Rch.one {xs : List Int} {ps : List (Int × Int)} {q : Int × Int} {r s : Nat} (ha : Asc 0 ps) (hq : q ∈ ps) (h : Rch xs ps r) (h' : Rch xs [q] s) : s ≤ r := by
  obtain ⟨ns, h1, rfl⟩ := h.ex
  obtain ⟨ms, h2, rfl⟩ := h'.ex
  obtain ⟨n, hn, rs, g, rfl⟩ := paired_rg h1 hq
  refine mxn_bd fun m hm => ?_
  obtain ⟨q', hq', rs', g', rfl⟩ := paired_lf h2 hm
  rw [List.mem_singleton.mp hq'] at g'
  exact Nat.le_trans (g'.mono (ha.prs q hq).1 g fun a h => h) (mxn_mem hn)
theorem Rch.few {xs us : List Int} {ps : List (Int × Int)} {r : Nat} (ha : Asc 0 ps) (h : Rch xs ps r) (hu : ∀ a ∈ xs, a ∈ us) : r ≤ us.length := by
  obtain ⟨ns, h1, rfl⟩ := h.ex
  refine mxn_bd fun m hm => ?_
  obtain ⟨q, hq, rs, g, rfl⟩ := paired_lf h1 hm
  exact g.few (ha.prs q hq).1 hu
theorem Rch.first {n : Nat} {ps : List (Int × Int)} {r : Nat} (ha : Asc 0 ps) (h : Rch (ups n) ps r) {fs : List Nat} (hf : Paired (fun q m => Lf (q.1 ^ q.2.toNat) m) ps fs) : r = min n (mxn fs) := by
  obtain ⟨ns, h1, rfl⟩ := h.ex
  have key : ∀ {ps : List (Int × Int)} {ns fs : List Nat}, (∀ q ∈ ps, Pr q.1) → Paired (fun q n' => Lg q.1 q.2.toNat (ups n) n') ps ns → Paired (fun q m => Lf (q.1 ^ q.2.toNat) m) ps fs → mxn ns = min n (mxn fs) := by
    intro ps
    induction ps with
    | nil =>
      intro ns fs _ h1 h2
      cases h1
      cases h2
      show 0 = min n 0
      omega
    | cons q ps ih =>
      intro ns fs hp h1 h2
      cases h1 with
      | cons r1 t1 =>
        cases h2 with
        | cons r2 t2 =>
          obtain ⟨rs, g, rfl⟩ := r1
          rw [mxn_cons, mxn_cons, ih (fun q hq => hp q (List.mem_cons_of_mem _ hq)) t1 t2, g.first (hp q List.mem_cons_self) r2]
          omega
  exact key (fun q hq => (ha.prs q hq).1) h1 hf
/-- where the loop of short_row stands -/
structure SR (p : Int) (k : Nat) (S rs ns ws : List Int) : Prop where
  nd : ns.Nodup
  lt : ∀ i ∈ ns, 0 ≤ i ∧ i < S.length
  wl : ws.length = S.length
  cnt : rs.length + ns.length = S.length
  cov : ∀ i : Nat, i < S.length → (i : Int) ∈ ns ∨ S.getD i 0 ∈ rs
  wt : ∀ i ∈ ns, 0 ≤ ws.getD i.toNat 0 ∧ EV p (Pv rs (S.getD i.toNat 0)) (ws.getD i.toNat 0).toNat
  sub : ∀ r ∈ rs, r ∈ S
  low : ∀ i, i < rs.length → ∃ w, w < k ∧ EV p (Pv (rs.take i) (rs.getD i 0)) w ∧ ∀ a ∈ S, p ^ w ∣ Pv (rs.take i) a
theorem ev_one {p : Int} (hp : Pr p) : EV p 1 0 := ⟨by rw [Int.pow_zero]; exact Int.one_dvd 1, by rw [Int.pow_one]; exact pr_one hp⟩
theorem SR.start {p : Int} (hp : Pr p) (k : Nat) (S : List Int) : SR p k S [] (ups S.length) (List.replicate S.length 0) := by
  refine ⟨?_, fun i hi => ?_, List.length_replicate, ?_, fun i hi => .inl ?_, fun i hi => ?_, (fun r h => by cases h), (fun i h => by cases h)⟩
  · unfold ups
    rw [List.nodup_iff_pairwise_ne, List.pairwise_map]
    exact List.nodup_range.imp fun h e => h (by omega)
  · obtain ⟨j, hj, rfl⟩ := List.mem_map.mp hi
    have := List.mem_range.mp hj
    omega
  · unfold ups
    rw [List.length_map, List.length_range, List.length_nil, Nat.zero_add]
  · exact List.mem_map.mpr ⟨i, List.mem_range.mpr hi, rfl⟩
  · obtain ⟨j, hj, rfl⟩ := List.mem_map.mp hi
    have hj := List.mem_range.mp hj
    rw [Int.toNat_natCast, List.getD_eq_getElem?_getD, List.getElem?_replicate, if_pos hj]
    exact ⟨Int.le_refl _, ev_one hp⟩
section
variable {p : Int} {k : Nat} {S rs ns ws : List Int}
theorem mem_at {a : Int} (ha : a ∈ S) : ∃ i : Nat, i < S.length ∧ S.getD i 0 = a := by
  obtain ⟨i, hi, rfl⟩ := List.getElem_of_mem ha
  exact ⟨i, hi, by rw [List.getD_eq_getElem?_getD, List.getElem?_eq_getElem hi]; rfl⟩
/-- the least weight divides the values -/
theorem SR.least (R : SR p k S rs ns ws) {le : Int} (hle : ∀ i ∈ ns, ws.getD le.toNat 0 ≤ ws.getD i.toNat 0) : ∀ a ∈ S, p ^ (ws.getD le.toNat 0).toNat ∣ Pv rs a := by
  intro a ha
  obtain ⟨i, hi, rfl⟩ := mem_at ha
  rcases R.cov i hi with h | h
  · obtain ⟨h1, h2⟩ := R.wt _ h
    have h3 := hle _ h
    rw [Int.toNat_natCast] at h1 h2 h3
    exact Int.dvd_trans (pow_dv (by omega)) h2.1
  · rw [Pv_mem h]
    exact Int.dvd_zero _
theorem SR.done (R : SR p k S rs ns ws) {le : Int} (hle : ∀ i ∈ ns, ws.getD le.toNat 0 ≤ ws.getD i.toNat 0) (hk : (k : Int) ≤ ws.getD le.toNat 0) : GR p k S rs :=
  ⟨fun a ha => Int.dvd_trans (pow_dv (by omega)) (R.least hle a ha), R.sub, R.low⟩
theorem SR.step (hp : Pr p) (R : SR p k S rs ns ws) (hS : S.Nodup) {le : Int} {j : Nat} (hj : ns[j]? = some le) (hle : ∀ i ∈ ns, ws.getD le.toNat 0 ≤ ws.getD i.toNat 0) (hk : ws.getD le.toNat 0 < (k : Int)) {ws' : List Int} (wl : ws'.length = S.length)
    (hw : ∀ i ∈ ns.eraseIdx j, ∃ v : Nat, ws'.getD i.toNat 0 = ws.getD i.toNat 0 + v ∧ EV p (S.getD i.toNat 0 - S.getD le.toNat 0) v) : SR p k S (rs ++ [S.getD le.toNat 0]) (ns.eraseIdx j) ws' := by
  have hjl : j < ns.length := (List.getElem?_eq_some_iff.mp hj).1
  have hln : le ∈ ns := List.mem_of_getElem? hj
  obtain ⟨l0, l1⟩ := R.lt _ hln
  have hsl : (ns.eraseIdx j).Sublist ns := List.eraseIdx_sublist ns j
  have hsp : ns = ns.take j ++ le :: ns.drop (j + 1) := by
    have e : ns[j] = le := (List.getElem?_eq_some_iff.mp hj).2
    rw [← e, List.getElem_cons_drop, List.take_append_drop]
  have her : ns.eraseIdx j = ns.take j ++ ns.drop (j + 1) := List.eraseIdx_eq_take_drop_succ ns j
  have hmem : ∀ i, i ∈ ns → i ≠ le → i ∈ ns.eraseIdx j := fun i hi hne => by
    rw [hsp] at hi
    rw [her]
    rcases List.mem_append.mp hi with z | z
    · exact List.mem_append_left _ z
    · exact List.mem_append_right _ ((List.mem_cons.mp z).resolve_left hne)
  have hle2 : S.getD le.toNat 0 ∈ S := by
    rw [List.getD_eq_getElem?_getD, List.getElem?_eq_getElem (by omega)]
    exact List.getElem_mem _
  refine ⟨R.nd.sublist hsl, fun i hi => R.lt i (hsl.subset hi), wl, ?_, fun i hi => ?_, fun i hi => ?_, fun r hr => ?_, fun i hi => ?_⟩
  · rw [List.length_append, List.length_eraseIdx, if_pos hjl, List.length_cons, List.length_nil]
    have := R.cnt
    omega
  · rcases R.cov i hi with h | h
    · by_cases e : (i : Int) = le
      · right
        rw [← e, Int.toNat_natCast]
        exact List.mem_append_right _ List.mem_cons_self
      · exact .inl (hmem _ h e)
    · exact .inr (List.mem_append_left _ h)
  · obtain ⟨v, e, hv⟩ := hw i hi
    obtain ⟨h1, h2⟩ := R.wt i (hsl.subset hi)
    rw [e, Pv_snoc]
    refine ⟨by omega, ?_⟩
    rw [show (ws.getD i.toNat 0 + (v : Int)).toNat = (ws.getD i.toNat 0).toNat + v by omega]
    exact h2.mul hp hv
  · rcases List.mem_append.mp hr with z | z
    · exact R.sub r z
    · rw [List.mem_singleton.mp z]; exact hle2
  · rw [List.length_append, List.length_cons, List.length_nil] at hi
    by_cases c : i < rs.length
    · obtain ⟨w, h1, h2, h3⟩ := R.low i c
      rw [List.take_append_of_le_length (by omega)]
      refine ⟨w, h1, ?_, h3⟩
      rw [List.getD_eq_getElem?_getD, List.getElem?_append_left c, ← List.getD_eq_getElem?_getD]
      exact h2
    · have ei : i = rs.length := by omega
      subst ei
      rw [List.take_left' rfl]
      obtain ⟨h1, h2⟩ := R.wt le hln
      refine ⟨(ws.getD le.toNat 0).toNat, by omega, ?_, R.least hle⟩
      rw [List.getD_eq_getElem?_getD, List.getElem?_append_right (Nat.le_refl _), Nat.sub_self]
      exact h2
end
noncomputable def flt (xs : List Int) (p : Nat → Int → Bool) : List Int := ((List.range xs.length).filter fun i => p i (xs.getD i 0)).map fun i => xs.getD i 0
theorem paired_getL {α β : Type} {R : α → β → Prop} : ∀ {as : List α} {bs : List β}, Paired R as bs → ∀ {i : Nat} {a : α}, as[i]? = some a → ∃ b, bs[i]? = some b ∧ R a b
  | _, _, .nil, i, a, h => by cases h
  | _, _, .cons r t, i, a, h => by
    cases i with
    | zero =>
      cases h
      exact ⟨_, rfl, r⟩
    | succ i => exact paired_getL t (by simpa using h)
end Bc
namespace Bc
open PySem PySem.Spec PyProof.Rows L2
/-- place, rest, exceptions -/
noncomputable abbrev Row := Nat × Nat × List (Nat × Nat)
noncomputable abbrev Tab := List Row
noncomputable def rowAt (t : Tab) (r : Nat) : Row := t.getD r (0, 0, [])
/-- where a figure leads to -/
noncomputable def belowF (w : Row) (f : Nat) : Nat := ((w.2.2.find? fun e => decide (e.1 = f)).map (·.2)).getD w.2.1
noncomputable def semF (t : Tab) : Nat → Nat → (Nat → Nat) → Bool
  | 0, _, _ => false
  | n + 1, r, d => if r < 2 then decide (r = 1) else semF t n (belowF (rowAt t r) (d (rowAt t r).1)) d
noncomputable def sem (t : Tab) (r : Nat) (d : Nat → Nat) : Bool := semF t (r + 1) r d
structure WF (m : Nat) (t : Tab) : Prop where
  len : 2 ≤ t.length
  none : rowAt t 0 = (m, 0, [])
  all : rowAt t 1 = (m, 1, [])
  pl : ∀ r, 2 ≤ r → r < t.length → (rowAt t r).1 < m
  dn : ∀ r, 2 ≤ r → r < t.length → ∀ f, belowF (rowAt t r) f < r
  up : ∀ r, 2 ≤ r → r < t.length → ∀ f, (rowAt t r).1 < (rowAt t (belowF (rowAt t r) f)).1
theorem semF_fuel {m : Nat} {t : Tab} (h : WF m t) {d : Nat → Nat} : ∀ n r, r < t.length → r < n → semF t n r d = sem t r d
  | 0, r, _, h2 => absurd h2 (by omega)
  | n + 1, r, h1, h2 => by
    unfold sem
    rw [semF, semF]
    by_cases c : r < 2
    · rw [if_pos c, if_pos c]
    · rw [if_neg c, if_neg c]
      have hb := h.dn r (by omega) h1 (d (rowAt t r).1)
      rw [semF_fuel h n _ (by omega) (by omega)]
      cases r with
      | zero => omega
      | succ r => rw [semF_fuel h (r + 1) _ (by omega) hb]
theorem sem_lt {t : Tab} {r : Nat} {d : Nat → Nat} (h : r < 2) : sem t r d = decide (r = 1) := by
  unfold sem
  rw [semF, if_pos h]
theorem sem_ge {m : Nat} {t : Tab} (h : WF m t) {r : Nat} {d : Nat → Nat} (h2 : 2 ≤ r) (hl : r < t.length) : sem t r d = sem t (belowF (rowAt t r) (d (rowAt t r).1)) d := by
  have hb := h.dn r h2 hl (d (rowAt t r).1)
  conv => lhs; unfold sem
  rw [semF, if_neg (by omega)]
  exact semF_fuel h r _ (by omega) hb
/-- only the figures from the place on count -/
theorem sem_loc {m : Nat} {t : Tab} (h : WF m t) {d e : Nat → Nat} : ∀ r, r < t.length → (∀ i, (rowAt t r).1 ≤ i → i < m → d i = e i) → sem t r d = sem t r e := fun r => by
  induction r using Nat.strongRecOn with
  | ind r ih =>
    intro hl hd
    by_cases c : r < 2
    · rw [sem_lt c, sem_lt c]
    · rw [sem_ge h (by omega) hl, sem_ge h (by omega) hl, hd _ (Nat.le_refl _) (h.pl r (by omega) hl)]
      have hu := h.up r (by omega) hl (e (rowAt t r).1)
      have hb := h.dn r (by omega) hl (e (rowAt t r).1)
      exact ih _ hb (by omega) fun i h1 h2 => hd i (by omega) h2
noncomputable def cntG (p : Nat) (g : Nat → Nat) (c : Nat) : Nat := ((List.range p).filter fun f => decide (g f = c)).length
/-- the row that most figures lead to, of two as frequent the one of the least figure; f is its least figure -/
structure Usual (p : Nat) (g : Nat → Nat) (f : Nat) : Prop where
  lt : f < p
  fst : ∀ i, i < f → g i ≠ g f
  top : ∀ i, i < p → cntG p g (g i) < cntG p g (g f) ∨ (cntG p g (g i) = cntG p g (g f) ∧ (g i = g f ∨ f < i))
theorem Usual.uniq {p : Nat} {g : Nat → Nat} {f f' : Nat} (h : Usual p g f) (k : Usual p g f') : f = f' := by
  rcases h.top f' k.lt with a | ⟨a, b⟩
  · rcases k.top f h.lt with c | ⟨c, _⟩ <;> omega
  · rcases k.top f h.lt with c | ⟨c, e⟩
    · omega
    · rcases b with b | b
      · refine Classical.byContradiction fun n => ?_
        rcases Nat.lt_or_gt_of_ne n with z | z
        · exact k.fst f z b.symm
        · exact h.fst f' z b
      · rcases e with e | e
        · exact absurd e (k.fst f b |> fun n => fun z => by
            rcases Nat.lt_or_gt_of_ne (show f ≠ f' by omega) with y | y
            · exact k.fst f y z
            · omega)
        · omega
theorem cntG_pat {p : Nat} {g g' : Nat → Nat} (h : ∀ i j, i < p → j < p → (g i = g j ↔ g' i = g' j)) {i : Nat} (hi : i < p) : cntG p g (g i) = cntG p g' (g' i) := by
  unfold cntG
  refine congrArg List.length (List.filter_congr fun j hj => ?_)
  have := h j i (List.mem_range.mp hj) hi
  by_cases c : g j = g i
  · rw [decide_eq_true c, decide_eq_true (this.mp c)]
  · rw [decide_eq_false c, decide_eq_false fun z => c (this.mpr z)]
theorem Usual.pat {p : Nat} {g g' : Nat → Nat} (h : ∀ i j, i < p → j < p → (g i = g j ↔ g' i = g' j)) {f : Nat} (k : Usual p g f) : Usual p g' f := by
  refine ⟨k.lt, fun i hi z => k.fst i hi ((h i f (by have := k.lt; omega) k.lt).mpr z), fun i hi => ?_⟩
  rw [← cntG_pat h hi, ← cntG_pat h k.lt]
  rcases k.top i hi with a | ⟨a, b⟩
  · exact .inl a
  · exact .inr ⟨a, b.imp (fun z => (h i f hi k.lt).mp z) id⟩
/-- the exceptions from where all figures lead to -/
noncomputable def excOf (p : Nat) (g : Nat → Nat) (rest : Nat) : List (Nat × Nat) := ((List.range p).filter fun f => decide (g f ≠ rest)).map fun f => (f, g f)
/-- a table in which each row stands once, in the one form -/
structure Canon (m : Nat) (P : Nat → Nat) (t : Tab) : Prop where
  wf : WF m t
  us : ∀ r, 2 ≤ r → r < t.length → ∃ f, Usual (P (rowAt t r).1) (belowF (rowAt t r)) f ∧ (rowAt t r).2.1 = belowF (rowAt t r) f
  ex : ∀ r, 2 ≤ r → r < t.length → (rowAt t r).2.2 = excOf (P (rowAt t r).1) (belowF (rowAt t r)) (rowAt t r).2.1
  ne : ∀ r, 2 ≤ r → r < t.length → ∃ f, f < P (rowAt t r).1 ∧ belowF (rowAt t r) f ≠ (rowAt t r).2.1
  one : ∀ r s, 2 ≤ r → r < t.length → 2 ≤ s → s < t.length → rowAt t r = rowAt t s → r = s
noncomputable def Val (m : Nat) (P d : Nat → Nat) : Prop := ∀ i, i < m → d i < P i
noncomputable def setD (d : Nat → Nat) (i f : Nat) : Nat → Nat := fun j => if j = i then f else d j
theorem Val.set {m : Nat} {P d : Nat → Nat} (h : Val m P d) {i f : Nat} (hf : f < P i) : Val m P (setD d i f) := fun j hj => by
  unfold setD
  by_cases c : j = i
  · rw [if_pos c, c]; exact hf
  · rw [if_neg c]; exact h j hj
/-- what a row tells with a figure at its place -/
theorem sem_set {m : Nat} {t : Tab} (h : WF m t) {r f : Nat} {d : Nat → Nat} (h2 : 2 ≤ r) (hl : r < t.length) : sem t r (setD d (rowAt t r).1 f) = sem t (belowF (rowAt t r) f) d := by
  rw [sem_ge h h2 hl]
  have e : setD d (rowAt t r).1 f (rowAt t r).1 = f := if_pos rfl
  rw [e]
  have hu := h.up r h2 hl f
  have hb := h.dn r h2 hl f
  exact sem_loc h _ (by omega) fun i h1 _ => if_neg (by omega)
theorem sem_skip {m : Nat} {t : Tab} (h : WF m t) {r f i : Nat} {d : Nat → Nat} (hl : r < t.length) (hi : i < (rowAt t r).1) : sem t r (setD d i f) = sem t r d :=
  sem_loc h _ hl fun j h1 _ => if_neg (by omega)
section
variable {m : Nat} {P : Nat → Nat} {t u : Tab}
/-- the same for all figures -/
noncomputable def Same30 (m : Nat) (P : Nat → Nat) (t : Tab) (r : Nat) (u : Tab) (s : Nat) : Prop := ∀ d, Val m P d → sem t r d = sem u s d
theorem Canon.plr (h : Canon m P t) {r : Nat} (hl : r < t.length) : (rowAt t r).1 ≤ m := by
  by_cases c : r < 2
  · have : r = 0 ∨ r = 1 := by omega
    rcases this with e | e
    · rw [e, h.wf.none]; exact Nat.le_refl _
    · rw [e, h.wf.all]; exact Nat.le_refl _
  · exact Nat.le_of_lt (h.wf.pl r (by omega) hl)
theorem same_below (h : Canon m P t) (k : Canon m P u) {r s : Nat} (hr : r < t.length) (h2 : 2 ≤ s) (hs : s < u.length) (e : Same30 m P t r u s) (hp : (rowAt u s).1 < (rowAt t r).1) {f : Nat} (hf : f < P (rowAt u s).1) : Same30 m P t r u (belowF (rowAt u s) f) := fun d hd => by
  rw [← sem_set k.wf h2 hs, ← e _ (hd.set hf), sem_skip h.wf hr hp]
theorem same_each (h : Canon m P t) (k : Canon m P u) {r s : Nat} (g2 : 2 ≤ r) (hr : r < t.length) (h2 : 2 ≤ s) (hs : s < u.length) (e : Same30 m P t r u s) (hp : (rowAt t r).1 = (rowAt u s).1) {f : Nat} (hf : f < P (rowAt u s).1) : Same30 m P t (belowF (rowAt t r) f) u (belowF (rowAt u s) f) := fun d hd => by
  have := e _ (hd.set (i := (rowAt u s).1) hf)
  rw [sem_set k.wf h2 hs, ← hp, sem_set h.wf g2 hr] at this
  exact this
/-- rows of one table that tell the same are one -/
theorem Canon.inj (h : Canon m P t) (hP : ∀ i, i < m → 0 < P i) : ∀ n r s, r + s ≤ n → r < t.length → s < t.length → Same30 m P t r t s → r = s := by
  intro n
  induction n using Nat.strongRecOn with
  | ind n ih =>
    intro r s hn hr hs e
    have out : ∀ r s, r + s ≤ n → r < t.length → 2 ≤ s → s < t.length → Same30 m P t r t s → (rowAt t s).1 < (rowAt t r).1 → False := by
      intro r s hn hr h2 hs e hp
      obtain ⟨f, hu, hf⟩ := h.us s h2 hs
      obtain ⟨f1, hf1, hne⟩ := h.ne s h2 hs
      have b1 := h.wf.dn s h2 hs f
      have b2 := h.wf.dn s h2 hs f1
      have e1 := ih (r + belowF (rowAt t s) f) (by omega) r _ (Nat.le_refl _) hr (by omega) (same_below h h hr h2 hs e hp hu.lt)
      have e2 := ih (r + belowF (rowAt t s) f1) (by omega) r _ (Nat.le_refl _) hr (by omega) (same_below h h hr h2 hs e hp hf1)
      exact hne (by rw [hf, ← e1, ← e2])
    have sy : Same30 m P t s t r := fun d hd => (e d hd).symm
    by_cases c : s < 2
    · by_cases c2 : r < 2
      · have := e (fun _ => 0) fun i hi => hP i hi
        rw [sem_lt c, sem_lt c2] at this
        have h3 : (r = 1 ↔ s = 1) := by simpa using this
        omega
      · have hp : (rowAt t r).1 < (rowAt t s).1 := by
          have h1 := h.wf.pl r (by omega) hr
          have : s = 0 ∨ s = 1 := by omega
          rcases this with z | z
          · rw [z, h.wf.none]; exact h1
          · rw [z, h.wf.all]; exact h1
        exact (out s r (by omega) hs (by omega) hr sy hp).elim
    · by_cases c2 : r < 2
      · have hp : (rowAt t s).1 < (rowAt t r).1 := by
          have h1 := h.wf.pl s (by omega) hs
          have : r = 0 ∨ r = 1 := by omega
          rcases this with z | z
          · rw [z, h.wf.none]; exact h1
          · rw [z, h.wf.all]; exact h1
        exact (out r s hn hr (by omega) hs e hp).elim
      · rcases Nat.lt_trichotomy (rowAt t r).1 (rowAt t s).1 with z | z | z
        · exact (out s r (by omega) hs (by omega) hr sy z).elim
        · have hg : ∀ f, f < P (rowAt t s).1 → belowF (rowAt t r) f = belowF (rowAt t s) f := fun f hf => by
            have b1 := h.wf.dn r (by omega) hr f
            have b2 := h.wf.dn s (by omega) hs f
            exact ih (belowF (rowAt t r) f + belowF (rowAt t s) f) (by omega) _ _ (Nat.le_refl _) (by omega) (by omega) (same_each h h (by omega) hr (by omega) hs e z hf)
          obtain ⟨f, hu, hf⟩ := h.us r (by omega) hr
          obtain ⟨f', hu', hf'⟩ := h.us s (by omega) hs
          rw [z] at hu
          have ef : f = f' := (hu.pat fun i j hi hj => by rw [hg i hi, hg j hj]).uniq hu'
          have er : (rowAt t r).2.1 = (rowAt t s).2.1 := by rw [hf, hf', ef, hg f' (by rw [← ef]; exact hu.lt)]
          refine h.one r s (by omega) hr (by omega) hs (Prod.ext z (Prod.ext er ?_))
          rw [h.ex r (by omega) hr, h.ex s (by omega) hs, z, er]
          unfold excOf
          have hfil : (List.range (P (rowAt t s).1)).filter (fun f => decide (belowF (rowAt t r) f ≠ (rowAt t s).2.1)) = (List.range (P (rowAt t s).1)).filter (fun f => decide (belowF (rowAt t s) f ≠ (rowAt t s).2.1)) := List.filter_congr fun x hx => by rw [hg x (List.mem_range.mp hx)]
          rw [hfil]
          exact List.map_congr_left fun x hx => by rw [hg x (List.mem_range.mp (List.mem_filter.mp hx).1)]
        · exact (out r s hn hr (by omega) hs e z).elim
end
section
variable {m : Nat} {P : Nat → Nat} {t u : Tab}
/-- of two tables: rows that tell the same have one form -/
structure Alike (P : Nat → Nat) (t : Tab) (r : Nat) (u : Tab) (s : Nat) (R : Nat → Nat → Prop) : Prop where
  pl : (rowAt t r).1 = (rowAt u s).1
  rest : R (rowAt t r).2.1 (rowAt u s).2.1
  exc : Paired (fun a b => a.1 = b.1 ∧ R a.2 b.2) (rowAt t r).2.2 (rowAt u s).2.2
theorem same_out (h : Canon m P t) (k : Canon m P u) (hP : ∀ i, i < m → 0 < P i) {r s : Nat} (hr : r < t.length) (h2 : 2 ≤ s) (hs : s < u.length) (e : Same30 m P t r u s) : ¬ (rowAt u s).1 < (rowAt t r).1 := fun hp => by
  obtain ⟨f, hu, hf⟩ := k.us s h2 hs
  obtain ⟨f1, hf1, hne⟩ := k.ne s h2 hs
  have b1 := k.wf.dn s h2 hs f
  have b2 := k.wf.dn s h2 hs f1
  have e1 := same_below h k hr h2 hs e hp hu.lt
  have e2 := same_below h k hr h2 hs e hp hf1
  exact hne (by rw [hf]; exact (k.inj hP _ _ _ (Nat.le_refl _) (by omega) (by omega) fun d hd => (e2 d hd).symm.trans (e1 d hd)))
theorem Same30.symm {r s : Nat} (h : Same30 m P t r u s) : Same30 m P u s t r := fun d hd => (h d hd).symm
theorem forall2_map {α β γ : Type} {R : β → γ → Prop} {f : α → β} {g : α → γ} : ∀ {l : List α}, (∀ x ∈ l, R (f x) (g x)) → Paired R (l.map f) (l.map g)
  | [], _ => .nil
  | x :: r, h => .cons (h x List.mem_cons_self) (forall2_map fun y hy => h y (List.mem_cons_of_mem _ hy))
theorem low_pl (h : WF m t) {r : Nat} (c : r < 2) : (rowAt t r).1 = m := by
  have : r = 0 ∨ r = 1 := by omega
  rcases this with z | z
  · rw [z, h.none]
  · rw [z, h.all]
theorem same_low (h : Canon m P t) (k : Canon m P u) (hP : ∀ i, i < m → 0 < P i) {r s : Nat} (hr : r < t.length) (hs : s < u.length) (e : Same30 m P t r u s) (c : r < 2) : r = s := by
  by_cases c2 : s < 2
  · have := e (fun _ => 0) fun i hi => hP i hi
    rw [sem_lt c, sem_lt c2] at this
    have h3 : (r = 1 ↔ s = 1) := by simpa using this
    omega
  · exact absurd (by rw [low_pl h.wf c]; exact k.wf.pl s (by omega) hs) (same_out h k hP hr (by omega) hs e)
theorem alike (h : Canon m P t) (k : Canon m P u) (hP : ∀ i, i < m → 0 < P i) {r s : Nat} (g2 : 2 ≤ r) (hr : r < t.length) (hs : s < u.length) (e : Same30 m P t r u s) : 2 ≤ s ∧ Alike P t r u s (Same30 m P t · u ·) := by
  have h2 : 2 ≤ s := by
    refine Classical.byContradiction fun c => ?_
    have := same_low k h hP hs hr e.symm (by omega)
    omega
  refine ⟨h2, ?_⟩
  have z : (rowAt t r).1 = (rowAt u s).1 := by
    have a := same_out h k hP hr h2 hs e
    have b := same_out k h hP hs g2 hr e.symm
    omega
  have hg : ∀ f, f < P (rowAt u s).1 → Same30 m P t (belowF (rowAt t r) f) u (belowF (rowAt u s) f) := fun f hf => same_each h k g2 hr h2 hs e z hf
  have lt1 : ∀ f, belowF (rowAt t r) f < t.length := fun f => by have := h.wf.dn r g2 hr f; omega
  have lt2 : ∀ f, belowF (rowAt u s) f < u.length := fun f => by have := k.wf.dn s h2 hs f; omega
  have pat : ∀ i j, i < P (rowAt u s).1 → j < P (rowAt u s).1 → (belowF (rowAt t r) i = belowF (rowAt t r) j ↔ belowF (rowAt u s) i = belowF (rowAt u s) j) := fun i j hi hj => by
    constructor
    · intro c
      refine k.inj hP _ _ _ (Nat.le_refl _) (lt2 i) (lt2 j) fun d hd => ?_
      rw [← hg i hi d hd, ← hg j hj d hd, c]
    · intro c
      refine h.inj hP _ _ _ (Nat.le_refl _) (lt1 i) (lt1 j) fun d hd => ?_
      rw [hg i hi d hd, hg j hj d hd, c]
  obtain ⟨f, hu, hf⟩ := h.us r g2 hr
  obtain ⟨f', hu', hf'⟩ := k.us s h2 hs
  rw [z] at hu
  have ef : f = f' := (hu.pat pat).uniq hu'
  refine ⟨z, by rw [hf, hf', ← ef]; exact hg f hu.lt, ?_⟩
  rw [h.ex r g2 hr, k.ex s h2 hs, z]
  unfold excOf
  have hfil : (List.range (P (rowAt u s).1)).filter (fun x => decide (belowF (rowAt t r) x ≠ (rowAt t r).2.1)) = (List.range (P (rowAt u s).1)).filter (fun x => decide (belowF (rowAt u s) x ≠ (rowAt u s).2.1)) := List.filter_congr fun x hx => by
    have := pat x f (List.mem_range.mp hx) hu.lt
    rw [← hf, ef, ← hf'] at this
    by_cases c : belowF (rowAt t r) x = (rowAt t r).2.1
    · rw [decide_eq_false (fun n => n c), decide_eq_false (fun n => n (this.mp c))]
    · rw [decide_eq_true c, decide_eq_true (show belowF (rowAt u s) x ≠ (rowAt u s).2.1 from fun n => c (this.mpr n))]
  rw [hfil]
  exact forall2_map fun x hx => ⟨rfl, hg x (List.mem_range.mp (List.mem_filter.mp hx).1)⟩
end
structure SS where
  wait : List Nat
  num : List (Nat × Nat)
  made : Tab
noncomputable def getN (n : List (Nat × Nat)) (r : Nat) : Option Nat := (n.find? fun e => decide (e.1 = r)).map (·.2)
noncomputable def leftOf (w : Row) (n : List (Nat × Nat)) : Option Nat :=
  match (w.2.2.map (·.2)).find? fun b => (getN n b).isNone with
  | some b => some b
  | none => if (getN n w.2.1).isNone then some w.2.1 else none
noncomputable def outRow (w : Row) (n : List (Nat × Nat)) : Row := (w.1, (getN n w.2.1).getD 0, w.2.2.map fun e => (e.1, (getN n e.2).getD 0))
/-- one turn, the last of the waiting is x -/
noncomputable def stepS (t : Tab) (x : Nat) (rest : List Nat) (s : SS) : SS :=
  match leftOf (rowAt t x) s.num with
  | some b => ⟨b :: x :: rest, s.num, s.made⟩
  | none => if (getN s.num x).isNone then ⟨rest, s.num ++ [(x, s.made.length)], s.made ++ [outRow (rowAt t x) s.num]⟩ else ⟨rest, s.num, s.made⟩
noncomputable def runS (t : Tab) : Nat → SS → SS
  | 0, s => s
  | n + 1, s => match s.wait with
    | [] => s
    | x :: rest => runS t n (stepS t x rest s)
section
variable {m : Nat} {P : Nat → Nat} {t u : Tab}
/-- two runs side by side -/
structure Lock (m : Nat) (P : Nat → Nat) (t u : Tab) (s s' : SS) : Prop where
  wait : Paired (fun a b => a < t.length ∧ b < u.length ∧ Same30 m P t a u b) s.wait s'.wait
  num : Paired (fun (a b : Nat × Nat) => a.1 < t.length ∧ b.1 < u.length ∧ Same30 m P t a.1 u b.1 ∧ a.2 = b.2) s.num s'.num
  made : s.made = s'.made
theorem same_iff (h : Canon m P t) (k : Canon m P u) (hP : ∀ i, i < m → 0 < P i) {a b r s : Nat} (ha : a < t.length) (hb : b < u.length) (hr : r < t.length) (hs : s < u.length) (e : Same30 m P t a u b) (e' : Same30 m P t r u s) : a = r ↔ b = s := by
  constructor
  · intro c
    exact k.inj hP _ _ _ (Nat.le_refl _) hb hs fun d hd => by rw [← e d hd, ← e' d hd, c]
  · intro c
    exact h.inj hP _ _ _ (Nat.le_refl _) ha hr fun d hd => by rw [e d hd, e' d hd, c]
theorem getN_lock (h : Canon m P t) (k : Canon m P u) (hP : ∀ i, i < m → 0 < P i) {r s : Nat} (hr : r < t.length) (hs : s < u.length) (e : Same30 m P t r u s) {n n' : List (Nat × Nat)} (hn : Paired (fun (a b : Nat × Nat) => a.1 < t.length ∧ b.1 < u.length ∧ Same30 m P t a.1 u b.1 ∧ a.2 = b.2) n n') : getN n r = getN n' s := by
  induction hn with
  | nil => rfl
  | cons x _ ih =>
    rename_i a b as bs _
    obtain ⟨h1, h2, h3, h4⟩ := x
    have := same_iff h k hP h1 h2 hr hs h3 e
    unfold getN at ih ⊢
    rw [List.find?_cons, List.find?_cons]
    by_cases c : a.1 = r
    · rw [decide_eq_true c, decide_eq_true (this.mp c)]
      exact congrArg some h4
    · rw [decide_eq_false c, decide_eq_false fun z => c (this.mpr z)]
      exact ih
/-- both none, or both some that tell the same -/
noncomputable def OLock (m : Nat) (P : Nat → Nat) (t u : Tab) : Option Nat → Option Nat → Prop
  | none, none => True
  | some a, some b => a < t.length ∧ b < u.length ∧ Same30 m P t a u b
  | _, _ => False
theorem find_lock {n n' : List (Nat × Nat)} (hg : ∀ a b, a < t.length → b < u.length → Same30 m P t a u b → getN n a = getN n' b) {l l' : List Nat} (h : Paired (fun a b => a < t.length ∧ b < u.length ∧ Same30 m P t a u b) l l') : OLock m P t u (l.find? fun b => (getN n b).isNone) (l'.find? fun b => (getN n' b).isNone) := by
  induction h with
  | nil => trivial
  | cons x _ ih =>
    rename_i a b as bs _
    obtain ⟨h1, h2, h3⟩ := x
    rw [List.find?_cons, List.find?_cons, hg a b h1 h2 h3]
    cases (getN n' b).isNone with
    | true => exact ⟨h1, h2, h3⟩
    | false => exact ih
theorem paired_map2 {α β γ δ : Type} {R : α → β → Prop} {S : γ → δ → Prop} {f : α → γ} {g : β → δ} (h : ∀ a b, R a b → S (f a) (g b)) : ∀ {l : List α} {l' : List β}, Paired R l l' → Paired S (l.map f) (l'.map g)
  | _, _, .nil => .nil
  | _, _, .cons r t => .cons (h _ _ r) (paired_map2 h t)
theorem Canon.exc_lt (h : Canon m P t) {r : Nat} (h2 : 2 ≤ r) (hr : r < t.length) : (rowAt t r).2.1 < r ∧ ∀ e ∈ (rowAt t r).2.2, e.2 < r := by
  obtain ⟨f, _, hf⟩ := h.us r h2 hr
  refine ⟨by rw [hf]; exact h.wf.dn r h2 hr f, fun e he => ?_⟩
  rw [h.ex r h2 hr] at he
  obtain ⟨x, _, rfl⟩ := List.mem_map.mp he
  exact h.wf.dn r h2 hr x
theorem paired_and {α β : Type} {R S : α → β → Prop} {l : List α} {l' : List β} (h : Paired R l l') (hs : ∀ a ∈ l, ∀ b ∈ l', R a b → S a b) : Paired S l l' := by
  induction h with
  | nil => exact .nil
  | cons r _ ih => exact .cons (hs _ List.mem_cons_self _ List.mem_cons_self r) (ih fun a ha b hb => hs a (List.mem_cons_of_mem _ ha) b (List.mem_cons_of_mem _ hb))
theorem low_row (h : WF m t) {r : Nat} (c : r < 2) : rowAt t r = (m, r, []) := by
  have : r = 0 ∨ r = 1 := by omega
  rcases this with z | z
  · rw [z, h.none]
  · rw [z, h.all]
/-- the forms of two rows that tell the same, with bounds -/
theorem form_lock (h : Canon m P t) (k : Canon m P u) (hP : ∀ i, i < m → 0 < P i) {r s : Nat} (hr : r < t.length) (hs : s < u.length) (e : Same30 m P t r u s) :
    (rowAt t r).1 = (rowAt u s).1 ∧ ((rowAt t r).2.1 < t.length ∧ (rowAt u s).2.1 < u.length ∧ Same30 m P t (rowAt t r).2.1 u (rowAt u s).2.1) ∧ Paired (fun (a b : Nat × Nat) => a.1 = b.1 ∧ a.2 < t.length ∧ b.2 < u.length ∧ Same30 m P t a.2 u b.2) (rowAt t r).2.2 (rowAt u s).2.2 := by
  by_cases c : r < 2
  · have es := same_low h k hP hr hs e c
    subst es
    rw [low_row h.wf c, low_row k.wf c]
    exact ⟨rfl, ⟨hr, hs, e⟩, .nil⟩
  · obtain ⟨h2, al⟩ := alike h k hP (by omega) hr hs e
    have l1 := h.exc_lt (by omega) hr
    have l2 := k.exc_lt h2 hs
    refine ⟨al.pl, ⟨by omega, by omega, al.rest⟩, paired_and al.exc fun a ha b hb r => ⟨r.1, ?_, ?_, r.2⟩⟩
    · have := l1.2 a ha
      omega
    · have := l2.2 b hb
      omega
theorem Lock.step (h : Canon m P t) (k : Canon m P u) (hP : ∀ i, i < m → 0 < P i) {s s' : SS} {x y : Nat} {xs ys : List Nat} (L : Lock m P t u s s') (hx : x < t.length) (hy : y < u.length) (e : Same30 m P t x u y) (hw : Paired (fun a b => a < t.length ∧ b < u.length ∧ Same30 m P t a u b) xs ys) : Lock m P t u (stepS t x xs s) (stepS u y ys s') := by
  obtain ⟨f1, f2, f3⟩ := form_lock h k hP hx hy e
  have hg : ∀ a b, a < t.length → b < u.length → Same30 m P t a u b → getN s.num a = getN s'.num b := fun a b ha hb eb => getN_lock h k hP ha hb eb L.num
  have hl : OLock m P t u (leftOf (rowAt t x) s.num) (leftOf (rowAt u y) s'.num) := by
    have := find_lock hg (paired_map2 (S := fun a b => a < t.length ∧ b < u.length ∧ Same30 m P t a u b) (f := fun e : Nat × Nat => e.2) (g := fun e : Nat × Nat => e.2) (fun a b r => r.2) f3)
    unfold leftOf
    revert this
    cases (List.find? (fun b => (getN s.num b).isNone) ((rowAt t x).2.2.map (·.2))) with
    | none =>
      cases (List.find? (fun b => (getN s'.num b).isNone) ((rowAt u y).2.2.map (·.2))) with
      | none =>
        intro _
        show OLock m P t u (if (getN s.num (rowAt t x).2.1).isNone = true then some (rowAt t x).2.1 else none) (if (getN s'.num (rowAt u y).2.1).isNone = true then some (rowAt u y).2.1 else none)
        rw [hg _ _ f2.1 f2.2.1 f2.2.2]
        by_cases c : (getN s'.num (rowAt u y).2.1).isNone = true
        · rw [if_pos c, if_pos c]; exact f2
        · rw [if_neg c, if_neg c]; trivial
      | some b => exact fun z => z.elim
    | some a =>
      cases (List.find? (fun b => (getN s'.num b).isNone) ((rowAt u y).2.2.map (·.2))) with
      | none => exact fun z => z.elim
      | some b => exact fun z => z
  have ho : outRow (rowAt t x) s.num = outRow (rowAt u y) s'.num := by
    unfold outRow
    rw [f1, hg _ _ f2.1 f2.2.1 f2.2.2]
    refine congrArg (fun l => ((rowAt u y).1, (getN s'.num (rowAt u y).2.1).getD 0, l)) ?_
    have : ∀ {l l' : List (Nat × Nat)}, Paired (fun (a b : Nat × Nat) => a.1 = b.1 ∧ a.2 < t.length ∧ b.2 < u.length ∧ Same30 m P t a.2 u b.2) l l' → l.map (fun e => (e.1, (getN s.num e.2).getD 0)) = l'.map (fun e => (e.1, (getN s'.num e.2).getD 0)) := by
      intro l l' hp
      induction hp with
      | nil => rfl
      | cons r _ ih => rw [List.map_cons, List.map_cons, ih, r.1, hg _ _ r.2.1 r.2.2.1 r.2.2.2]
    exact this f3
  unfold stepS
  revert hl
  cases leftOf (rowAt t x) s.num with
  | some a =>
    cases leftOf (rowAt u y) s'.num with
    | some b => exact fun z => ⟨.cons z (.cons ⟨hx, hy, e⟩ hw), L.num, L.made⟩
    | none => exact fun z => z.elim
  | none =>
    cases leftOf (rowAt u y) s'.num with
    | some b => exact fun z => z.elim
    | none =>
      intro _
      show Lock m P t u (if (getN s.num x).isNone = true then _ else _) (if (getN s'.num y).isNone = true then _ else _)
      rw [hg x y hx hy e]
      by_cases c : (getN s'.num y).isNone = true
      · rw [if_pos c, if_pos c]
        exact ⟨hw, Paired.snoc L.num ⟨hx, hy, e, by rw [L.made]⟩, by rw [L.made, ho]⟩
      · rw [if_neg c, if_neg c]
        exact ⟨hw, L.num, L.made⟩
theorem Lock.run (h : Canon m P t) (k : Canon m P u) (hP : ∀ i, i < m → 0 < P i) : ∀ n (s s' : SS), Lock m P t u s s' → Lock m P t u (runS t n s) (runS u n s')
  | 0, _, _, L => L
  | n + 1, s, s', L => by
    have hw := L.wait
    unfold runS
    cases hs : s.wait with
    | nil =>
      rw [hs] at hw
      cases hs' : s'.wait with
      | nil => exact L
      | cons _ _ => rw [hs'] at hw; cases hw
    | cons x xs =>
      rw [hs] at hw
      cases hs' : s'.wait with
      | nil => rw [hs'] at hw; cases hw
      | cons y ys =>
        rw [hs'] at hw
        cases hw with
        | cons r hr => exact Lock.run h k hP n _ _ (L.step h k hP r.1 r.2.1 r.2.2 hr)
end
end Bc
namespace Bc
open PySem PySem.Spec PyProof.Rows L2
theorem runS_end {t : Tab} {s : SS} (h : s.wait = []) : ∀ n, runS t n s = s
  | 0 => rfl
  | n + 1 => by unfold runS; rw [h]
theorem runS_cons {t : Tab} {n : Nat} {s : SS} {x : Nat} {xs : List Nat} (h : s.wait = x :: xs) : runS t (n + 1) s = runS t n (stepS t x xs s) := by
  conv => lhs; unfold runS
  rw [h]
theorem runS_add {t : Tab} : ∀ (n k : Nat) (s : SS), runS t (n + k) s = runS t k (runS t n s)
  | 0, k, s => by rw [Nat.zero_add]; rfl
  | n + 1, k, s => by
    cases hs : s.wait with
    | nil => rw [runS_end hs, runS_end hs, runS_end hs]
    | cons x xs =>
      rw [show n + 1 + k = (n + k) + 1 by omega, runS_cons hs, runS_cons hs]
      exact runS_add n k _
theorem runS_succ {t : Tab} {n : Nat} {s s0 : SS} {x : Nat} {xs : List Nat} (e : runS t n s0 = s) (h : s.wait = x :: xs) : runS t (n + 1) s0 = stepS t x xs s := by
  rw [runS_add, e, runS_cons h]
  rfl
noncomputable def startS (t : Tab) (r : Nat) : SS := ⟨[r], [(0, 0), (1, 1)], [rowAt t 0, rowAt t 1]⟩
/-- sets that tell the same are settled alike -/
theorem settle_same {m : Nat} {P : Nat → Nat} {t u : Tab} {r s n k : Nat} (h : Canon m P t) (g : Canon m P u) (hP : ∀ i, i < m → 0 < P i) (hr : r < t.length) (hs : s < u.length) (e : Same30 m P t r u s)
    (e1 : (runS t n (startS t r)).wait = []) (e2 : (runS u k (startS u s)).wait = []) : (runS t n (startS t r)).made = (runS u k (startS u s)).made ∧ getN (runS t n (startS t r)).num r = getN (runS u k (startS u s)).num s := by
  have hl := h.wf.len
  have gl := g.wf.len
  have low : ∀ i, i < 2 → Same30 m P t i u i := fun i hi d _ => by rw [sem_lt hi, sem_lt hi]
  have L : Lock m P t u (startS t r) (startS u s) := by
    refine ⟨.cons ⟨hr, hs, e⟩ .nil, .cons ⟨by omega, by omega, low 0 (by decide), rfl⟩ (.cons ⟨by omega, by omega, low 1 (by decide), rfl⟩ .nil), ?_⟩
    show [rowAt t 0, rowAt t 1] = [rowAt u 0, rowAt u 1]
    rw [h.wf.none, h.wf.all, g.wf.none, g.wf.all]
  have L2 := L.run h g hP (n + k)
  rw [runS_add, runS_end e1, Nat.add_comm n k, runS_add, runS_end e2] at L2
  exact ⟨L2.made, getN_lock h g hP hr hs e L2.num⟩
/-- where the numbering stands -/
structure Inv30 (t : Tab) (r0 : Nat) (s : SS) (keys : List Nat) : Prop where
  num : s.num = keys.zipIdx
  nd : keys.Nodup
  lt : ∀ x ∈ keys, x < t.length
  k0 : keys[0]? = some 0
  k1 : keys[1]? = some 1
  len : s.made.length = keys.length
  m0 : s.made[0]? = some (rowAt t 0)
  m1 : s.made[1]? = some (rowAt t 1)
  row : ∀ i x, 2 ≤ i → keys[i]? = some x → 2 ≤ x ∧ s.made[i]? = some (outRow (rowAt t x) s.num) ∧ (∃ j, getN s.num (rowAt t x).2.1 = some j ∧ j < i) ∧ ∀ e ∈ (rowAt t x).2.2, ∃ j, getN s.num e.2 = some j ∧ j < i
  wt : s.wait.Pairwise (· < ·)
  wl : ∀ x ∈ s.wait, x < t.length
  root : r0 ∈ keys ∨ r0 ∈ s.wait
theorem getN_zip {keys : List Nat} (nd : keys.Nodup) {r i : Nat} : getN keys.zipIdx r = some i ↔ keys[i]? = some r := by
  have key : ∀ (l : List Nat) (n i : Nat), l.Nodup → (((l.zipIdx n).find? fun e => decide (e.1 = r)).map (·.2) = some (n + i) ↔ l[i]? = some r) := by
    intro l
    induction l with
    | nil => intro n i _; simp
    | cons a t ih =>
      intro n i hn
      obtain ⟨h1, h2⟩ := List.nodup_cons.mp hn
      rw [List.zipIdx_cons, List.find?_cons]
      by_cases c : a = r
      · rw [decide_eq_true c]
        cases i with
        | zero => simp [c]
        | succ i =>
          rw [List.getElem?_cons_succ]
          constructor
          · intro z
            have : n = n + (i + 1) := Option.some.inj z
            omega
          · intro z
            exact absurd (List.mem_of_getElem? z) (by rw [← c]; exact h1)
      · rw [decide_eq_false c]
        cases i with
        | zero =>
          rw [List.getElem?_cons_zero]
          constructor
          · intro z
            exfalso
            have hz : ∀ (l : List Nat) (n k : Nat), ((l.zipIdx n).find? fun e => decide (e.1 = r)).map (·.2) = some k → n ≤ k := by
              intro l
              induction l with
              | nil => intro n k z; cases z
              | cons b s ih =>
                intro n k z
                rw [List.zipIdx_cons, List.find?_cons] at z
                by_cases c : b = r
                · rw [decide_eq_true c] at z
                  have : n = k := Option.some.inj z
                  omega
                · rw [decide_eq_false c] at z
                  have := ih _ _ z
                  omega
            have := hz _ _ _ z
            omega
          · intro z
            exact absurd (Option.some.inj z) c
        | succ i =>
          rw [List.getElem?_cons_succ, ← ih (n + 1) i h2, show n + (i + 1) = n + 1 + i by omega]
  have := key keys 0 i nd
  rw [Nat.zero_add] at this
  exact this
theorem getN_none {keys : List Nat} (nd : keys.Nodup) {r : Nat} : getN keys.zipIdx r = none ↔ r ∉ keys := by
  constructor
  · intro h hm
    obtain ⟨i, hi, e⟩ := List.getElem_of_mem hm
    rw [(getN_zip nd).mpr (List.getElem?_eq_some_iff.mpr ⟨hi, e⟩)] at h
    cases h
  · intro h
    cases hg : getN keys.zipIdx r with
    | none => rfl
    | some i => exact absurd (List.mem_of_getElem? ((getN_zip nd).mp hg)) h
end Bc
namespace Bc
open PySem PySem.Spec PyProof.Rows L2
theorem filter_lt {α : Type} {p q : α → Bool} {b : α} : ∀ {l : List α}, (∀ x ∈ l, q x = true → p x = true) → b ∈ l → p b = true → q b = false → (l.filter q).length < (l.filter p).length
  | [], _, h, _, _ => by cases h
  | x :: r, hs, hb, h1, h2 => by
    have le : ∀ {l : List α}, (∀ x ∈ l, q x = true → p x = true) → (l.filter q).length ≤ (l.filter p).length := by
      intro l
      induction l with
      | nil => intro _; exact Nat.le_refl _
      | cons y s ih =>
        intro hs
        have := ih fun x hx => hs x (List.mem_cons_of_mem _ hx)
        rw [List.filter_cons, List.filter_cons]
        by_cases c : q y = true
        · rw [if_pos c, if_pos (hs y List.mem_cons_self c), List.length_cons, List.length_cons]
          omega
        · rw [if_neg c]
          split
          · rw [List.length_cons]; omega
          · exact this
    have hr := le fun x hx => hs x (List.mem_cons_of_mem _ hx)
    rw [List.filter_cons, List.filter_cons]
    by_cases e : x = b
    · rw [e, if_neg (by rw [h2]; decide), if_pos h1, List.length_cons]
      omega
    · have hb' : b ∈ r := (List.mem_cons.mp hb).resolve_left fun z => e z.symm
      have := filter_lt (fun x hx => hs x (List.mem_cons_of_mem _ hx)) hb' h1 h2
      by_cases c : q x = true
      · rw [if_pos c, if_pos (hs x List.mem_cons_self c), List.length_cons, List.length_cons]
        omega
      · rw [if_neg c]
        split
        · rw [List.length_cons]; omega
        · exact this
theorem filter_le {α : Type} {p q : α → Bool} {l : List α} (hs : ∀ x ∈ l, q x = true → p x = true) : (l.filter q).length ≤ (l.filter p).length := by
  induction l with
  | nil => exact Nat.le_refl _
  | cons y s ih =>
    have := ih fun x hx => hs x (List.mem_cons_of_mem _ hx)
    rw [List.filter_cons, List.filter_cons]
    by_cases c : q y = true
    · rw [if_pos c, if_pos (hs y List.mem_cons_self c), List.length_cons, List.length_cons]
      omega
    · rw [if_neg c]
      split
      · rw [List.length_cons]; omega
      · exact this
/-- what is still to be done -/
noncomputable def mu30 (t : Tab) (keys wait : List Nat) : Nat := 2 * ((List.range t.length).filter fun r => decide (r ∉ keys ∧ r ∉ wait)).length + wait.length
section
variable {m : Nat} {P : Nat → Nat} {t : Tab} {r0 : Nat} {s : SS} {keys : List Nat}
theorem getN_app {n l : List (Nat × Nat)} {r i : Nat} (h : getN n r = some i) : getN (n ++ l) r = some i := by
  unfold getN at h ⊢
  obtain ⟨e, he, h2⟩ := Option.map_eq_some_iff.mp h
  rw [List.find?_append, he]
  exact congrArg some h2
theorem leftOf_some {w : Row} {n : List (Nat × Nat)} {b : Nat} (h : leftOf w n = some b) : getN n b = none ∧ (b = w.2.1 ∨ ∃ e ∈ w.2.2, e.2 = b) := by
  unfold leftOf at h
  cases hf : (w.2.2.map (·.2)).find? fun b => (getN n b).isNone with
  | some c =>
    rw [hf] at h
    cases h
    have h1 := List.find?_some hf
    have h2 := List.mem_of_find?_eq_some hf
    obtain ⟨e, he, h3⟩ := List.mem_map.mp h2
    exact ⟨Option.isNone_iff_eq_none.mp h1, .inr ⟨e, he, h3⟩⟩
  | none =>
    rw [hf] at h
    have h : (if (getN n w.2.1).isNone = true then some w.2.1 else none) = some b := h
    by_cases c : (getN n w.2.1).isNone = true
    · rw [if_pos c] at h
      cases h
      exact ⟨Option.isNone_iff_eq_none.mp c, .inl rfl⟩
    · rw [if_neg c] at h
      cases h
theorem leftOf_none {w : Row} {n : List (Nat × Nat)} (h : leftOf w n = none) : (∃ j, getN n w.2.1 = some j) ∧ ∀ e ∈ w.2.2, ∃ j, getN n e.2 = some j := by
  unfold leftOf at h
  cases hf : (w.2.2.map (·.2)).find? fun b => (getN n b).isNone with
  | some c => rw [hf] at h; cases h
  | none =>
    rw [hf] at h
    have h : (if (getN n w.2.1).isNone = true then some w.2.1 else none) = none := h
    refine ⟨?_, fun e he => ?_⟩
    · cases hg : getN n w.2.1 with
      | some j => exact ⟨j, rfl⟩
      | none => rw [hg, if_pos (show (none : Option Nat).isNone = true from rfl)] at h; cases h
    · have := List.find?_eq_none.mp hf e.2 (List.mem_map.mpr ⟨e, he, rfl⟩)
      cases hg : getN n e.2 with
      | some j => exact ⟨j, rfl⟩
      | none => rw [hg] at this; exact absurd rfl this
theorem outRow_app {w : Row} {n l : List (Nat × Nat)} (h1 : ∃ j, getN n w.2.1 = some j) (h2 : ∀ e ∈ w.2.2, ∃ j, getN n e.2 = some j) : outRow w (n ++ l) = outRow w n := by
  unfold outRow
  obtain ⟨j, hj⟩ := h1
  rw [getN_app hj, hj]
  refine congrArg (fun x => (w.1, (some j).getD 0, x)) (List.map_congr_left fun e he => ?_)
  obtain ⟨k, hk⟩ := h2 e he
  rw [getN_app hk, hk]
theorem Inv30.start (h : Canon m P t) {r : Nat} (hr : r < t.length) : Inv30 t r (startS t r) [0, 1] := by
  have hl := h.wf.len
  refine ⟨rfl, by decide, fun x hx => ?_, rfl, rfl, rfl, rfl, rfl, fun i x hi hx => ?_, ?_, fun x hx => ?_, .inr List.mem_cons_self⟩
  · simp only [List.mem_cons, List.not_mem_nil, or_false] at hx
    omega
  · have := (List.getElem?_eq_some_iff.mp hx).1
    simp only [List.length_cons, List.length_nil] at this
    omega
  · exact List.pairwise_singleton _ _
  · rw [List.mem_singleton.mp hx]
    exact hr
theorem Inv30.step (h : Canon m P t) (I : Inv30 t r0 s keys) {x : Nat} {xs : List Nat} (hw : s.wait = x :: xs) : ∃ keys', Inv30 t r0 (stepS t x xs s) keys' ∧ mu30 t keys' (stepS t x xs s).wait < mu30 t keys s.wait := by
  have hxl : x < t.length := I.wl x (by rw [hw]; exact List.mem_cons_self)
  have hpw := I.wt
  rw [hw] at hpw
  obtain ⟨hp1, hp2⟩ := List.pairwise_cons.mp hpw
  have k01 : ∀ i, i < 2 → getN s.num i = some i := fun i hi => by
    rw [I.num]
    have : i = 0 ∨ i = 1 := by omega
    rcases this with z | z
    · rw [z]; exact (getN_zip I.nd).mpr I.k0
    · rw [z]; exact (getN_zip I.nd).mpr I.k1
  unfold stepS
  cases hl : leftOf (rowAt t x) s.num with
  | some b =>
    obtain ⟨hb, hc⟩ := leftOf_some hl
    have x2 : 2 ≤ x := by
      refine Classical.byContradiction fun c => ?_
      rw [low_row h.wf (by omega)] at hc
      rcases hc with z | ⟨e, he, _⟩
      · rw [z, k01 x (by omega)] at hb
        cases hb
      · cases he
    have hbx : b < x := by
      have := h.exc_lt x2 hxl
      rcases hc with z | ⟨e, he, z⟩
      · rw [z]; exact this.1
      · rw [← z]; exact this.2 e he
    have hbk : b ∉ keys := (getN_none I.nd).mp (by rw [← I.num]; exact hb)
    refine ⟨keys, ⟨I.num, I.nd, I.lt, I.k0, I.k1, I.len, I.m0, I.m1, I.row, ?_, fun y hy => ?_, ?_⟩, ?_⟩
    · show (b :: x :: xs).Pairwise (· < ·)
      refine List.pairwise_cons.mpr ⟨fun y hy => ?_, hpw⟩
      rcases List.mem_cons.mp hy with z | z
      · rw [z]; exact hbx
      · have := hp1 y z; omega
    · rcases List.mem_cons.mp hy with z | z
      · rw [z]; omega
      · exact I.wl y (by rw [hw]; exact z)
    · rcases I.root with z | z
      · exact .inl z
      · exact .inr (List.mem_cons_of_mem _ (by rw [← hw]; exact z))
    · show mu30 t keys (b :: x :: xs) < mu30 t keys s.wait
      rw [hw]
      unfold mu30
      have hbw : b ∉ x :: xs := fun hm => by
        rcases List.mem_cons.mp hm with z | z
        · omega
        · have := hp1 b z; omega
      have := filter_lt (l := List.range t.length) (p := fun r => decide (r ∉ keys ∧ r ∉ x :: xs)) (q := fun r => decide (r ∉ keys ∧ r ∉ b :: x :: xs)) (b := b) (fun y _ hy => by
        have := of_decide_eq_true hy
        exact decide_eq_true ⟨this.1, fun z => this.2 (List.mem_cons_of_mem _ z)⟩) (List.mem_range.mpr (by omega)) (decide_eq_true ⟨hbk, hbw⟩) (decide_eq_false fun z => z.2 List.mem_cons_self)
      rw [List.length_cons (as := x :: xs)]
      omega
  | none =>
    obtain ⟨hr, he⟩ := leftOf_none hl
    have popmu : ∀ keys' : List Nat, (∀ y ∈ keys, y ∈ keys') → x ∈ keys' → mu30 t keys' xs < mu30 t keys s.wait := fun keys' hk hx => by
      rw [hw]
      unfold mu30
      have := filter_le (l := List.range t.length) (p := fun r => decide (r ∉ keys ∧ r ∉ x :: xs)) (q := fun r => decide (r ∉ keys' ∧ r ∉ xs)) fun y _ hy => by
        have := of_decide_eq_true hy
        refine decide_eq_true ⟨fun z => this.1 (hk y z), fun z => ?_⟩
        rcases List.mem_cons.mp z with z | z
        · exact this.1 (by rw [z]; exact hx)
        · exact this.2 z
      rw [List.length_cons]
      omega
    by_cases c : (getN s.num x).isNone = true
    · have hxk : x ∉ keys := (getN_none I.nd).mp (by rw [← I.num]; exact Option.isNone_iff_eq_none.mp c)
      have x2 : 2 ≤ x := by
        refine Classical.byContradiction fun z => ?_
        rw [k01 x (by omega)] at c
        cases c
      have lt : ∀ {y j : Nat}, getN s.num y = some j → j < keys.length := fun {y j} z => by
        rw [I.num] at z
        exact (List.getElem?_eq_some_iff.mp ((getN_zip I.nd).mp z)).1
      show ∃ keys', Inv30 t r0 (if (getN s.num x).isNone = true then _ else _) keys' ∧ mu30 t keys' (if (getN s.num x).isNone = true then _ else _ : SS).wait < _
      rw [if_pos c]
      have k0l := (List.getElem?_eq_some_iff.mp I.k0).1
      have k1l := (List.getElem?_eq_some_iff.mp I.k1).1
      have ml := I.len
      refine ⟨keys ++ [x], ⟨?_, ?_, fun y hy => ?_, ?_, ?_, ?_, ?_, ?_, fun i y hi hy => ?_, hp2, fun y hy => I.wl y (by rw [hw]; exact List.mem_cons_of_mem _ hy), ?_⟩, popmu _ (fun y hy => List.mem_append_left _ hy) (List.mem_append_right _ List.mem_cons_self)⟩
      · show s.num ++ [(x, s.made.length)] = _
        rw [List.zipIdx_append, I.num, I.len, Nat.zero_add]
        rfl
      · refine List.nodup_append.mpr ⟨I.nd, by simp, fun a ha b hb e => ?_⟩
        rw [List.mem_singleton.mp hb] at e
        exact hxk (by rw [← e]; exact ha)
      · rcases List.mem_append.mp hy with z | z
        · exact I.lt y z
        · rw [List.mem_singleton.mp z]; exact hxl
      · rw [List.getElem?_append_left k0l]; exact I.k0
      · rw [List.getElem?_append_left k1l]; exact I.k1
      · show (s.made ++ [_]).length = _
        rw [List.length_append, List.length_append, I.len]
        rfl
      · show (s.made ++ [_])[0]? = _
        rw [List.getElem?_append_left (by omega)]; exact I.m0
      · show (s.made ++ [_])[1]? = _
        rw [List.getElem?_append_left (by omega)]; exact I.m1
      · show 2 ≤ y ∧ (s.made ++ [outRow (rowAt t x) s.num])[i]? = some (outRow (rowAt t y) (s.num ++ [(x, s.made.length)])) ∧ (∃ j, getN (s.num ++ [(x, s.made.length)]) (rowAt t y).2.1 = some j ∧ j < i) ∧ ∀ e ∈ (rowAt t y).2.2, ∃ j, getN (s.num ++ [(x, s.made.length)]) e.2 = some j ∧ j < i
        by_cases z : i < keys.length
        · rw [List.getElem?_append_left z] at hy
          obtain ⟨y2, g1, ⟨j, g2, g3⟩, g4⟩ := I.row i y hi hy
          refine ⟨y2, ?_, ⟨j, getN_app g2, g3⟩, fun e he => ?_⟩
          · rw [List.getElem?_append_left (by omega), g1, outRow_app ⟨j, g2⟩ fun e he => (g4 e he).imp fun _ z => z.1]
          · obtain ⟨j, a, b⟩ := g4 e he
            exact ⟨j, getN_app a, b⟩
        · have il := (List.getElem?_eq_some_iff.mp hy).1
          rw [List.length_append, List.length_singleton] at il
          have ie : i = keys.length := by omega
          rw [List.getElem?_append_right (by omega), ie, Nat.sub_self] at hy
          cases hy
          refine ⟨x2, ?_, ?_, fun e hem => ?_⟩
          · rw [List.getElem?_append_right (by omega), I.len, ie, Nat.sub_self, outRow_app hr he]
            rfl
          · obtain ⟨j, hj⟩ := hr
            exact ⟨j, getN_app hj, by have := lt hj; omega⟩
          · obtain ⟨j, hj⟩ := he e hem
            exact ⟨j, getN_app hj, by have := lt hj; omega⟩
      · rcases I.root with z | z
        · exact .inl (List.mem_append_left _ z)
        · rw [hw] at z
          rcases List.mem_cons.mp z with z | z
          · exact .inl (List.mem_append_right _ (by rw [z]; exact List.mem_cons_self))
          · exact .inr z
    · have hxk : x ∈ keys := by
        refine Classical.byContradiction fun z => c ?_
        rw [I.num, (getN_none I.nd).mpr z]
        rfl
      show ∃ keys', Inv30 t r0 (if (getN s.num x).isNone = true then _ else _) keys' ∧ mu30 t keys' (if (getN s.num x).isNone = true then _ else _ : SS).wait < _
      rw [if_neg c]
      refine ⟨keys, ⟨I.num, I.nd, I.lt, I.k0, I.k1, I.len, I.m0, I.m1, I.row, hp2, fun y hy => I.wl y (by rw [hw]; exact List.mem_cons_of_mem _ hy), ?_⟩, popmu _ (fun y hy => hy) hxk⟩
      rcases I.root with z | z
      · exact .inl z
      · rw [hw] at z
        rcases List.mem_cons.mp z with z | z
        · exact .inl (by rw [z]; exact hxk)
        · exact .inr z
end
end Bc
namespace Bc
open PySem PySem.Spec PyProof.Rows L2
section
variable {m : Nat} {P : Nat → Nat} {t : Tab} {r0 : Nat} {s : SS} {keys : List Nat}
theorem belowF_out {w : Row} {n : List (Nat × Nat)} {f : Nat} : belowF (outRow w n) f = (getN n (belowF w f)).getD 0 := by
  unfold belowF outRow
  have : ∀ l : List (Nat × Nat), (l.map fun e => (e.1, (getN n e.2).getD 0)).find? (fun e => decide (e.1 = f)) = (l.find? fun e => decide (e.1 = f)).map fun e => (e.1, (getN n e.2).getD 0) := by
    intro l
    induction l with
    | nil => rfl
    | cons a r ih =>
      rw [List.map_cons, List.find?_cons, List.find?_cons]
      by_cases c : a.1 = f
      · rw [decide_eq_true c]; rfl
      · rw [decide_eq_false c]; exact ih
  show ((((w.2.2.map fun e => (e.1, (getN n e.2).getD 0)).find? fun e => decide (e.1 = f)).map (·.2)).getD ((getN n w.2.1).getD 0)) = _
  rw [this]
  cases (w.2.2.find? fun e => decide (e.1 = f)) with
  | none => rfl
  | some e => rfl
theorem rowAt_some {t : Tab} {r : Nat} {w : Row} (h : t[r]? = some w) : rowAt t r = w := by
  unfold rowAt
  rw [List.getD_eq_getElem?_getD, h]
  rfl
theorem Inv30.r01 (h : Canon m P t) (I : Inv30 t r0 s keys) {i : Nat} (hi : i < 2) : rowAt s.made i = rowAt t i ∧ keys[i]? = some i := by
  have : i = 0 ∨ i = 1 := by omega
  rcases this with z | z
  · rw [z]; exact ⟨rowAt_some I.m0, I.k0⟩
  · rw [z]; exact ⟨rowAt_some I.m1, I.k1⟩
theorem Inv30.key (I : Inv30 t r0 s keys) {i : Nat} (hi : i < s.made.length) : ∃ x, keys[i]? = some x := ⟨_, List.getElem?_eq_getElem (by rw [← I.len]; exact hi)⟩
/-- what the figure leads to has a number -/
theorem Inv30.bel (h : Canon m P t) (I : Inv30 t r0 s keys) {i x : Nat} (hi : 2 ≤ i) (hx : keys[i]? = some x) (f : Nat) : ∃ j, getN s.num (belowF (rowAt t x) f) = some j ∧ j < i := by
  obtain ⟨x2, g1, g2, g3⟩ := I.row i x hi hx
  unfold belowF
  cases hf : ((rowAt t x).2.2.find? fun e => decide (e.1 = f)) with
  | none => exact g2
  | some e => exact g3 e (List.mem_of_find?_eq_some hf)
theorem Inv30.rowi (I : Inv30 t r0 s keys) {i x : Nat} (hi : 2 ≤ i) (hx : keys[i]? = some x) : rowAt s.made i = outRow (rowAt t x) s.num := rowAt_some (I.row i x hi hx).2.1
theorem Inv30.plc (h : Canon m P t) (I : Inv30 t r0 s keys) {i x : Nat} (hx : keys[i]? = some x) : (rowAt s.made i).1 = (rowAt t x).1 := by
  by_cases c : i < 2
  · obtain ⟨e1, e2⟩ := I.r01 h c
    rw [e2] at hx
    cases hx
    rw [e1]
  · rw [I.rowi (by omega) hx]
    rfl
theorem Inv30.nat (I : Inv30 t r0 s keys) {x j : Nat} : getN s.num x = some j ↔ keys[j]? = some x := by rw [I.num]; exact getN_zip I.nd
theorem Inv30.wf (h : Canon m P t) (I : Inv30 t r0 s keys) : WF m s.made := by
  have l1 := (List.getElem?_eq_some_iff.mp I.m1).1
  refine ⟨by omega, by rw [(I.r01 h (by decide)).1, h.wf.none], by rw [(I.r01 h (by decide)).1, h.wf.all], fun i hi hl => ?_, fun i hi hl f => ?_, fun i hi hl f => ?_⟩
  · obtain ⟨x, hx⟩ := I.key hl
    rw [I.plc h hx]
    exact h.wf.pl x (I.row i x hi hx).1 (I.lt x (List.mem_of_getElem? hx))
  · obtain ⟨x, hx⟩ := I.key hl
    obtain ⟨j, hj, hji⟩ := I.bel h hi hx f
    rw [I.rowi hi hx, belowF_out, hj]
    exact hji
  · obtain ⟨x, hx⟩ := I.key hl
    obtain ⟨j, hj, hji⟩ := I.bel h hi hx f
    rw [show belowF (rowAt s.made i) f = j by rw [I.rowi hi hx, belowF_out, hj]; rfl, I.plc h hx, I.plc h (I.nat.mp hj)]
    exact h.wf.up x (I.row i x hi hx).1 (I.lt x (List.mem_of_getElem? hx)) f
theorem Inv30.sem (h : Canon m P t) (I : Inv30 t r0 s keys) {d : Nat → Nat} : ∀ i x, keys[i]? = some x → Bc.sem s.made i d = Bc.sem t x d := fun i => by
  induction i using Nat.strongRecOn with
  | ind i ih =>
    intro x hx
    by_cases c : i < 2
    · rw [(I.r01 h c).2] at hx
      cases hx
      rw [sem_lt c, sem_lt c]
    · have hl : i < s.made.length := by rw [I.len]; exact (List.getElem?_eq_some_iff.mp hx).1
      have hxl := I.lt x (List.mem_of_getElem? hx)
      have hx2 := (I.row i x (by omega) hx).1
      rw [sem_ge (I.wf h) (by omega) hl, sem_ge h.wf hx2 hxl, I.plc h hx]
      obtain ⟨j, hj, hji⟩ := I.bel h (by omega) hx (d (rowAt t x).1)
      rw [I.rowi (by omega) hx, belowF_out, hj]
      exact ih j hji _ (I.nat.mp hj)
theorem Inv30.canon (h : Canon m P t) (I : Inv30 t r0 s keys) : Canon m P s.made := by
  have inj : ∀ {x y j k : Nat}, getN s.num x = some j → getN s.num y = some k → (x = y ↔ j = k) := fun {x y j k} a b => by
    constructor
    · intro e
      rw [e, b] at a
      exact (Option.some.inj a).symm
    · intro e
      have a := I.nat.mp a
      have b := I.nat.mp b
      rw [e, b] at a
      exact (Option.some.inj a).symm
  have pat : ∀ {i x : Nat}, 2 ≤ i → keys[i]? = some x → ∀ f g, (belowF (rowAt t x) f = belowF (rowAt t x) g ↔ belowF (rowAt s.made i) f = belowF (rowAt s.made i) g) := fun {i x} hi hx f g => by
    obtain ⟨j, hj, _⟩ := I.bel h hi hx f
    obtain ⟨k, hk, _⟩ := I.bel h hi hx g
    rw [I.rowi hi hx, belowF_out, belowF_out, hj, hk]
    exact inj hj hk
  have low : ∀ {i x : Nat}, 2 ≤ i → keys[i]? = some x → 2 ≤ x ∧ x < t.length := fun {i x} hi hx => ⟨(I.row i x hi hx).1, I.lt x (List.mem_of_getElem? hx)⟩
  have us : ∀ {i x : Nat}, 2 ≤ i → keys[i]? = some x → ∀ f, (rowAt t x).2.1 = belowF (rowAt t x) f → (rowAt s.made i).2.1 = belowF (rowAt s.made i) f := fun {i x} hi hx f hf => by
    rw [I.rowi hi hx, belowF_out, ← hf]
    rfl
  refine ⟨I.wf h, fun i hi hl => ?_, fun i hi hl => ?_, fun i hi hl => ?_, fun i j hi hil hj hjl e => ?_⟩
  · obtain ⟨x, hx⟩ := I.key hl
    obtain ⟨f, hu, hf⟩ := h.us x (low hi hx).1 (low hi hx).2
    rw [I.plc h hx]
    exact ⟨f, hu.pat fun a b _ _ => pat hi hx a b, us hi hx f hf⟩
  · obtain ⟨x, hx⟩ := I.key hl
    obtain ⟨f, hu, hf⟩ := h.us x (low hi hx).1 (low hi hx).2
    have hr := us hi hx f hf
    rw [I.plc h hx]
    have he := h.ex x (low hi hx).1 (low hi hx).2
    have e1 : (rowAt s.made i).2.2 = (rowAt t x).2.2.map fun e => (e.1, (getN s.num e.2).getD 0) := by rw [I.rowi hi hx]; rfl
    rw [e1, he, hr]
    unfold excOf
    rw [List.map_map]
    have hfil : (List.range (P (rowAt t x).1)).filter (fun y => decide (belowF (rowAt t x) y ≠ (rowAt t x).2.1)) = (List.range (P (rowAt t x).1)).filter (fun y => decide (belowF (rowAt s.made i) y ≠ belowF (rowAt s.made i) f)) := List.filter_congr fun y _ => by
      have := pat hi hx y f
      rw [← hf] at this
      by_cases c : belowF (rowAt t x) y = (rowAt t x).2.1
      · rw [decide_eq_false (fun n => n c), decide_eq_false (fun n => n (this.mp c))]
      · rw [decide_eq_true c, decide_eq_true (show belowF (rowAt s.made i) y ≠ belowF (rowAt s.made i) f from fun n => c (this.mpr n))]
    rw [hfil]
    refine List.map_congr_left fun y _ => ?_
    show (y, (getN s.num (belowF (rowAt t x) y)).getD 0) = (y, belowF (rowAt s.made i) y)
    rw [I.rowi hi hx, belowF_out]
  · obtain ⟨x, hx⟩ := I.key hl
    obtain ⟨f, hfl, hf⟩ := h.ne x (low hi hx).1 (low hi hx).2
    obtain ⟨g, _, hg⟩ := h.us x (low hi hx).1 (low hi hx).2
    rw [I.plc h hx]
    refine ⟨f, hfl, fun z => hf ?_⟩
    rw [us hi hx g hg] at z
    rw [hg]
    exact (pat hi hx f g).mpr z
  · obtain ⟨x, hx⟩ := I.key hil
    obtain ⟨y, hy⟩ := I.key hjl
    have exy : x = y := by
      refine h.one x y (low hi hx).1 (low hi hx).2 (low hj hy).1 (low hj hy).2 ?_
      rw [I.rowi hi hx, I.rowi hj hy] at e
      unfold outRow at e
      injection e with p1 e
      injection e with p2 p3
      obtain ⟨_, _, ⟨j1, a1, _⟩, b1⟩ := I.row i x hi hx
      obtain ⟨_, _, ⟨j2, a2, _⟩, b2⟩ := I.row j y hj hy
      rw [a1, a2] at p2
      refine Prod.ext p1 (Prod.ext ((inj a1 a2).mpr p2) ?_)
      have : ∀ {l l' : List (Nat × Nat)}, (∀ e ∈ l, ∃ j, getN s.num e.2 = some j) → (∀ e ∈ l', ∃ j, getN s.num e.2 = some j) → l.map (fun e => (e.1, (getN s.num e.2).getD 0)) = l'.map (fun e => (e.1, (getN s.num e.2).getD 0)) → l = l' := by
        intro l
        induction l with
        | nil => intro l' _ _ e; cases l' with
          | nil => rfl
          | cons _ _ => cases e
        | cons a r ih => intro l' h1 h2 e; cases l' with
          | nil => cases e
          | cons b s' =>
            rw [List.map_cons, List.map_cons] at e
            injection e with e1 e2
            injection e1 with e3 e4
            obtain ⟨j, hj⟩ := h1 a List.mem_cons_self
            obtain ⟨k, hk⟩ := h2 b List.mem_cons_self
            rw [hj, hk] at e4
            rw [ih (fun x hx => h1 x (List.mem_cons_of_mem _ hx)) (fun x hx => h2 x (List.mem_cons_of_mem _ hx)) e2, show a = b from Prod.ext e3 ((inj hj hk).mpr e4)]
      exact this (fun e he => (b1 e he).imp fun _ z => z.1) (fun e he => (b2 e he).imp fun _ z => z.1) p3
    rw [exy] at hx
    have a := I.nat.mpr hx
    rw [I.nat.mpr hy] at a
    exact (Option.some.inj a).symm
end
end Bc
namespace Bc
open PySem PySem.Spec PyProof.Rows L2
section
variable {m : Nat} {P : Nat → Nat} {t : Tab}
theorem find_excOf {p f : Nat} {g : Nat → Nat} {rest : Nat} : ((excOf p g rest).find? fun e => decide (e.1 = f)) = if f < p ∧ g f ≠ rest then some (f, g f) else none := by
  unfold excOf
  have key : ∀ l : List Nat, ((l.filter fun f => decide (g f ≠ rest)).map fun f => (f, g f)).find? (fun e => decide (e.1 = f)) = if f ∈ l ∧ g f ≠ rest then some (f, g f) else none := by
    intro l
    induction l with
    | nil => rw [if_neg (fun z => by cases z.1)]; rfl
    | cons a r ih =>
      rw [List.filter_cons]
      by_cases c : g a ≠ rest
      · rw [if_pos (decide_eq_true c), List.map_cons, List.find?_cons]
        by_cases e : a = f
        · rw [decide_eq_true e, if_pos ⟨by rw [e]; exact List.mem_cons_self, by rw [← e]; exact c⟩, e]
        · rw [decide_eq_false e, ih]
          by_cases z : f ∈ r ∧ g f ≠ rest
          · rw [if_pos z, if_pos ⟨List.mem_cons_of_mem _ z.1, z.2⟩]
          · rw [if_neg z, if_neg fun y => z ⟨(List.mem_cons.mp y.1).resolve_left fun q => e q.symm, y.2⟩]
      · rw [if_neg (by rw [decide_eq_false c]; decide), ih]
        by_cases z : f ∈ r ∧ g f ≠ rest
        · rw [if_pos z, if_pos ⟨List.mem_cons_of_mem _ z.1, z.2⟩]
        · rw [if_neg z, if_neg fun y => z ⟨(List.mem_cons.mp y.1).resolve_left fun q => c (by rw [← q]; exact y.2), y.2⟩]
  rw [key]
  simp only [List.mem_range]
theorem belowF_exc {p pl f : Nat} {g : Nat → Nat} {rest : Nat} : belowF (pl, rest, excOf p g rest) f = if f < p then g f else rest := by
  unfold belowF
  show (((excOf p g rest).find? fun e => decide (e.1 = f)).map (·.2)).getD rest = _
  rw [find_excOf]
  by_cases c : f < p
  · rw [if_pos c]
    by_cases e : g f = rest
    · rw [if_neg fun z => z.2 e, e]; rfl
    · rw [if_pos ⟨c, e⟩]; rfl
  · rw [if_neg c, if_neg fun z => c z.1]; rfl
theorem rowAt_left {t : Tab} {w : Row} {r : Nat} (h : r < t.length) : rowAt (t ++ [w]) r = rowAt t r := by
  unfold rowAt
  rw [List.getD_eq_getElem?_getD, List.getD_eq_getElem?_getD, List.getElem?_append_left h]
theorem rowAt_last {t : Tab} {w : Row} : rowAt (t ++ [w]) t.length = w := by
  unfold rowAt
  rw [List.getD_eq_getElem?_getD, List.getElem?_append_right (Nat.le_refl _), Nat.sub_self]
  rfl
theorem excOf_congr {p : Nat} {g g' : Nat → Nat} {rest : Nat} (h : ∀ f, f < p → g f = g' f) : excOf p g rest = excOf p g' rest := by
  unfold excOf
  have : (List.range p).filter (fun f => decide (g f ≠ rest)) = (List.range p).filter (fun f => decide (g' f ≠ rest)) := List.filter_congr fun x hx => by rw [h x (List.mem_range.mp hx)]
  rw [this]
  exact List.map_congr_left fun x hx => by rw [h x (List.mem_range.mp (List.mem_filter.mp hx).1)]
theorem Usual.congr {p : Nat} {g g' : Nat → Nat} {f : Nat} (h : Usual p g f) (e : ∀ i, i < p → g i = g' i) : Usual p g' f := h.pat fun i j hi hj => by rw [e i hi, e j hj]
structure New30 (m : Nat) (P : Nat → Nat) (t : Tab) (pl f0 : Nat) (g : Nat → Nat) : Prop where
  plm : pl < m
  us : Usual (P pl) g f0
  ne : ∃ f, f < P pl ∧ g f ≠ g f0
  ch : ∀ f, f < P pl → g f < t.length ∧ pl < (rowAt t (g f)).1
noncomputable def newRow (P : Nat → Nat) (pl f0 : Nat) (g : Nat → Nat) : Row := (pl, g f0, excOf (P pl) g (g f0))
theorem WF.snoc (h : WF m t) {pl f0 : Nat} {g : Nat → Nat} (n : New30 m P t pl f0 g) : WF m (t ++ [newRow P pl f0 g]) := by
  have hl := h.len
  have cg : ∀ f, (if f < P pl then g f else g f0) < t.length ∧ pl < (rowAt t (if f < P pl then g f else g f0)).1 := fun f => by
    split
    · exact n.ch f (by assumption)
    · exact n.ch f0 n.us.lt
  refine ⟨by rw [List.length_append]; omega, by rw [rowAt_left (by omega)]; exact h.none, by rw [rowAt_left (by omega)]; exact h.all, fun r h2 hr => ?_, fun r h2 hr f => ?_, fun r h2 hr f => ?_⟩
  all_goals
    rw [List.length_append, List.length_singleton] at hr
    by_cases c : r < t.length
    · rw [rowAt_left c]
      first
      | exact h.pl r h2 c
      | exact h.dn r h2 c f
      | (have := h.dn r h2 c f
         rw [rowAt_left (by omega)]
         exact h.up r h2 c f)
    · have e : r = t.length := by omega
      subst e
      rw [rowAt_last]
      first
      | exact n.plm
      | (show belowF (pl, g f0, excOf (P pl) g (g f0)) f < t.length
         rw [belowF_exc]
         exact (cg f).1)
      | (show pl < (rowAt (t ++ [newRow P pl f0 g]) (belowF (pl, g f0, excOf (P pl) g (g f0)) f)).1
         rw [belowF_exc, rowAt_left (cg f).1]
         exact (cg f).2)
theorem Canon.snoc (h : Canon m P t) {pl f0 : Nat} {g : Nat → Nat} (n : New30 m P t pl f0 g) (new : ∀ r, 2 ≤ r → r < t.length → rowAt t r ≠ newRow P pl f0 g) : Canon m P (t ++ [newRow P pl f0 g]) := by
  have bg : ∀ f, f < P pl → belowF (newRow P pl f0 g) f = g f := fun f hf => by
    show belowF (pl, g f0, excOf (P pl) g (g f0)) f = _
    rw [belowF_exc, if_pos hf]
  refine ⟨h.wf.snoc n, fun r h2 hr => ?_, fun r h2 hr => ?_, fun r h2 hr => ?_, fun r s h2 hr g2 hs e => ?_⟩
  · rw [List.length_append, List.length_singleton] at hr
    by_cases c : r < t.length
    · rw [rowAt_left c]; exact h.us r h2 c
    · have e : r = t.length := by omega
      subst e
      rw [rowAt_last]
      exact ⟨f0, n.us.congr fun i hi => (bg i hi).symm, (bg f0 n.us.lt).symm⟩
  · rw [List.length_append, List.length_singleton] at hr
    by_cases c : r < t.length
    · rw [rowAt_left c]; exact h.ex r h2 c
    · have e : r = t.length := by omega
      subst e
      rw [rowAt_last]
      exact excOf_congr fun f hf => (bg f hf).symm
  · rw [List.length_append, List.length_singleton] at hr
    by_cases c : r < t.length
    · rw [rowAt_left c]; exact h.ne r h2 c
    · have e : r = t.length := by omega
      subst e
      rw [rowAt_last]
      obtain ⟨f, hf, hn⟩ := n.ne
      exact ⟨f, hf, by rw [bg f hf]; exact hn⟩
  · rw [List.length_append, List.length_singleton] at hr hs
    by_cases c : r < t.length
    · by_cases c2 : s < t.length
      · rw [rowAt_left c, rowAt_left c2] at e
        exact h.one r s h2 c g2 c2 e
      · rw [rowAt_left c, show s = t.length by omega, rowAt_last] at e
        exact absurd e (new r h2 c)
    · by_cases c2 : s < t.length
      · rw [rowAt_left c2, show r = t.length by omega, rowAt_last] at e
        exact absurd e.symm (new s g2 c2)
      · omega
theorem sem_left (h : WF m t) {w : Row} (k : WF m (t ++ [w])) {d : Nat → Nat} : ∀ r, r < t.length → sem (t ++ [w]) r d = sem t r d := fun r => by
  induction r using Nat.strongRecOn with
  | ind r ih =>
    intro hr
    by_cases c : r < 2
    · rw [sem_lt c, sem_lt c]
    · rw [sem_ge k (by omega) (by rw [List.length_append]; omega), sem_ge h (by omega) hr, rowAt_left hr]
      have := h.dn r (by omega) hr (d (rowAt t r).1)
      exact ih _ this (by omega)
theorem sem_last (h : WF m t) {pl f0 : Nat} {g : Nat → Nat} (n : New30 m P t pl f0 g) {d : Nat → Nat} (hd : Val m P d) : sem (t ++ [newRow P pl f0 g]) t.length d = sem t (g (d pl)) d := by
  have k := h.snoc n
  have hl := h.len
  have hdp := hd pl n.plm
  rw [sem_ge k (by omega) (by rw [List.length_append]; exact Nat.lt_succ_self _), rowAt_last]
  show sem (t ++ [newRow P pl f0 g]) (belowF (pl, g f0, excOf (P pl) g (g f0)) (d pl)) d = _
  rw [belowF_exc, if_pos hdp]
  exact sem_left h k _ (n.ch _ hdp).1
theorem Canon.nil (hm : True) : Canon m P [(m, 0, []), (m, 1, [])] :=
  ⟨⟨by simp, rfl, rfl, fun r h2 hr => by simp at hr; omega, fun r h2 hr => by simp at hr; omega, fun r h2 hr => by simp at hr; omega⟩, fun r h2 hr => by simp at hr; omega, fun r h2 hr => by simp at hr; omega, fun r h2 hr => by simp at hr; omega, fun r s h2 hr => by simp at hr; omega⟩
end
end Bc
namespace Bc
open PySem PySem.Spec PyProof.Rows L2
noncomputable def prodL : List Nat → List (List Nat)
  | [] => [[]]
  | p :: ps => (List.range p).flatMap fun f => (prodL ps).map (f :: ·)
noncomputable def cntL (q : List Nat → Bool) (ps : List Nat) : Nat := ((prodL ps).filter q).length
theorem cntL_cons {q : List Nat → Bool} {p : Nat} {ps : List Nat} : cntL q (p :: ps) = ((List.range p).map fun f => cntL (fun ds => q (f :: ds)) ps).sum := by
  unfold cntL
  rw [prodL, List.filter_flatMap, List.length_flatMap]
  refine congrArg List.sum (List.map_congr_left fun f _ => ?_)
  rw [List.filter_map, List.length_map]
  rfl
theorem cntL_congr {q q' : List Nat → Bool} {ps : List Nat} (h : ∀ ds ∈ prodL ps, q ds = q' ds) : cntL q ps = cntL q' ps := by
  unfold cntL
  exact congrArg List.length (List.filter_congr h)
theorem cntL_true : ∀ ps : List Nat, cntL (fun _ => true) ps = ps.prod
  | [] => rfl
  | p :: ps => by
    rw [cntL_cons, cntL_true ps, List.prod_cons]
    induction p with
    | zero => simp
    | succ p ih => rw [List.range_succ, List.map_append, List.sum_append, ih]; simp [Nat.succ_mul]
theorem sum_const (n c : Nat) : ((List.range n).map fun _ => c).sum = n * c := by
  induction n with
  | zero => simp
  | succ n ih => rw [List.range_succ, List.map_append, List.sum_append, ih]; simp [Nat.succ_mul]
/-- figures from a place on -/
noncomputable def dOf (i : Nat) (ds : List Nat) : Nat → Nat := fun j => ds.getD (j - i) 0
/-- how many rows of figures, from a place on, a row takes -/
noncomputable def cntT30 (t : Tab) (ps : List Nat) (i r : Nat) : Nat := cntL (fun ds => sem t r (dOf i ds)) (ps.drop i)
section
variable {m : Nat} {P : Nat → Nat} {t : Tab} {ps : List Nat}
theorem dOf_cons {i f : Nat} {ds : List Nat} {j : Nat} (h : i < j) : dOf i (f :: ds) j = dOf (i + 1) ds j := by
  unfold dOf
  rw [show j - i = (j - (i + 1)) + 1 by omega]
  rfl
theorem cnt_skip (h : WF m t) (hm : ps.length = m) {i r : Nat} (hr : r < t.length) (hi : i < (rowAt t r).1) (him : i < m) : cntT30 t ps i r = ps.getD i 0 * cntT30 t ps (i + 1) r := by
  unfold cntT30
  rw [List.drop_eq_getElem_cons (show i < ps.length by omega), cntL_cons, ← sum_const]
  have e : ps.getD i 0 = ps[i] := by rw [List.getD_eq_getElem?_getD, List.getElem?_eq_getElem (show i < ps.length by omega)]; rfl
  rw [e]
  refine congrArg List.sum (List.map_congr_left fun f _ => cntL_congr fun ds _ => ?_)
  exact sem_loc h r hr fun j h1 _ => dOf_cons (by omega)
theorem cnt_at (h : WF m t) (hm : ps.length = m) {r : Nat} (h2 : 2 ≤ r) (hr : r < t.length) : cntT30 t ps (rowAt t r).1 r = ((List.range (ps.getD (rowAt t r).1 0)).map fun f => cntT30 t ps ((rowAt t r).1 + 1) (belowF (rowAt t r) f)).sum := by
  have him := h.pl r h2 hr
  unfold cntT30
  have e : ps.getD (rowAt t r).1 0 = ps[(rowAt t r).1]'(by omega) := by rw [List.getD_eq_getElem?_getD, List.getElem?_eq_getElem (show (rowAt t r).1 < ps.length by omega)]; rfl
  rw [List.drop_eq_getElem_cons (show (rowAt t r).1 < ps.length by omega), cntL_cons, e]
  refine congrArg List.sum (List.map_congr_left fun f _ => cntL_congr fun ds _ => ?_)
  rw [sem_ge h h2 hr]
  have e0 : dOf (rowAt t r).1 (f :: ds) (rowAt t r).1 = f := by unfold dOf; rw [Nat.sub_self]; rfl
  rw [e0]
  have hb := h.dn r h2 hr f
  have hu := h.up r h2 hr f
  exact sem_loc h _ (by omega) fun j h1 _ => dOf_cons (by omega)
/-- the product of the primes from a place to another -/
noncomputable def spr (ps : List Nat) (a b : Nat) : Nat := ((ps.drop a).take (b - a)).prod
theorem cnt_spread (h : WF m t) (hm : ps.length = m) {r : Nat} (hr : r < t.length) (hp : (rowAt t r).1 ≤ m) : ∀ k i, i + k = (rowAt t r).1 → cntT30 t ps i r = spr ps i (rowAt t r).1 * cntT30 t ps (rowAt t r).1 r
  | 0, i, e => by
    rw [Nat.add_zero] at e
    rw [← e]
    unfold spr
    rw [Nat.sub_self, List.take_zero, List.prod_nil, Nat.one_mul]
  | k + 1, i, e => by
    rw [cnt_skip h hm hr (by omega) (by omega), cnt_spread h hm hr hp k (i + 1) (by omega), ← Nat.mul_assoc]
    refine congrArg (· * _) ?_
    unfold spr
    rw [List.drop_eq_getElem_cons (show i < ps.length by omega), show (rowAt t r).1 - i = ((rowAt t r).1 - (i + 1)) + 1 by omega, List.take_succ_cons, List.prod_cons]
    rw [List.getD_eq_getElem?_getD, List.getElem?_eq_getElem (show i < ps.length by omega)]
    rfl
/-- what size_of gathers for a row -/
noncomputable def siz (t : Tab) (ps : List Nat) (r : Nat) : Nat := cntT30 t ps (rowAt t r).1 r
theorem siz_low (h : WF m t) (hm : ps.length = m) {r : Nat} (c : r < 2) : siz t ps r = r := by
  unfold siz cntT30
  rw [low_pl h c, List.drop_eq_nil_of_le (by omega)]
  unfold cntL
  rw [prodL, List.filter_cons, sem_lt c]
  have : r = 0 ∨ r = 1 := by omega
  rcases this with z | z
  · subst z; rfl
  · subst z; rfl
end
theorem sum_split {p : Nat} {c : Nat → Nat} {g : Nat → Nat} {rest : Nat} : ((List.range p).map fun f => c (g f)).sum = c rest * (p - (excOf p g rest).length) + ((excOf p g rest).map fun e => c e.2).sum := by
  unfold excOf
  rw [List.length_map, List.map_map]
  have key : ∀ l : List Nat, (l.map fun f => c (g f)).sum = c rest * (l.length - (l.filter fun f => decide (g f ≠ rest)).length) + ((l.filter fun f => decide (g f ≠ rest)).map ((fun e => c e.2) ∘ fun f => (f, g f))).sum := by
    intro l
    induction l with
    | nil => simp
    | cons a r ih =>
      have hle := List.length_filter_le (fun f => decide (g f ≠ rest)) r
      rw [List.map_cons, List.sum_cons, ih, List.filter_cons]
      by_cases z : g a ≠ rest
      · rw [if_pos (decide_eq_true z), List.length_cons, List.length_cons, List.map_cons, List.sum_cons, show r.length + 1 - ((r.filter fun f => decide (g f ≠ rest)).length + 1) = r.length - (r.filter fun f => decide (g f ≠ rest)).length by omega]
        show _ = _ + (c (g a) + _)
        omega
      · rw [if_neg (by rw [decide_eq_false z]; decide), List.length_cons, show r.length + 1 - (r.filter fun f => decide (g f ≠ rest)).length = (r.length - (r.filter fun f => decide (g f ≠ rest)).length) + 1 by omega, Nat.mul_succ, show g a = rest from Classical.byContradiction z]
        omega
  have := key (List.range p)
  rw [List.length_range] at this
  exact this
end Bc
namespace Bc
open PySem PySem.Spec PyProof.Rows L2
section
variable {m : Nat} {P : Nat → Nat} {t : Tab} {ps : List Nat}
/-- the sum of size_of -/
theorem siz_eq (h : Canon m P t) (hm : ps.length = m) (hP : ∀ i, i < m → ps.getD i 0 = P i) {r : Nat} (h2 : 2 ≤ r) (hr : r < t.length) :
    siz t ps r = siz t ps (rowAt t r).2.1 * spr ps ((rowAt t r).1 + 1) (rowAt t (rowAt t r).2.1).1 * (P (rowAt t r).1 - (rowAt t r).2.2.length) + ((rowAt t r).2.2.map fun e => siz t ps e.2 * spr ps ((rowAt t r).1 + 1) (rowAt t e.2).1).sum := by
  have hpl := h.wf.pl r h2 hr
  have hex := h.ex r h2 hr
  have hsp : ∀ f, cntT30 t ps ((rowAt t r).1 + 1) (belowF (rowAt t r) f) = siz t ps (belowF (rowAt t r) f) * spr ps ((rowAt t r).1 + 1) (rowAt t (belowF (rowAt t r) f)).1 := fun f => by
    have hu := h.wf.up r h2 hr f
    have hb := h.wf.dn r h2 hr f
    have := cnt_spread h.wf hm (show belowF (rowAt t r) f < t.length by omega) (h.plr (by omega)) ((rowAt t (belowF (rowAt t r) f)).1 - ((rowAt t r).1 + 1)) ((rowAt t r).1 + 1) (by omega)
    rw [this, Nat.mul_comm]
    rfl
  conv => lhs; unfold siz
  rw [cnt_at h.wf hm h2 hr, hP _ hpl]
  rw [show ((List.range (P (rowAt t r).1)).map fun f => cntT30 t ps ((rowAt t r).1 + 1) (belowF (rowAt t r) f)) = (List.range (P (rowAt t r).1)).map fun f => (fun b => siz t ps b * spr ps ((rowAt t r).1 + 1) (rowAt t b).1) (belowF (rowAt t r) f) from List.map_congr_left fun f _ => hsp f]
  refine (sum_split (p := P (rowAt t r).1) (c := fun b => siz t ps b * spr ps ((rowAt t r).1 + 1) (rowAt t b).1) (g := belowF (rowAt t r)) (rest := (rowAt t r).2.1)).trans ?_
  rw [← hex]
/-- all rows of figures -/
theorem siz_all (h : Canon m P t) (hm : ps.length = m) {r : Nat} (hr : r < t.length) : cntT30 t ps 0 r = siz t ps r * spr ps 0 (rowAt t r).1 := by
  rw [cnt_spread h.wf hm hr (h.plr hr) (rowAt t r).1 0 (Nat.zero_add _), Nat.mul_comm]
  rfl
end
theorem count_sub {α : Type} [DecidableEq α] (q : α → Bool) : ∀ {l m : List α}, l.Nodup → (∀ x ∈ l, x ∈ m) → m.length ≤ l.length → (l.filter q).length = (m.filter q).length
  | [], m, _, _, h3 => by
    have : m = [] := List.eq_nil_of_length_eq_zero (by simpa using h3)
    rw [this]
  | x :: r, m, h1, h2, h3 => by
    obtain ⟨hx, hr⟩ := List.nodup_cons.mp h1
    have hm := h2 x List.mem_cons_self
    have le := List.length_erase_of_mem hm
    have hp : 0 < m.length := List.length_pos_of_mem hm
    rw [List.length_cons] at h3
    have ih := count_sub q (l := r) (m := m.erase x) hr (fun y hy => (List.mem_erase_of_ne (fun e : y = x => hx (by rw [← e]; exact hy))).2 (h2 y (List.mem_cons_of_mem _ hy))) (by omega)
    have pm := ((List.perm_cons_erase hm).filter q).length_eq
    rw [pm, List.filter_cons, List.filter_cons]
    split
    · rw [List.length_cons, List.length_cons, ih]
    · exact ih
theorem prodL_len : ∀ ps : List Nat, (prodL ps).length = ps.prod
  | ps => by
    have := cntL_true ps
    unfold cntL at this
    rw [List.filter_eq_self.mpr fun _ _ => rfl] at this
    exact this
theorem prodL_mem : ∀ {ps ds : List Nat}, ds.length = ps.length → (∀ i, i < ps.length → ds.getD i 0 < ps.getD i 0) → ds ∈ prodL ps
  | [], [], _, _ => List.mem_singleton.mpr rfl
  | [], _ :: _, h, _ => by simp at h
  | p :: ps, [], h, _ => by simp at h
  | p :: ps, d :: ds, h, k => by
    rw [prodL, List.mem_flatMap]
    refine ⟨d, List.mem_range.mpr (k 0 (by simp)), List.mem_map.mpr ⟨ds, prodL_mem (by simpa using h) fun i hi => ?_, rfl⟩⟩
    exact k (i + 1) (by rw [List.length_cons]; omega)
theorem emod_mul30 {z a c : Int} (ha : 0 < a) (hc : 0 < c) : z % (a * c) = a * (z / a % c) + z % a := by
  have e1 := Int.mul_ediv_add_emod z a
  have e2 := Int.mul_ediv_add_emod (z / a) c
  have r0 := Int.emod_nonneg z (show a ≠ 0 by omega)
  have r1 := Int.emod_lt_of_pos z ha
  have v0 := Int.emod_nonneg (z / a) (show c ≠ 0 by omega)
  have v1 := Int.emod_lt_of_pos (z / a) hc
  have e3 : z = (a * (z / a % c) + z % a) + (a * c) * (z / a / c) := by
    have : a * (z / a) = a * (c * (z / a / c)) + a * (z / a % c) := by rw [← Int.mul_add, e2]
    rw [Int.mul_assoc]
    omega
  have b0 : 0 ≤ a * (z / a % c) := Int.mul_nonneg (by omega) v0
  have b1 : a * (z / a % c) ≤ a * (c - 1) := Int.mul_le_mul_of_nonneg_left (by omega) (by omega)
  rw [Int.mul_sub, Int.mul_one] at b1
  conv => lhs; rw [e3]
  rw [Int.add_mul_emod_self_left]
  exact Int.emod_eq_of_lt (by omega) (by omega)
/-- all figures the same: the same modulo the power -/
theorem figs_mod {p : Nat} (hp : 0 < p) {x y : Int} : ∀ {k : Nat}, (∀ i, i < k → x / ((p ^ i : Nat) : Int) % (p : Int) = y / ((p ^ i : Nat) : Int) % (p : Int)) → x % ((p ^ k : Nat) : Int) = y % ((p ^ k : Nat) : Int)
  | 0, _ => by rw [Nat.pow_zero]; show x % 1 = y % 1; rw [Int.emod_one, Int.emod_one]
  | k + 1, h => by
    have ih := figs_mod hp fun i hi => h i (Nat.lt_succ_of_lt hi)
    have hk := h k (Nat.lt_succ_self k)
    have hpk : (0 : Int) < ((p ^ k : Nat) : Int) := by have := Nat.pow_pos (n := k) hp; omega
    have key : ∀ z : Int, z % ((p ^ (k + 1) : Nat) : Int) = ((p ^ k : Nat) : Int) * (z / ((p ^ k : Nat) : Int) % (p : Int)) + z % ((p ^ k : Nat) : Int) := fun z => by
      rw [Nat.pow_succ, Int.natCast_mul]
      exact emod_mul30 hpk (by omega)
    rw [key, key, ih, hk]
end Bc
namespace Bc
open PySem PySem.Spec PyProof.Rows L2
theorem dvd_of_num : ∀ {l : Int} {ps : List (Int × Int)} {x : Int}, 0 ≤ l → Asc l ps → (∀ q ∈ ps, q.1 ^ q.2.toNat ∣ x) → num ps ∣ x
  | _, [], x, _, _, _ => Int.one_dvd x
  | l, q :: r, x, h0, a, h => by
    have h1 := a.1
    have hr := dvd_of_num (l := q.1) (by omega) a.2.2.2 fun q' hq => h q' (List.mem_cons_of_mem _ hq)
    have hq := h q (List.mem_cons_self ..)
    rw [num_cons]
    have hc : Nat.Coprime (q.1.natAbs ^ q.2.toNat) (numN r) := cop_num a.2.2.1 _ (Asc.lt a.2.2.2)
    have e1 : (q.1 ^ q.2.toNat).natAbs = q.1.natAbs ^ q.2.toNat := Int.natAbs_pow _ _
    have e2 : (num r).natAbs = numN r := by rw [num_cast (l := q.1) (by omega) a.2.2.2, Int.natAbs_natCast]
    rw [← Int.natAbs_dvd_natAbs, Int.natAbs_mul, e1, e2]
    exact Nat.Coprime.mul_dvd_of_dvd_of_dvd hc (by rw [← e1]; exact Int.natAbs_dvd_natAbs.mpr hq) (by rw [← e2]; exact Int.natAbs_dvd_natAbs.mpr hr)
noncomputable def figs30 (ps : List (Int × Int)) : List (Nat × Nat) := ps.flatMap fun q => (List.range q.2.toNat).map fun i => (q.1.toNat, q.1.toNat ^ i)
noncomputable def dig (F : List (Nat × Nat)) (b : Int) (i : Nat) : Nat := match F[i]? with
  | some e => (b / (e.2 : Int) % (e.1 : Int)).toNat
  | none => 0
noncomputable def pF (F : List (Nat × Nat)) (i : Nat) : Nat := (F.map (·.1)).getD i 0
theorem figs_mem {ps : List (Int × Int)} {e : Nat × Nat} : e ∈ figs30 ps ↔ ∃ q ∈ ps, ∃ i, i < q.2.toNat ∧ e = (q.1.toNat, q.1.toNat ^ i) := by
  unfold figs30
  rw [List.mem_flatMap]
  constructor
  · rintro ⟨q, hq, h⟩
    obtain ⟨i, hi, rfl⟩ := List.mem_map.mp h
    exact ⟨q, hq, i, List.mem_range.mp hi, rfl⟩
  · rintro ⟨q, hq, i, hi, rfl⟩
    exact ⟨q, hq, List.mem_map.mpr ⟨i, List.mem_range.mpr hi, rfl⟩⟩
theorem figs_pos {ps : List (Int × Int)} (h : ∀ q ∈ ps, 0 < q.1) {e : Nat × Nat} (he : e ∈ figs30 ps) : 0 < e.1 ∧ 0 < e.2 := by
  obtain ⟨q, hq, i, _, rfl⟩ := figs_mem.mp he
  have := h q hq
  exact ⟨by show 0 < q.1.toNat; omega, Nat.pow_pos (by omega)⟩
theorem pF_at {F : List (Nat × Nat)} {i : Nat} {e : Nat × Nat} (h : F[i]? = some e) : pF F i = e.1 := by
  unfold pF
  rw [List.getD_eq_getElem?_getD, List.getElem?_map, h]
  rfl
theorem dig_at {F : List (Nat × Nat)} {i : Nat} {e : Nat × Nat} {b : Int} (h : F[i]? = some e) : dig F b i = (b / (e.2 : Int) % (e.1 : Int)).toNat := by
  unfold dig
  rw [h]
theorem dig_val {F : List (Nat × Nat)} (h : ∀ e ∈ F, 0 < e.1) {b : Int} : Val F.length (pF F) (dig F b) := fun i hi => by
  have he : F[i]? = some F[i] := List.getElem?_eq_getElem hi
  rw [pF_at he, dig_at he]
  have hp := h _ (List.getElem_mem hi)
  have := Int.emod_nonneg (b / (F[i].2 : Int)) (show ((F[i].1 : Nat) : Int) ≠ 0 by omega)
  have := Int.emod_lt_of_pos (b / (F[i].2 : Int)) (show (0 : Int) < ((F[i].1 : Nat) : Int) by omega)
  omega
theorem figs_prod : ∀ {ps : List (Int × Int)}, (∀ q ∈ ps, 0 < q.1) → ((((figs30 ps).map (·.1)).prod : Nat) : Int) = num ps
  | [], _ => rfl
  | q :: r, h => by
    have ih := figs_prod (ps := r) fun x hx => h x (List.mem_cons_of_mem _ hx)
    have hq := h q List.mem_cons_self
    have e1 : ∀ k : Nat, (((List.range k).map fun i => (q.1.toNat, q.1.toNat ^ i)).map (·.1)).prod = q.1.toNat ^ k := by
      intro k
      induction k with
      | zero => rfl
      | succ k ih => rw [List.range_succ, List.map_append, List.map_append, List.prod_append, ih, Nat.pow_succ]; simp
    have e2 : figs30 (q :: r) = ((List.range q.2.toNat).map fun i => (q.1.toNat, q.1.toNat ^ i)) ++ figs30 r := rfl
    rw [e2]
    rw [List.map_append, List.prod_append, e1, num_cons, Int.natCast_mul, ih, Int.natCast_pow, show ((q.1.toNat : Nat) : Int) = q.1 by omega]
/-- figures tell an integer below the number -/
theorem figs_inj {ps : List (Int × Int)} (ha : Asc 0 ps) {x y : Nat} (hx : (x : Int) < num ps) (hy : (y : Int) < num ps) (h : ∀ e ∈ figs30 ps, (x : Int) / (e.2 : Int) % (e.1 : Int) = (y : Int) / (e.2 : Int) % (e.1 : Int)) : x = y := by
  have hd : num ps ∣ (x : Int) - (y : Int) := dvd_of_num (by decide) ha fun q hq => by
    have hp := (ha.prs q hq).1.1
    have := figs_mod (p := q.1.toNat) (x := (x : Int)) (y := (y : Int)) (by omega) (k := q.2.toNat) fun i hi => h _ (figs_mem.mpr ⟨q, hq, i, hi, rfl⟩)
    rw [Int.natCast_pow, show ((q.1.toNat : Nat) : Int) = q.1 by omega] at this
    exact Int.dvd_of_emod_eq_zero (Int.emod_eq_emod_iff_emod_sub_eq_zero.mp this)
  obtain ⟨k, hk⟩ := hd
  have hn : 0 < num ps := by omega
  have : k = 0 := by
    rcases Int.lt_trichotomy k 0 with z | z | z
    · have : num ps * k ≤ num ps * (-1) := Int.mul_le_mul_of_nonneg_left (by omega) (by omega)
      rw [Int.mul_neg, Int.mul_one] at this
      omega
    · exact z
    · have : num ps * 1 ≤ num ps * k := Int.mul_le_mul_of_nonneg_left (by omega) (by omega)
      rw [Int.mul_one] at this
      omega
  rw [this, Int.mul_zero] at hk
  omega
/-- the members below the number, counted -/
theorem members_cnt {m : Nat} {t : Tab} {ps : List (Int × Int)} (ha : Asc 0 ps) (h : WF m t) (hm : (figs30 ps).length = m) {r : Nat} (hr : r < t.length) :
    ((List.range (num ps).toNat).filter fun x : Nat => sem t r (dig (figs30 ps) (x : Int))).length = cntT30 t ((figs30 ps).map (·.1)) 0 r := by
  have hpos : ∀ q ∈ ps, 0 < q.1 := fun q hq => by have := (ha.prs q hq).1.1; omega
  have hF : ∀ e ∈ figs30 ps, 0 < e.1 := fun e he => (figs_pos hpos he).1
  have hnum := figs_prod hpos
  unfold cntT30 cntL
  rw [List.drop_zero]
  have e1 : ((List.range (num ps).toNat).filter fun x : Nat => sem t r (dig (figs30 ps) (x : Int))).length = (((List.range (num ps).toNat).map fun x : Nat => (List.range m).map (dig (figs30 ps) (x : Int))).filter fun ds => sem t r (dOf 0 ds)).length := by
    rw [List.filter_map, List.length_map]
    refine congrArg List.length (List.filter_congr fun x _ => ?_)
    refine sem_loc h r hr fun j _ hj => ?_
    show _ = dOf 0 ((List.range m).map (dig (figs30 ps) (x : Int))) j
    unfold dOf
    rw [Nat.sub_zero, List.getD_eq_getElem?_getD, List.getElem?_map, List.getElem?_range hj]
    rfl
  rw [e1]
  refine count_sub _ ?_ (fun ds hds => ?_) (by rw [prodL_len, List.length_map, List.length_range]; omega)
  · refine List.Pairwise.map _ (fun a b (hab : a ≠ b ∧ a < (num ps).toNat ∧ b < (num ps).toNat) e => hab.1 ?_) (List.Pairwise.and_mem.mp List.nodup_range |>.imp fun {a b} hab => ⟨hab.2.2, List.mem_range.mp hab.1, List.mem_range.mp hab.2.1⟩)
    refine figs_inj ha (by omega) (by omega) fun f hf => ?_
    obtain ⟨i, hi, ef⟩ := List.getElem_of_mem hf
    have hfi : (figs30 ps)[i]? = some f := List.getElem?_eq_some_iff.mpr ⟨hi, ef⟩
    have := congrArg (fun l : List Nat => l[i]?) e
    simp only [List.getElem?_map, List.getElem?_range (show i < m by omega), Option.map_some, Option.some.injEq] at this
    rw [dig_at hfi, dig_at hfi] at this
    have hp := hF f hf
    have a1 := Int.emod_nonneg ((a : Int) / (f.2 : Int)) (show ((f.1 : Nat) : Int) ≠ 0 by omega)
    have b1 := Int.emod_nonneg ((b : Int) / (f.2 : Int)) (show ((f.1 : Nat) : Int) ≠ 0 by omega)
    omega
  · obtain ⟨x, _, rfl⟩ := List.mem_map.mp hds
    refine prodL_mem (by rw [List.length_map, List.length_range, List.length_map, hm]) fun i hi => ?_
    rw [List.length_map, hm] at hi
    have := dig_val hF (b := (x : Int)) i (by omega)
    rw [List.getD_eq_getElem?_getD, List.getElem?_map, List.getElem?_range hi]
    exact this
end Bc
namespace Bc
open PySem PySem.Spec PyProof.Rows L2
noncomputable def wN : List (Int × Int) → List Nat → Nat
  | q :: r, j :: js => q.1.natAbs ^ j * wN r js
  | _, _ => 1
noncomputable abbrev Jok (ps : List (Int × Int)) (js : List Nat) : Prop := Paired (fun (q : Int × Int) (j : Nat) => j ≤ q.2.toNat) ps js
theorem wN_dvd {ps : List (Int × Int)} {js : List Nat} (h : Jok ps js) : wN ps js ∣ numN ps := by
  induction h with
  | nil => exact Nat.dvd_refl _
  | cons r _ ih =>
    rw [numN_cons]
    exact Nat.mul_dvd_mul (Nat.pow_dvd_pow _ r) ih
theorem wN_cop {p : Int} (hp : Pr p) {k : Nat} {ps : List (Int × Int)} {js : List Nat} (h : Jok ps js) (hq : ∀ q ∈ ps, p < q.1 ∧ 0 < q.2 ∧ Pr q.1) : Nat.Coprime (p.natAbs ^ k) (wN ps js) :=
  Nat.Coprime.coprime_dvd_right (wN_dvd h) (cop_num hp k hq)
theorem wN_of : ∀ {l : Int} {ps : List (Int × Int)} {js : List Nat} {z : Nat}, Asc l ps → Jok ps js → (∀ x ∈ ps.zip js, x.1.1.natAbs ^ x.2 ∣ z) → wN ps js ∣ z
  | _, [], _, z, _, _, _ => by unfold wN; exact Nat.one_dvd z
  | _, q :: r, [], z, _, h, _ => by cases h
  | l, q :: r, j :: js, z, a, h, hd => by
    cases h with
    | cons h1 h2 =>
      exact Nat.Coprime.mul_dvd_of_dvd_of_dvd (wN_cop a.2.2.1 h2 (Asc.lt a.2.2.2)) (hd (q, j) List.mem_cons_self) (wN_of a.2.2.2 h2 fun x hx => hd x (List.mem_cons_of_mem _ hx))
theorem wN_at : ∀ {ps : List (Int × Int)} {js : List Nat} {x : (Int × Int) × Nat}, x ∈ ps.zip js → x.1.1.natAbs ^ x.2 ∣ wN ps js
  | q :: r, j :: js, x, h => by
    rcases List.mem_cons.mp h with z | z
    · rw [z]; exact Nat.dvd_mul_right _ _
    · exact Nat.dvd_trans (wN_at z) (Nat.dvd_mul_left _ _)
  | [], _, x, h => by cases h
  | _ :: _, [], x, h => by cases h
theorem Jok.at {ps : List (Int × Int)} {js : List Nat} (h : Jok ps js) {q : Int × Int} (hq : q ∈ ps) : ∃ j, (q, j) ∈ ps.zip js ∧ j ≤ q.2.toNat := by
  induction h with
  | nil => cases hq
  | cons r _ ih =>
    rcases List.mem_cons.mp hq with z | z
    · subst z; exact ⟨_, List.mem_cons_self, r⟩
    · obtain ⟨j, h1, h2⟩ := ih z
      exact ⟨j, List.mem_cons_of_mem _ h1, h2⟩
theorem Jok.le {ps : List (Int × Int)} {js : List Nat} (h : Jok ps js) {x : (Int × Int) × Nat} (hx : x ∈ ps.zip js) : x.2 ≤ x.1.2.toNat := by
  induction h with
  | nil => cases hx
  | cons r _ ih =>
    rcases List.mem_cons.mp hx with z | z
    · subst z; exact r
    · exact ih z
/-- the same modulo a power: the same figures below -/
theorem mod_fig {p : Nat} (hp : 0 < p) {x y : Int} {i : Nat} (h : x % ((p ^ (i + 1) : Nat) : Int) = y % ((p ^ (i + 1) : Nat) : Int)) : x / ((p ^ i : Nat) : Int) % (p : Int) = y / ((p ^ i : Nat) : Int) % (p : Int) := by
  have hpk : (0 : Int) < ((p ^ i : Nat) : Int) := by have := Nat.pow_pos (n := i) hp; omega
  have hd : ((p ^ i : Nat) : Int) ∣ ((p ^ (i + 1) : Nat) : Int) := by rw [Nat.pow_succ, Int.natCast_mul]; exact Int.dvd_mul_right _ _
  have hm : x % ((p ^ i : Nat) : Int) = y % ((p ^ i : Nat) : Int) := by
    rw [← Int.emod_emod_of_dvd x hd, h, Int.emod_emod_of_dvd y hd]
  rw [Nat.pow_succ, Int.natCast_mul, emod_mul30 hpk (by omega), emod_mul30 hpk (by omega), hm] at h
  have : ((p ^ i : Nat) : Int) * (x / ((p ^ i : Nat) : Int) % (p : Int)) = ((p ^ i : Nat) : Int) * (y / ((p ^ i : Nat) : Int) % (p : Int)) := by omega
  exact Int.eq_of_mul_eq_mul_left (by omega) this
/-- an integer lies in a class just where its figures are those of the class -/
theorem class_figs {ps : List (Int × Int)} {js : List Nat} (ha : Asc 0 ps) (hj : Jok ps js) {b r : Int} : (b - r) % ((wN ps js : Nat) : Int) = 0 ↔ ∀ e ∈ figs30 ps, e.2 * e.1 ∣ wN ps js → b / (e.2 : Int) % (e.1 : Int) = r / (e.2 : Int) % (e.1 : Int) := by
  have tn : ∀ q ∈ ps, q.1.toNat = q.1.natAbs ∧ 0 < q.1.toNat := fun q hq => by
    have := (ha.prs q hq).1.1
    omega
  constructor
  · intro h e he hd
    obtain ⟨q, hq, i, hi, rfl⟩ := figs_mem.mp he
    have hp := (tn q hq).2
    refine mod_fig hp ?_
    have : q.1.toNat ^ (i + 1) ∣ wN ps js := by rw [Nat.pow_succ]; exact hd
    exact Int.emod_eq_emod_iff_emod_sub_eq_zero.mpr (Int.emod_eq_zero_of_dvd (Int.dvd_trans (Int.natCast_dvd_natCast.mpr this) (Int.dvd_of_emod_eq_zero h)))
  · intro h
    refine Int.emod_eq_zero_of_dvd (Int.ofNat_dvd_left.mpr (wN_of ha hj fun x hx => ?_))
    have hq := (List.of_mem_zip hx).1
    have hp := (tn _ hq).2
    have hxj := hj.le hx
    have := figs_mod (p := x.1.1.toNat) hp (x := b) (y := r) (k := x.2) fun i hi => h _ (figs_mem.mpr ⟨x.1, hq, i, by omega, rfl⟩) (by
      show x.1.1.toNat ^ i * x.1.1.toNat ∣ wN ps js
      rw [← Nat.pow_succ, (tn _ hq).1]
      exact Nat.dvd_trans (Nat.pow_dvd_pow _ hi) (wN_at hx))
    have hz := Int.dvd_of_emod_eq_zero (Int.emod_eq_emod_iff_emod_sub_eq_zero.mp this)
    rw [← (tn _ hq).1]
    exact Int.ofNat_dvd_left.mp hz
end Bc
namespace Bc
open PySem PySem.Spec PyProof.Rows L2
noncomputable def belowAt (t : Tab) (r i f : Nat) : Nat := if (rowAt t r).1 = i then belowF (rowAt t r) f else r
theorem belowAt_lt {m : Nat} {t : Tab} (h : WF m t) {r i f : Nat} (hr : r < t.length) (hi : i < m) : belowAt t r i f < t.length := by
  unfold belowAt
  split
  · by_cases c : r < 2
    · rename_i e
      rw [low_pl h c] at e
      omega
    · have := h.dn r (by omega) hr f
      omega
  · exact hr
theorem belowAt_pl {m : Nat} {t : Tab} (h : WF m t) {r i f : Nat} (hr : r < t.length) (hi : i < m) (hp : i ≤ (rowAt t r).1) : i < (rowAt t (belowAt t r i f)).1 := by
  unfold belowAt
  split
  · rename_i e
    by_cases c : r < 2
    · rw [low_pl h c] at e
      omega
    · have := h.up r (by omega) hr f
      omega
  · omega
theorem sem_belowAt {m : Nat} {t : Tab} (h : WF m t) {r i : Nat} {d : Nat → Nat} (hr : r < t.length) (hi : i < m) : sem t r d = sem t (belowAt t r i (d i)) d := by
  unfold belowAt
  split
  · rename_i e
    by_cases c : r < 2
    · rw [low_pl h c] at e
      omega
    · rw [sem_ge h (by omega) hr, e]
  · rfl
theorem sem_konst {m : Nat} {P : Nat → Nat} {t : Tab} {g : Nat → Nat} {i : Nat} {d : Nat → Nat} (hd : Val m P d) (hi : i < m) (hc : ∀ f, f < P i → g f = g 0) : sem t (g 0) d = sem t (g (d i)) d := by
  rw [hc _ (hd i hi)]
/-- a number tells what two rows tell together -/
structure Tog (m : Nat) (P : Nat → Nat) (one two : Tab) (op : Bool → Bool → Bool) (T : Tab) (h k n : Nat) : Prop where
  lt : n < T.length
  pl : min (rowAt one h).1 (rowAt two k).1 ≤ (rowAt T n).1
  eq : ∀ d, Val m P d → sem T n d = op (sem one h d) (sem two k d)
section
variable {m : Nat} {P : Nat → Nat} {one two T : Tab} {op : Bool → Bool → Bool}
theorem Tog.left (h : WF m T) {w : Row} (k : WF m (T ++ [w])) {a b n : Nat} (g : Tog m P one two op T a b n) : Tog m P one two op (T ++ [w]) a b n := by
  refine ⟨by rw [List.length_append]; have := g.lt; omega, by rw [rowAt_left g.lt]; exact g.pl, fun d hd => by rw [sem_left h k _ g.lt]; exact g.eq d hd⟩
/-- the pairs below have numbers: what the pair's own is -/
structure Below (m : Nat) (P : Nat → Nat) (one two : Tab) (op : Bool → Bool → Bool) (T : Tab) (a b i : Nat) (g : Nat → Nat) : Prop where
  im : i < m
  pa : i ≤ (rowAt one a).1
  pb : i ≤ (rowAt two b).1
  mn : min (rowAt one a).1 (rowAt two b).1 = i
  al : a < one.length
  bl : b < two.length
  tog : ∀ f, f < P i → Tog m P one two op T (belowAt one a i f) (belowAt two b i f) (g f)
theorem Below.up (h1 : WF m one) (h2 : WF m two) {a b i : Nat} {g : Nat → Nat} (B : Below m P one two op T a b i g) {f : Nat} (hf : f < P i) : i < (rowAt T (g f)).1 := by
  have := (B.tog f hf).pl
  have u1 := belowAt_pl h1 (f := f) B.al B.im B.pa
  have u2 := belowAt_pl h2 (f := f) B.bl B.im B.pb
  omega
theorem Below.eq (h1 : WF m one) (h2 : WF m two) {a b i : Nat} {g : Nat → Nat} (B : Below m P one two op T a b i g) {d : Nat → Nat} (hd : Val m P d) : sem T (g (d i)) d = op (sem one a d) (sem two b d) := by
  rw [(B.tog _ (hd i B.im)).eq d hd, ← sem_belowAt h1 B.al B.im, ← sem_belowAt h2 B.bl B.im]
theorem Below.konst (h1 : WF m one) (h2 : WF m two) (hP : ∀ i, i < m → 0 < P i) {a b i : Nat} {g : Nat → Nat} (B : Below m P one two op T a b i g) (hc : ∀ f, f < P i → g f = g 0) : Tog m P one two op T a b (g 0) := by
  refine ⟨(B.tog 0 (hP i B.im)).lt, ?_, fun d hd => by rw [sem_konst hd B.im hc]; exact B.eq h1 h2 hd⟩
  have := B.up h1 h2 (hP i B.im)
  rw [B.mn]
  omega
theorem Below.new (h1 : WF m one) (h2 : WF m two) {a b i f0 : Nat} {g : Nat → Nat} (B : Below m P one two op T a b i g) (hu : Usual (P i) g f0) (hn : ∃ f, f < P i ∧ g f ≠ g f0) : New30 m P T i f0 g :=
  ⟨B.im, hu, hn, fun f hf => ⟨(B.tog f hf).lt, B.up h1 h2 hf⟩⟩
theorem Below.last (h1 : WF m one) (h2 : WF m two) (hT : WF m T) {a b i f0 : Nat} {g : Nat → Nat} (B : Below m P one two op T a b i g) (hu : Usual (P i) g f0) (hn : ∃ f, f < P i ∧ g f ≠ g f0) : Tog m P one two op (T ++ [newRow P i f0 g]) a b T.length := by
  have N := B.new h1 h2 hu hn
  refine ⟨by rw [List.length_append]; exact Nat.lt_succ_self _, by rw [rowAt_last, B.mn]; exact Nat.le_refl _, fun d hd => ?_⟩
  rw [sem_last hT N hd]
  exact B.eq h1 h2 hd
/-- the row is there: it tells the same -/
theorem Below.there (h1 : WF m one) (h2 : WF m two) (hT : WF m T) {a b i f0 n : Nat} {g : Nat → Nat} (B : Below m P one two op T a b i g) (n2 : 2 ≤ n) (hl : n < T.length) (e : rowAt T n = newRow P i f0 g) : Tog m P one two op T a b n := by
  refine ⟨hl, by rw [e, B.mn]; exact Nat.le_refl _, fun d hd => ?_⟩
  rw [sem_ge hT n2 hl, e]
  show sem T (belowF (i, g f0, excOf (P i) g (g f0)) (d i)) d = _
  rw [belowF_exc, if_pos (hd i B.im)]
  exact B.eq h1 h2 hd
/-- nothing and all -/
theorem Tog.low (h1 : WF m one) (h2 : WF m two) (hT : WF m T) {a b : Nat} (ha : a < 2) (hb : b < 2) {n : Nat} (hn : n < 2) (e : decide (n = 1) = op (decide (a = 1)) (decide (b = 1))) : Tog m P one two op T a b n := by
  have := hT.len
  refine ⟨by omega, by rw [low_pl h1 ha, low_pl h2 hb, low_pl hT hn, Nat.min_self]; exact Nat.le_refl _, fun d _ => ?_⟩
  rw [sem_lt hn, sem_lt ha, sem_lt hb, e]
/-- a class from a place on -/
structure Cls (m : Nat) (P : Nat → Nat) (t : Tab) (row i : Nat) (c : Nat → Nat) (on : Nat → Bool) : Prop where
  can : Canon m P t
  lt : row < t.length
  ne : row ≠ 0
  up : ∀ r, r < t.length → i ≤ (rowAt t r).1
  eq : ∀ d, Val m P d → (sem t row d = true ↔ ∀ j, i ≤ j → j < m → on j = true → d j = c j)
theorem Cls.start : Cls m P [(m, 0, []), (m, 1, [])] 1 m c on := by
  refine ⟨Canon.nil trivial, by show 1 < 2; decide, by decide, fun r hr => ?_, fun d _ => ?_⟩
  · simp only [List.length_cons, List.length_nil] at hr
    have : r = 0 ∨ r = 1 := by omega
    rcases this with z | z <;> subst z <;> exact Nat.le_refl _
  · rw [sem_lt (by decide)]
    exact ⟨fun _ j h1 h2 => absurd h1 (by omega), fun _ => rfl⟩
theorem Cls.skip {t : Tab} {row i : Nat} {c : Nat → Nat} {on : Nat → Bool} (C : Cls m P t row (i + 1) c on) (h : on i = false) : Cls m P t row i c on := by
  refine ⟨C.can, C.lt, C.ne, fun r hr => by have := C.up r hr; omega, fun d hd => ?_⟩
  rw [C.eq d hd]
  refine ⟨fun z j h1 h2 h3 => z j (Classical.byContradiction fun n => ?_) h2 h3, fun z j h1 h2 h3 => z j (by omega) h2 h3⟩
  rw [show j = i by omega, h] at h3
  cases h3
theorem Cls.step {t : Tab} {row i f0 : Nat} {c : Nat → Nat} {on : Nat → Bool} (C : Cls m P t row (i + 1) c on) (h : on i = true) (hi : i < m) (hc : c i < P i) (h2 : 2 ≤ P i) (hu : Usual (P i) (fun f => if f = c i then row else 0) f0) : Cls m P (t ++ [newRow P i f0 fun f => if f = c i then row else 0]) t.length i c on := by
  have hl := C.can.wf.len
  have N : New30 m P t i f0 (fun f => if f = c i then row else 0) := by
    refine ⟨hi, hu, ?_, fun f hf => ?_⟩
    · by_cases e : f0 = c i
      · obtain ⟨x, hx, hxn⟩ : ∃ x, x < P i ∧ x ≠ c i := by
          by_cases z : c i = 0
          · exact ⟨1, by omega, by omega⟩
          · exact ⟨0, by omega, by omega⟩
        refine ⟨x, hx, ?_⟩
        show (if x = c i then row else 0) ≠ (if f0 = c i then row else 0)
        rw [if_neg hxn, if_pos e]
        exact C.ne.symm
      · refine ⟨c i, hc, ?_⟩
        show (if c i = c i then row else 0) ≠ (if f0 = c i then row else 0)
        rw [if_pos rfl, if_neg e]
        exact C.ne
    · show (if f = c i then row else 0) < t.length ∧ i < (rowAt t (if f = c i then row else 0)).1
      split
      · exact ⟨C.lt, C.up _ C.lt⟩
      · exact ⟨by omega, C.up _ (by omega)⟩
  refine ⟨C.can.snoc N fun r g2 hr e => ?_, by rw [List.length_append]; exact Nat.lt_succ_self _, by omega, fun r hr => ?_, fun d hd => ?_⟩
  · have := C.up r hr
    rw [e] at this
    exact absurd this (by show ¬ i + 1 ≤ i; omega)
  · rw [List.length_append, List.length_singleton] at hr
    by_cases z : r < t.length
    · rw [rowAt_left z]
      have := C.up r z
      omega
    · rw [show r = t.length by omega, rowAt_last]
      exact Nat.le_refl _
  · rw [sem_last C.can.wf N hd]
    show sem t (if d i = c i then row else 0) d = true ↔ _
    by_cases z : d i = c i
    · rw [if_pos z, C.eq d hd]
      refine ⟨fun y j h1 h2 h3 => ?_, fun y j h1 h2 h3 => y j (by omega) h2 h3⟩
      by_cases e : j = i
      · rw [e]; exact z
      · exact y j (by omega) h2 h3
    · rw [if_neg z, sem_lt (by decide)]
      exact ⟨fun y => (by cases y), fun y => absurd (y i (Nat.le_refl _) hi h) z⟩
end
end Bc
namespace Bc
open PySem PySem.Spec PyProof.Rows L2
theorem nd_sub30 {α : Type} [DecidableEq α] : ∀ {l m : List α}, l.Nodup → (∀ x ∈ l, x ∈ m) → l.length ≤ m.length
  | [], _, _, _ => Nat.zero_le _
  | x :: r, m, hn, hs => by
    obtain ⟨h1, h2⟩ := List.nodup_cons.mp hn
    have hx : x ∈ m := hs x List.mem_cons_self
    have := nd_sub30 (m := m.erase x) h2 fun y hy => (List.mem_erase_of_ne (fun e : y = x => h1 (by rw [← e]; exact hy))).2 (hs y (List.mem_cons_of_mem _ hy))
    have e := List.length_erase_of_mem hx
    have hp : 0 < m.length := List.length_pos_of_mem hx
    rw [List.length_cons]
    omega
theorem filt_mem {p : Nat} {fs : List Nat} (hn : fs.Nodup) (hs : ∀ f ∈ fs, f < p) (q : Nat → Bool) : ((List.range p).filter fun f => decide (f ∈ fs) && q f).length = (fs.filter q).length := by
  have e : ((List.range p).filter fun f => decide (f ∈ fs) && q f) = ((List.range p).filter fun f => decide (f ∈ fs)).filter q := by
    rw [List.filter_filter]
    exact List.filter_congr fun x _ => Bool.and_comm _ _
  rw [e]
  refine count_sub q (List.nodup_range.filter _) (fun x hx => of_decide_eq_true (List.mem_filter.mp hx).2) (nd_sub30 hn fun x hx => List.mem_filter.mpr ⟨List.mem_range.mpr (hs x hx), decide_eq_true hx⟩)
/-- counted by the children, and by the rest -/
theorem cnt_children {p : Nat} {fs : List Nat} {ch : Nat → Nat} {rest c : Nat} (hn : fs.Nodup) (hs : ∀ f ∈ fs, f < p) : cntG p (fun f => if f ∈ fs then ch f else rest) c = (fs.filter fun f => decide (ch f = c)).length + if rest = c then p - fs.length else 0 := by
  have h1 := filt_mem hn hs fun f => decide (ch f = c)
  have h2 := filt_mem hn hs fun _ => true
  rw [List.filter_eq_self.mpr fun _ _ => rfl] at h2
  have key : ∀ l : List Nat, (l.filter fun f => decide ((if f ∈ fs then ch f else rest) = c)).length = (l.filter fun f => decide (f ∈ fs) && decide (ch f = c)).length + if rest = c then l.length - (l.filter fun f => decide (f ∈ fs) && true).length else 0 := by
    intro l
    induction l with
    | nil => simp
    | cons a r ih =>
      have hle := List.length_filter_le (fun f => decide (f ∈ fs) && true) r
      rw [List.filter_cons, List.filter_cons, List.filter_cons]
      by_cases ha : a ∈ fs
      · rw [if_pos ha, decide_eq_true ha, Bool.true_and, Bool.true_and, if_pos rfl, List.length_cons, List.length_cons, Nat.add_sub_add_right]
        by_cases e : ch a = c
        · rw [decide_eq_true e, if_pos rfl, if_pos rfl, List.length_cons, List.length_cons, ih]
          omega
        · rw [decide_eq_false e]
          simp only [Bool.false_eq_true, if_false]
          exact ih
      · rw [if_neg ha, decide_eq_false ha, Bool.false_and, Bool.false_and]
        simp only [Bool.false_eq_true, if_false, List.length_cons]
        by_cases e : rest = c
        · rw [decide_eq_true e, if_pos rfl, List.length_cons, ih, if_pos e, if_pos e]
          omega
        · rw [decide_eq_false e]
          simp only [Bool.false_eq_true, if_false]
          rw [ih, if_neg e, if_neg e]
  have := key (List.range p)
  rw [List.length_range, h1, h2] at this
  exact this
theorem usual_of {p : Nat} {g fi : Nat → Nat} {c f0 : Nat} (h0 : f0 < p) (hc : g f0 = c) (hf : ∀ i, i < f0 → g i ≠ c) (hfi : ∀ i, i < p → fi (g i) ≤ i) (hb : ∀ i, i < p → cntG p g (g i) < cntG p g c ∨ (cntG p g (g i) = cntG p g c ∧ (g i = c ∨ f0 < fi (g i)))) : Usual p g f0 := by
  refine ⟨h0, fun i hi => by rw [hc]; exact hf i hi, fun i hi => ?_⟩
  rw [hc]
  rcases hb i hi with a | ⟨a, b⟩
  · exact .inl a
  · exact .inr ⟨a, b.imp id fun z => Nat.lt_of_lt_of_le z (hfi i hi)⟩
noncomputable abbrev SC := Int × Int × Int
/-- how often an integer is told, with signs -/
noncomputable def sgS (L : List SC) (x : Int) : Int := (L.map fun e => if (x - e.1) % e.2.1 = 0 then e.2.2 else 0).sum
theorem sgS_app {L M : List SC} {x : Int} : sgS (L ++ M) x = sgS L x + sgS M x := by
  unfold sgS
  rw [List.map_append, List.sum_append]
theorem sgS_neg {L : List SC} {x : Int} : sgS (L.map fun e => (e.1, e.2.1, -e.2.2)) x = - sgS L x := by
  unfold sgS
  rw [List.map_map]
  induction L with
  | nil => rfl
  | cons e r ih =>
    rw [List.map_cons, List.map_cons, List.sum_cons, List.sum_cons, ih, Int.neg_add]
    refine congrArg (· + _) ?_
    show (if (x - e.1) % e.2.1 = 0 then -e.2.2 else 0) = -(if (x - e.1) % e.2.1 = 0 then e.2.2 else 0)
    split <;> omega
/-- the sum of count_below -/
noncomputable def cbS (L : List SC) (n : Int) : Int := (L.map fun e => if e.1 < n then e.2.2 * ((n - 1 - e.1) / e.2.1 + 1) else 0).sum
theorem cls_count {r w : Int} (h0 : 0 ≤ r) (h1 : r < w) : ∀ n : Nat, (((List.range n).filter fun x : Nat => decide (((x : Int) - r) % w = 0)).length : Int) = if r < (n : Int) then ((n : Int) - 1 - r) / w + 1 else 0
  | 0 => by
    rw [if_neg (by omega)]
    rfl
  | n + 1 => by
    have ih := cls_count h0 h1 n
    rw [List.range_succ, List.filter_append, List.length_append, Int.natCast_add, ih]
    have hw : 0 < w := by omega
    rw [List.filter_cons, List.filter_nil]
    by_cases c : ((n : Int) - r) % w = 0
    · rw [decide_eq_true c, if_pos rfl]
      by_cases z : r < (n : Int)
      · rw [if_pos z, if_pos (by omega)]
        obtain ⟨k, hk⟩ := Int.dvd_of_emod_eq_zero c
        have e1 : (((n + 1 : Nat) : Int) - 1 - r) / w = k := by
          rw [show ((n + 1 : Nat) : Int) - 1 - r = w * k by omega]
          exact Int.mul_ediv_cancel_left k (by omega)
        have e2 : ((n : Int) - 1 - r) / w = k - 1 := by
          rw [show (n : Int) - 1 - r = (w - 1) + w * (k - 1) by rw [Int.mul_sub, Int.mul_one]; omega, Int.add_mul_ediv_left _ _ (by omega), Int.ediv_eq_zero_of_lt (by omega) (by omega)]
          omega
        rw [e1, e2]
        show k - 1 + 1 + ((1 : Nat) : Int) = k + 1
        omega
      · rw [if_neg z]
        have hn : (n : Int) = r := by
          by_cases y : (n : Int) = r
          · exact y
          · exfalso
            have hlt : (n : Int) - r < 0 := by omega
            obtain ⟨k, hk⟩ := Int.dvd_of_emod_eq_zero c
            have : k < 0 := by
              refine Classical.byContradiction fun q => ?_
              have := Int.mul_nonneg (show 0 ≤ w by omega) (show 0 ≤ k by omega)
              omega
            have : w * k ≤ w * (-1) := Int.mul_le_mul_of_nonneg_left (by omega) (by omega)
            rw [Int.mul_neg, Int.mul_one] at this
            omega
        rw [if_pos (by omega), show ((n + 1 : Nat) : Int) - 1 - r = 0 by omega, Int.zero_ediv]
        rfl
    · rw [decide_eq_false c]
      simp only [Bool.false_eq_true, if_false]
      by_cases z : r < (n : Int)
      · rw [if_pos z, if_pos (by omega)]
        have e0 := Int.mul_ediv_add_emod ((n : Int) - r) w
        have m0 := Int.emod_nonneg ((n : Int) - r) (show w ≠ 0 by omega)
        have m1 := Int.emod_lt_of_pos ((n : Int) - r) hw
        have e1 : (((n + 1 : Nat) : Int) - 1 - r) / w = ((n : Int) - r) / w := by rw [show ((n + 1 : Nat) : Int) - 1 - r = (n : Int) - r by omega]
        have e2 : ((n : Int) - 1 - r) / w = ((n : Int) - r) / w := by
          rw [show (n : Int) - 1 - r = (((n : Int) - r) % w - 1) + w * (((n : Int) - r) / w) by omega, Int.add_mul_ediv_left _ _ (by omega), Int.ediv_eq_zero_of_lt (by omega) (by omega), Int.zero_add]
        rw [e1, e2]
        show _ + ((0 : Nat) : Int) = _
        omega
      · rw [if_neg z]
        have hn : (n : Int) ≠ r := fun y => c (by rw [y, Int.sub_self]; rfl)
        rw [if_neg (by omega)]
        rfl
end Bc
namespace Bc
open PySem PySem.Spec PyProof.Rows L2
noncomputable def cm30 (mem : Nat → Bool) (n : Nat) : Nat := ((List.range n).filter mem).length
theorem cm_succ {mem : Nat → Bool} {n : Nat} : cm30 mem (n + 1) = cm30 mem n + if mem n = true then 1 else 0 := by
  unfold cm30
  rw [List.range_succ, List.filter_append, List.length_append, List.filter_cons, List.filter_nil]
  split <;> rfl
theorem cm_mono {mem : Nat → Bool} {a b : Nat} (h : a ≤ b) : cm30 mem a ≤ cm30 mem b := by
  obtain ⟨k, rfl⟩ : ∃ k, b = a + k := ⟨b - a, by omega⟩
  induction k with
  | zero => exact Nat.le_refl _
  | succ k ih =>
    rw [← Nat.add_assoc, cm_succ]
    have := ih (by omega)
    omega
/-- count_below tells the members below -/
theorem cb_count {L : List SC} {mem : Nat → Bool} (hL : ∀ e ∈ L, 0 ≤ e.1 ∧ e.1 < e.2.1) (hm : ∀ x : Nat, sgS L (x : Int) = if mem x = true then 1 else 0) (n : Nat) : cbS L (n : Int) = (cm30 mem n : Nat) := by
  have sum : ∀ (L : List SC), (∀ e ∈ L, 0 ≤ e.1 ∧ e.1 < e.2.1) → cbS L (n : Int) = ((List.range n).map fun x : Nat => sgS L (x : Int)).sum := by
    intro L
    induction L with
    | nil =>
      intro _
      have z : ∀ l : List Nat, (l.map fun x : Nat => sgS [] (x : Int)).sum = 0 := by
        intro l
        induction l with
        | nil => rfl
        | cons a r ih => rw [List.map_cons, List.sum_cons, ih]; rfl
      rw [z]
      rfl
    | cons e r ih =>
      intro h
      have he := h e List.mem_cons_self
      have ih := ih fun x hx => h x (List.mem_cons_of_mem _ hx)
      have hc := cls_count he.1 he.2 n
      have split : ∀ l : List Nat, (l.map fun x : Nat => sgS (e :: r) (x : Int)).sum = e.2.2 * ((l.filter fun x : Nat => decide (((x : Int) - e.1) % e.2.1 = 0)).length : Int) + (l.map fun x : Nat => sgS r (x : Int)).sum := by
        intro l
        induction l with
        | nil => simp
        | cons a s ih =>
          rw [List.map_cons, List.sum_cons, ih, List.map_cons, List.sum_cons, List.filter_cons]
          have e1 : sgS (e :: r) (a : Int) = (if ((a : Int) - e.1) % e.2.1 = 0 then e.2.2 else 0) + sgS r (a : Int) := by
            unfold sgS
            rw [List.map_cons, List.sum_cons]
          rw [e1]
          by_cases c : ((a : Int) - e.1) % e.2.1 = 0
          · rw [if_pos c, decide_eq_true c, if_pos rfl, List.length_cons, Int.natCast_add, Int.mul_add]
            omega
          · rw [if_neg c, decide_eq_false c]
            simp only [Bool.false_eq_true, if_false]
            omega
      rw [split, ← ih, hc]
      unfold cbS
      rw [List.map_cons, List.sum_cons]
      refine congrArg (· + _) ?_
      split <;> simp
  rw [sum L hL]
  unfold cm30
  have : ∀ l : List Nat, (l.map fun x : Nat => sgS L (x : Int)).sum = ((l.filter mem).length : Int) := by
    intro l
    induction l with
    | nil => rfl
    | cons a s ih =>
      rw [List.map_cons, List.sum_cons, ih, List.filter_cons, hm a]
      split
      · rw [List.length_cons]; omega
      · omega
  exact this _
/-- where the search ends -/
theorem found_at {mem : Nat → Bool} {x k : Nat} (h1 : cm30 mem x ≤ k) (h2 : k < cm30 mem (x + 1)) : mem x = true ∧ cm30 mem x = k := by
  rw [cm_succ] at h2
  by_cases c : mem x = true
  · rw [if_pos c] at h2
    exact ⟨c, by omega⟩
  · rw [if_neg c] at h2
    omega
theorem member_nth {mem : Nat → Bool} {x : Nat} (h : mem x = true) : ∀ n, x < n → ((List.range n).filter mem)[cm30 mem x]? = some x
  | 0, hx => absurd hx (by omega)
  | n + 1, hx => by
    rw [List.range_succ, List.filter_append]
    by_cases c : x < n
    · have ih := member_nth h n c
      have := (List.getElem?_eq_some_iff.mp ih).1
      rw [List.getElem?_append_left this]
      exact ih
    · have e : x = n := by omega
      subst e
      show (List.filter mem (List.range x) ++ List.filter mem [x])[(List.filter mem (List.range x)).length]? = _
      rw [List.getElem?_append_right (Nat.le_refl _), Nat.sub_self, List.filter_cons, if_pos h]
      rfl
/-- the signs of a row by all its figures, one prime -/
theorem sgS_flat {ls : List (List SC)} {x : Int} : sgS ls.flatten x = (ls.map fun l => sgS l x).sum := by
  induction ls with
  | nil => rfl
  | cons a r ih => rw [List.flatten_cons, sgS_app, ih, List.map_cons, List.sum_cons]
/-- of all figures just one is the figure -/
theorem sum_fig {p : Nat} {c : Nat} (hc : c < p) (v : Nat → Int) : ((List.range p).map fun f => if f = c then v f else 0).sum = v c := by
  have key : ∀ n, ((List.range n).map fun f => if f = c then v f else 0).sum = if c < n then v c else 0 := by
    intro n
    induction n with
    | zero => rw [if_neg (Nat.not_lt_zero c)]; rfl
    | succ n ih =>
      rw [List.range_succ, List.map_append, List.sum_append, ih, List.map_cons, List.map_nil, List.sum_cons, List.sum_nil]
      by_cases e : n = c
      · rw [if_pos e, if_neg (by omega), if_pos (by omega), e]
        omega
      · rw [if_neg e]
        by_cases z : c < n
        · rw [if_pos z, if_pos (by omega)]
          omega
        · rw [if_neg z, if_neg (by omega)]
          omega
  rw [key, if_pos hc]
end Bc
namespace Bc
open PySem PySem.Spec PyProof.Rows L2
end Bc
namespace Bc
open PySem PySem.Spec PyProof.Rows L2
noncomputable def TupF30 (H : Hp) (t : Addr) (xs : List V) : Prop := ∃ o : Obj, o.dict = none ∧ H t = some (.frz o (.tup xs))
theorem TupF30.same {H H' : Hp} {t : Addr} {xs : List V} (h : TupF30 H t xs) (s : Same H H') : TupF30 H' t xs := by
  obtain ⟨o, d, e⟩ := h
  exact ⟨o, d, s _ _ e⟩
section
variable {X : Cx}
noncomputable def rTupF30 (K : PySem.W.Frag) : List V → Hp → VK → Prop := fun xs H Q => ∃ p ys, xs = [.ref p] ∧ SqL K H p ys ∧ ∀ l o, H l = none → o.dict = none → Q (.ref l) (upd H l (.frz o (.tup ys)))
theorem cTupF30 : CallR X (.type "tuple") (rTupF30 X.K) := by
  intro pins s σ H xs us Q I r h
  obtain ⟨p, ys, rfl, hq, q⟩ := h
  obtain ⟨u, rfl, rx⟩ := vals1 r
  cases rx
  obtain ⟨its, r', pl, hz⟩ := I.list hq
  have hlen := r'.length
  refine call_tuple_list pl.isList (fun h' kp => ?_) (by simp only [List.size_toArray] <;> omega)
  have I1 : Inv X pins σ H { s with heap := h' } := I.kept (t' := s.toks) kp
  have I2 : Inv X pins σ (upd H h'.objs.size (.frz { cls := .type "tuple", data := .seq its.toArray } (.tup ys))) { s with heap := h'.push { cls := .type "tuple", data := .seq its.toArray } } :=
    I1.laid (t' := s.toks) (fun b o e => Heap.get?_push_of_some _ e) (Nat.le_refl _) (show ObjOk X.prog X.w _ _ _ (.frz _ (.tup ys)) from ⟨Heap.get?_push_size _ rfl, hz, its, r', IsTup.new _ _⟩)
  exact ⟨.ref h'.objs.size, _, I2, rfl, q _ _ (I1.hok.fresh (Nat.le_refl _)) rfl⟩
end
theorem pairs_ofV30 {X : Cx} {pins : List (Addr × Obj)} {σ : L2.St} {H : Hp} {s : Shared} (I : Inv X pins σ H s) : ∀ {ps : List Addr} {kvs : List (Key × V)}, Paired (fun p kv => SqT X.K H p [kV kv.1, kv.2]) ps kvs →
    ∃ (prs : List (Key × Value)) (qs : List (Value × Value)), KV kvs prs ∧ prs.length = ps.length ∧ qs.length = ps.length ∧ ∀ (j : Nat) (k v : Value), qs[j]? = some (k, v) → ∃ (b : Addr) (key : Key), ps[j]? = some b ∧ IsTup s.heap b #[k, v] ∧ prs[j]? = some (key, v) ∧ (mixKind X.prog X.w).is key k = true
  | _, _, .nil => ⟨[], [], .nil, rfl, rfl, fun j k v e => by simp at e⟩
  | _, _, .cons (a := p) (b := kv) h t => by
    obtain ⟨prs, qs, r, hl, hl2, hp⟩ := pairs_ofV30 I t
    obtain ⟨its, rv, ht, _⟩ := I.tuple h
    obtain ⟨u, y, ei, ru, ry⟩ := vals2 rv
    subst ei
    refine ⟨(kv.1, y) :: prs, (u, y) :: qs, .cons ⟨rfl, ry⟩ r, by rw [List.length_cons, List.length_cons, hl], by rw [List.length_cons, List.length_cons, hl2], fun j k v e => ?_⟩
    cases j with
    | zero =>
      have e' : (u, y) = (k, v) := Option.some.inj e
      cases e'
      exact ⟨p, kv.1, rfl, ht, rfl, kV_is (P := X.prog) (w := X.w) ru⟩
    | succ j =>
      obtain ⟨b, key, e1, e2, e3, e4⟩ := hp j k v (by simpa using e)
      exact ⟨b, key, by simpa using e1, e2, by simpa using e3, e4⟩
theorem call_dictF30 {X : Cx} (hcalm : X.calm = true) : CallR X (.type "dict") (fun xs H Q => ∃ (a : Addr) (ps : List Addr) (kvs : List (Key × V)), xs = [.ref a] ∧ TupF30 H a (ps.map V.ref) ∧ Paired (fun p kv => SqT X.K H p [kV kv.1, kv.2]) ps kvs ∧
    ∀ p, H p = none → Q (.ref p) (upd H p (.dK (mergeK [] kvs)))) := by
  intro pins s σ H xs us Q I r q
  obtain ⟨a, ps, kvs, ex, ⟨o, hdn, hq⟩, hp, q⟩ := q
  subst ex
  obtain ⟨u, eu, rx⟩ := vals1 r
  subst eu
  cases rx
  obtain ⟨ho, hz, its, rv, ⟨o', ho', hc, n, hdat⟩⟩ := (show ObjOk X.prog X.w H s.heap a (.frz o (.tup (ps.map V.ref))) from I.hok _ _ hq)
  rw [ho] at ho'
  cases ho'
  have ei := refs_at rv
  subst ei
  rw [List.length_map] at hz
  obtain ⟨prs, qs, rel, hl, hl2, hpr⟩ := pairs_ofV30 I hp
  have P := PairArg.tuple (prog := X.prog) (w := X.w) a (ps.map Value.ref).toArray (fun j => ps[j]?.getD a) qs
  have ok : PlainSeq "tuple" s.heap a (ps.map Value.ref).toArray ∧ PairItems s.heap (ps.map Value.ref).toArray (fun j => ps[j]?.getD a) qs := ⟨⟨o, n, ho, hc, hdn, hdat⟩, by simp [hl2], fun j k v e => by
    obtain ⟨b, key, e1, e2, e3, e4⟩ := hpr j k v e
    exact ⟨by simp [e1], .inl (by simp only [e1, Option.getD_some]; exact e2)⟩⟩
  have hcc : PairsHave (mixKind X.prog X.w) qs.length (PairRel qs) prs := ⟨by rw [hl, hl2], fun j k v e => by
    obtain ⟨b, key, e1, e2, e3, e4⟩ := hpr j k v e
    exact ⟨key, e3, e4⟩⟩
  refine PySem.call_dict_pairs P (I.ok.hd hcalm) ok hcc (by rw [hl2]; exact hz) fun h' tk hd' k => ?_
  · have hm : (s.heap.objs.size == sysModules) = false := beq_eq_false_iff_ne.mpr (Nat.ne_of_gt I.big)
    have hlen : (mergeK [] kvs).length ≤ sizeLine := by
      refine Nat.le_trans (length_mergeK kvs []) ?_
      rw [List.length_nil, Nat.zero_add, rel.length, hl]
      exact hz
    exact ⟨.ref s.heap.objs.size, upd H s.heap.objs.size (.dK (mergeK [] kvs)), I.laid (t' := tk) (fun b o e => k b o (by simp) e) (Nat.le_refl _) (show ObjOk X.prog X.w _ _ _ (.dK (mergeK [] kvs)) from ⟨hlen, hm, merged [] prs, KV.merge rel .nil, hd'⟩), rfl, q _ (I.hok.fresh (Nat.le_refl _))⟩
theorem w_tupF30 {K : PySem.W.Frag} {H : Hp} {Q : VK} {p : Addr} {xs : List V} (h : SqL K H p xs) (q : ∀ l o, H l = none → o.dict = none → atV Q (.ref l) (upd H l (.frz o (.tup xs)))) : rTupF30 K [.ref p] H Q := ⟨p, xs, rfl, h, q⟩
end Bc
namespace Bc
open PySem PySem.Spec PyProof.Rows L2
noncomputable def ExE (H : Hp) (x : Nat × Nat) (p : Addr) : Prop := H p = some (.tup [.int (x.1 : Int), .int (x.2 : Int)])
noncomputable def RowE (H : Hp) (w : Row) (q : Addr) : Prop := ∃ (e : Addr) (es : List Addr), H q = some (.tup [.int (w.1 : Int), .int (w.2.1 : Int), .ref e]) ∧ H e = some (.tup (es.map V.ref)) ∧ Paired (ExE H) w.2.2 es
theorem RowE.same {H H' : Hp} {w : Row} {q : Addr} (h : RowE H w q) (s : Same H H') : RowE H' w q := by
  obtain ⟨e, es, h1, h2, h3⟩ := h
  exact ⟨e, es, s _ _ h1, s _ _ h2, paired_imp (fun _ _ z => s _ _ z) h3⟩
/-- a row whose exceptions are known to be a plain tuple -/
noncomputable def RowF (H : Hp) (w : Row) (q : Addr) : Prop := ∃ (e : Addr) (es : List Addr), H q = some (.tup [.int (w.1 : Int), .int (w.2.1 : Int), .ref e]) ∧ (TupF30 H e (es.map V.ref) ∨ (es = [] ∧ H e = some (.tup []))) ∧ Paired (ExE H) w.2.2 es
theorem RowF.same {H H' : Hp} {w : Row} {q : Addr} (h : RowF H w q) (s : Same H H') : RowF H' w q := by
  obtain ⟨e, es, h1, h2, h3⟩ := h
  exact ⟨e, es, s _ _ h1, h2.imp (fun z => z.same s) (fun z => ⟨z.1, s _ _ z.2⟩), paired_imp (fun _ _ z => s _ _ z) h3⟩
theorem rd_same {H H' : Hp} {a : Addr} {o : HO} (h : Rd H a o) (s : Same H H') : Rd H' a o := h.imp (s _ _) fun ⟨x, z⟩ => ⟨x, s _ _ z⟩
theorem sqR {K : PySem.W.Frag} {H : Hp} {a : Addr} {xs : List V} (h : Rd H a (.tup xs)) : SqT K H a xs := .inl h
theorem rowf_rd {H : Hp} {e : Addr} {es : List Addr} (h : TupF30 H e (es.map V.ref) ∨ (es = [] ∧ H e = some (.tup []))) : Rd H e (.tup (es.map V.ref)) := by
  rcases h with ⟨o, _, z⟩ | ⟨z1, z2⟩
  · exact .inr ⟨o, z⟩
  · rw [z1]
    exact .inl z2
/-- a tuple of rows -/
noncomputable def TabT (H : Hp) (a : Addr) (t : Tab) : Prop := ∃ ts : List Addr, H a = some (.tup (ts.map V.ref)) ∧ Paired (RowF H) t ts
/-- a list of rows -/
noncomputable def TabL (H : Hp) (a : Addr) (t : Tab) : Prop := ∃ ts : List Addr, H a = some (.lst (ts.map V.ref)) ∧ Paired (RowE H) t ts
theorem TabT.same {H H' : Hp} {a : Addr} {t : Tab} (h : TabT H a t) (s : Same H H') : TabT H' a t := by
  obtain ⟨ts, h1, h2⟩ := h
  exact ⟨ts, s _ _ h1, paired_imp (fun _ _ z => z.same s) h2⟩
theorem TabL.same {H H' : Hp} {a : Addr} {t : Tab} (h : TabL H a t) (s : Same H H') : TabL H' a t := by
  obtain ⟨ts, h1, h2⟩ := h
  exact ⟨ts, s _ _ h1, paired_imp (fun _ _ z => z.same s) h2⟩
theorem TabT.row {H : Hp} {a : Addr} {t : Tab} (h : TabT H a t) {r : Nat} (hr : r < t.length) : ∃ (ts : List Addr) (q e : Addr) (es : List Addr), H a = some (.tup (ts.map V.ref)) ∧ ts[r]? = some q ∧ H q = some (.tup [.int ((rowAt t r).1 : Int), .int ((rowAt t r).2.1 : Int), .ref e]) ∧ Rd H e (.tup (es.map V.ref)) ∧ Paired (ExE H) (rowAt t r).2.2 es := by
  obtain ⟨ts, h1, h2⟩ := h
  have hw : t[r]? = some t[r] := List.getElem?_eq_getElem hr
  obtain ⟨q, hq, e, es, g1, g2, g3⟩ := paired_getL h2 hw
  have er : rowAt t r = t[r] := rowAt_some hw
  rw [er]
  refine ⟨ts, q, e, es, h1, hq, g1, ?_, g3⟩
  rcases g2 with ⟨o, _, z⟩ | ⟨z1, z2⟩
  · exact .inr ⟨o, z⟩
  · rw [z1]
    exact .inl z2
/-- figures as a list of tuples -/
noncomputable def FigL (H : Hp) (a : Addr) (F : List (Nat × Nat)) : Prop := ∃ ts : List Addr, H a = some (.lst (ts.map V.ref)) ∧ Paired (ExE H) F ts
theorem FigL.same {H H' : Hp} {a : Addr} {F : List (Nat × Nat)} (h : FigL H a F) (s : Same H H') : FigL H' a F := by
  obtain ⟨ts, h1, h2⟩ := h
  exact ⟨ts, s _ _ h1, paired_imp (fun _ _ z => s _ _ z) h2⟩
/-- the figure by itself, or none: the rest -/
noncomputable def fgV : Option Nat → V
  | none => .non
  | some f => .int (f : Int)
noncomputable def belowO (t : Tab) (r i : Nat) : Option Nat → Nat
  | none => if (rowAt t r).1 = i then (rowAt t r).2.1 else r
  | some f => belowAt t r i f
noncomputable def spBelowAt : Sp := fun vs H Q _ => ∃ (a : Addr) (t : Tab) (r i : Nat) (f : Option Nat), vs = [.ref a, .int (r : Int), .int (i : Int), fgV f] ∧ TabT H a t ∧ r < t.length ∧ Q (.int (belowO t r i f : Nat)) H
noncomputable def spHolds : Sp := fun vs H Q _ => ∃ (fa ra : Addr) (F : List (Nat × Nat)) (t : Tab) (r : Nat) (b : Int), vs = [.ref fa, .ref ra, .int (r : Int), .int b] ∧ FigL H fa F ∧ TabT H ra t ∧ WF F.length t ∧ (∀ e ∈ F, 0 < e.1 ∧ 0 < e.2 ∧ e.1 < 2 ^ 60 ∧ e.2 < 2 ^ 60) ∧ r < t.length ∧ ∀ H', Same H H' → Q (.bl (sem t r (dig F b))) H'
/-- signed classes as a list of tuples -/
noncomputable def SgL (H : Hp) (a : Addr) (L : List SC) : Prop := ∃ ts : List Addr, H a = some (.lst (ts.map V.ref)) ∧ Paired (fun (e : SC) p => H p = some (.tup [.int e.1, .int e.2.1, .int e.2.2])) L ts
theorem SgL.same {H H' : Hp} {a : Addr} {L : List SC} (h : SgL H a L) (s : Same H H') : SgL H' a L := by
  obtain ⟨ts, h1, h2⟩ := h
  exact ⟨ts, s _ _ h1, paired_imp (fun _ _ z => s _ _ z) h2⟩
noncomputable def Sg1 (L : List SC) : Prop := ∀ e ∈ L, 0 ≤ e.1 ∧ e.1 < e.2.1 ∧ e.2.1 < 2 ^ 60 ∧ (e.2.2 = 1 ∨ e.2.2 = -1)
noncomputable def spCountB : Sp := fun vs H Q _ => ∃ (a : Addr) (L : List SC) (n : Int), vs = [.ref a, .int n] ∧ SgL H a L ∧ Sg1 L ∧ Q (.int (cbS L n)) H
noncomputable def spMemberAt : Sp := fun vs H Q _ => ∃ (a : Addr) (L : List SC) (N k : Nat) (mem : Nat → Bool), vs = [.ref a, .int (N : Int), .int (k : Int)] ∧ SgL H a L ∧ Sg1 L ∧ N < 2 ^ 60 ∧ (∀ x : Nat, sgS L (x : Int) = if mem x = true then 1 else 0) ∧ k < cm30 mem N ∧ ∀ x : Nat, x < N → mem x = true → cm30 mem x = k → Q (.int (x : Int)) H
theorem cbS_take {L : List SC} {i : Nat} {e : SC} {n : Int} (h : L[i]? = some e) : cbS (L.take (i + 1)) n = cbS (L.take i) n + if e.1 < n then e.2.2 * ((n - 1 - e.1) / e.2.1 + 1) else 0 := by
  unfold cbS
  rw [List.take_add_one, h, List.map_append, List.sum_append]
  simp
theorem inLow (r : Nat) : inV (.int (r : Int)) [.int 0, .int 1] = decide (r < 2) := by
  have h0 : eqV (.int 0) (.int (r : Int)) = decide ((0 : Int) = (r : Int)) := rfl
  have h1 : eqV (.int 1) (.int (r : Int)) = decide ((1 : Int) = (r : Int)) := rfl
  unfold inV
  rw [List.any_cons, List.any_cons, List.any_nil, h0, h1, Bool.or_false]
  by_cases c : r < 2
  · rw [decide_eq_true c]
    have : r = 0 ∨ r = 1 := by omega
    rcases this with z | z <;> subst z <;> rfl
  · rw [decide_eq_false c, decide_eq_false (by omega), decide_eq_false (by omega)]
    rfl
theorem w_notLow {K : PySem.W.Frag} {H : Hp} {p : Addr} {r : Nat} {Q : VK} (h : H p = some (.tup [.int 0, .int 1])) (q : Q (.bl (!decide (r < 2))) H) : rIn K true (.int (r : Int)) (.ref p) H Q :=
  ⟨p, _, rfl, .inr (sqt h), rfl, rfl, by rw [if_pos rfl, inLow]; exact q⟩
theorem w_isLow {K : PySem.W.Frag} {H : Hp} {p : Addr} {r : Nat} {Q : VK} (h : H p = some (.tup [.int 0, .int 1])) (q : Q (.bl (decide (r < 2))) H) : rIn K false (.int (r : Int)) (.ref p) H Q :=
  ⟨p, _, rfl, .inr (sqt h), rfl, rfl, by rw [if_neg (by decide), inLow]; exact q⟩
theorem cut_mid {α : Type} (f : α → V) (ls : List α) {a b : Nat} (ha : a ≤ b) (hb : b ≤ ls.length) : cutV (ls.map f) (some (a : Int)) (some (b : Int)) = ((ls.drop a).take (b - a)).map f := by
  have e : ∀ j : Nat, j ≤ ls.length → ∀ d, HT.sIx (ls.map f).length d (some (j : Int)) = j := fun j hj d => by
    rw [HT.sIx_nat, List.length_map, Nat.min_eq_left hj]
  unfold cutV
  rw [e a (by omega), e b hb, List.map_take, List.map_drop]
noncomputable def spSpr30 : Sp := fun vs H Q _ => ∃ (fa : Addr) (F : List (Nat × Nat)) (a b : Nat), vs = [.ref fa, .int (a : Int), .int (b : Int)] ∧ FigL H fa F ∧ a ≤ b ∧ b ≤ F.length ∧ (∀ e ∈ F, e.1 < 2 ^ 60) ∧ F.length ≤ 1000 ∧ ∀ H', Same H H' → Q (.int (spr (F.map (·.1)) a b : Nat)) H'
theorem cntL_le (q : List Nat → Bool) (ps : List Nat) : cntL q ps ≤ ps.prod := by
  rw [← prodL_len]
  exact List.length_filter_le _ _
theorem prod_drop : ∀ {ps : List Nat} (i : Nat), (∀ p ∈ ps, 0 < p) → (ps.drop i).prod ≤ ps.prod
  | [], i, _ => by rw [List.drop_nil]; exact Nat.le_refl _
  | p :: ps, 0, _ => Nat.le_refl _
  | p :: ps, i + 1, h => by
    have := prod_drop (ps := ps) i fun x hx => h x (List.mem_cons_of_mem _ hx)
    rw [List.drop_succ_cons, List.prod_cons]
    exact Nat.le_trans this (Nat.le_mul_of_pos_left _ (h p List.mem_cons_self))
theorem siz_le {t : Tab} {ps : List Nat} (h : ∀ p ∈ ps, 0 < p) (r : Nat) : siz t ps r ≤ ps.prod := Nat.le_trans (cntL_le _ _) (prod_drop _ h)
noncomputable def spSizeOf : Sp := fun vs H Q _ => ∃ (fa ra : Addr) (F : List (Nat × Nat)) (t : Tab) (r : Nat), vs = [.ref fa, .ref ra, .int (r : Int)] ∧ FigL H fa F ∧ TabT H ra t ∧ Canon F.length (pF F) t ∧ (∀ e ∈ F, 0 < e.1 ∧ e.1 < 2 ^ 60) ∧ F.length ≤ 1000 ∧ (F.map (·.1)).prod < 2 ^ 60 ∧ r < t.length ∧ t.length ≤ 50000 ∧ ∀ H', Same H H' → Q (.int (cntT30 t (F.map (·.1)) 0 r : Nat)) H'
theorem at_idx30 {xs : List V} {x : V} {i : Int} {n : Nat} (h : xs[n]? = some x) (hi : i = (n : Int)) : atI xs i = some x := by
  subst hi
  have hl := (List.getElem?_eq_some_iff.mp h).1
  unfold atI ixN
  rw [if_pos (by omega), if_pos (by omega), Int.toNat_natCast]
  exact h
noncomputable def spFirstRows : Sp := fun vs H Q _ => ∃ (fa : Addr) (F : List (Nat × Nat)), vs = [.ref fa] ∧ FigL H fa F ∧ ∀ H' a, H a = none → Same H H' → TabL H' a [(F.length, 0, []), (F.length, 1, [])] → Q (.ref a) H'
end Bc
namespace Bc
open PySem PySem.Spec PyProof.Rows L2
noncomputable abbrev NK := PySem.NestedKey
mutual
inductive KIs (H : Hp) : NK → V → Prop
  | int (i : Int) : KIs H (.num i) (.int i)
  | bl (b : Bool) : KIs H (.num (if b = true then 1 else 0)) (.bl b)
  | tup {a : Addr} {vs : List V} {ks : List NK} : H a = some (.tup vs) → KAll H ks vs → KIs H (.tup ks) (.ref a)
inductive KAll (H : Hp) : List NK → List V → Prop
  | nil : KAll H [] []
  | cons {k : NK} {v : V} {ks : List NK} {vs : List V} : KIs H k v → KAll H ks vs → KAll H (k :: ks) (v :: vs)
end
section
variable {P : Program} {w : World} {H H' : Hp} {h : Heap}
mutual
theorem KIs.nested (ok : HOk P w H h) : ∀ (k : NK) (v : V) (u : Value), KIs H k v → RelV v u → PySem.NestedIs h k u
  | .none, _, _, x, _ => by cases x
  | .num i, _, u, x, r => by
    cases x with
    | int =>
      obtain ⟨t, rfl⟩ := r
      exact .int _ _
    | bl b =>
      cases r
      exact .bool rfl
  | .text _, _, _, x, _ => by cases x
  | .tup ks, _, u, x, r => by
    cases x with
    | tup ha hk =>
      cases r
      obtain ⟨_, its, rv, o, h1, h2, n, h3⟩ := ok _ _ ha
      exact .tup h1 h2 h3 (by simpa using KAll.nested ok ks _ its hk rv)
theorem KAll.nested (ok : HOk P w H h) : ∀ (ks : List NK) (vs : List V) (us : List Value), KAll H ks vs → Vals vs us → PySem.NestedAll h ks us
  | [], _, _, x, r => by
    cases x
    cases r
    exact .nil
  | k :: ks, _, _, x, r => by
    cases x with
    | cons x1 x2 =>
      cases r with
      | cons r1 r2 => exact .cons (KIs.nested ok k _ _ x1 r1) (KAll.nested ok ks _ _ x2 r2)
end
mutual
theorem KIs.keeps (s : ∀ b ys, H b = some (.tup ys) → H' b = some (.tup ys)) : ∀ (k : NK) (v : V), KIs H k v → KIs H' k v
  | .none, _, x => by cases x
  | .num i, _, x => by
    cases x with
    | int => exact .int _
    | bl b => exact .bl b
  | .text _, _, x => by cases x
  | .tup ks, _, x => by
    cases x with
    | tup ha hk => exact .tup (s _ _ ha) (KAll.keeps s ks _ hk)
theorem KAll.keeps (s : ∀ b ys, H b = some (.tup ys) → H' b = some (.tup ys)) : ∀ (ks : List NK) (vs : List V), KAll H ks vs → KAll H' ks vs
  | [], _, x => by
    cases x
    exact .nil
  | k :: ks, _, x => by
    cases x with
    | cons x1 x2 => exact .cons (KIs.keeps s k _ x1) (KAll.keeps s ks _ x2)
end
end
noncomputable abbrev NE := NK × Addr × V
noncomputable abbrev NT : List NE → List (NK × Addr × Value) → Prop := Paired fun p q => p.1 = q.1 ∧ p.2.1 = q.2.1 ∧ RelV p.2.2 q.2.2
noncomputable def nval (kvs : List NE) (k : NK) : Option V := (kvs.find? fun x => decide (x.1 = k)).map (·.2.2)
noncomputable def nrepl (k : NK) (v : V) (x : NE) : NE := if x.1 = k then (x.1, x.2.1, v) else x
noncomputable def nput (kvs : List NE) (k : NK) (a : Addr) (v : V) : List NE := if (nval kvs k).isSome then kvs.map (nrepl k v) else kvs ++ [(k, a, v)]
theorem NT.val {kvs : List NE} {xs : List (NK × Addr × Value)} (r : NT kvs xs) (k : NK) : RelO (nval kvs k) ((PySem.atKey xs k).map (·.2)) := by
  induction r with
  | nil => exact True.intro
  | @cons p q ps qs h t ih =>
    obtain ⟨h1, _, h2⟩ := h
    by_cases e : p.1 = k
    · have e' : q.1 = k := h1.symm.trans e
      have b : PySem.atKey (q :: qs) k = some q.2 := by simp [PySem.atKey, List.find?_cons, e']
      have c : nval (p :: ps) k = some p.2.2 := by simp [nval, List.find?_cons, e]
      rw [c, b]; exact h2
    · have e' : ¬ q.1 = k := fun z => e (h1.trans z)
      have b : PySem.atKey (q :: qs) k = PySem.atKey qs k := by simp [PySem.atKey, List.find?_cons, e']
      have c : nval (p :: ps) k = nval ps k := by simp [nval, List.find?_cons, e]
      rw [c, b]; exact ih
theorem NT.repl {kvs : List NE} {xs : List (NK × Addr × Value)} (r : NT kvs xs) (k : NK) {y : V} {u : Value} (ry : RelV y u) : NT (kvs.map (nrepl k y)) (xs.map (PySem.putAt k u)) := by
  induction r with
  | nil => exact .nil
  | @cons p q ps qs h t ih =>
    rw [List.map_cons, List.map_cons]
    refine .cons ?_ ih
    obtain ⟨h1, h2, h3⟩ := h
    unfold PySem.putAt nrepl
    by_cases e : p.1 = k
    · rw [if_pos e, if_pos (h1.symm.trans e)]; exact ⟨h1, h2, ry⟩
    · rw [if_neg e, if_neg (fun z => e (h1.trans z))]; exact ⟨h1, h2, h3⟩
theorem NT.put {kvs : List NE} {xs : List (NK × Addr × Value)} (r : NT kvs xs) (k : NK) {b : Addr} {y : V} {u : Value} (ry : RelV y u) : NT (nput kvs k b y) (PySem.storedH xs k b u) := by
  have e : (nval kvs k).isSome = (PySem.atKey xs k).isSome := by rw [(r.val k).isSome_eq, Option.isSome_map]
  unfold nput PySem.storedH
  rw [e]
  by_cases q : (PySem.atKey xs k).isSome = true
  · rw [if_pos q, if_pos q]; exact r.repl k ry
  · rw [if_neg q, if_neg q]; exact Paired.snoc r ⟨rfl, rfl, ry⟩
theorem length_nput (kvs : List NE) (k : NK) (a : Addr) (v : V) : (nput kvs k a v).length ≤ kvs.length + 1 := by
  unfold nput
  split
  · rw [List.length_map]; omega
  · rw [List.length_append]; exact Nat.le_refl _
/-- the object of such a dict -/
noncomputable def ndP (P : Program) (w : World) (d : Addr) (kvs : List NE) : Heap → Prop := fun h => kvs.length ≤ sizeLine ∧ (d == sysModules) = false ∧ ∃ xs : List (NK × Addr × Value), NT kvs xs ∧
  ∃ o es ep, h.get? d = some o ∧ o.ExactDict ∧ o.data = .dict es ep ∧ es.toList = xs.map (entryOfKey (nestedKind P w)) ∧ (xs.map (·.1)).Nodup
noncomputable def ndO (P : Program) (w : World) (d : Addr) (kvs : List NE) : HO := .ext (ndP P w d kvs)
theorem ndP.stay {P : Program} {w : World} {d : Addr} {kvs : List NE} : ∀ h1 h2 : Heap, ndP P w d kvs h1 → (∀ o, h1.get? d = some o → h2.get? d = some o) → ndP P w d kvs h2 := fun h1 h2 x k => by
  obtain ⟨z, y, xs, r, o, es, ep, ho, c⟩ := x
  exact ⟨z, y, xs, r, o, es, ep, k _ ho, c⟩
noncomputable def KeysAt (H : Hp) (kvs : List NE) : Prop := ∀ x ∈ kvs, KIs H x.1 (.ref x.2.1) ∧ x.1.depth ≤ 8
theorem KeysAt.keeps {H H' : Hp} {kvs : List NE} (h : KeysAt H kvs) (s : ∀ b ys, H b = some (.tup ys) → H' b = some (.tup ys)) : KeysAt H' kvs := fun x hx => ⟨KIs.keeps s _ _ (h x hx).1, (h x hx).2⟩
/-- d is such a dict, to be read or written -/
noncomputable def ND (P : Program) (w : World) (H : Hp) (d : Addr) (kvs : List NE) : Prop := H d = some (ndO P w d kvs) ∧ KeysAt H kvs
theorem ND.same {P : Program} {w : World} {H H' : Hp} {d : Addr} {kvs : List NE} (h : ND P w H d kvs) (s : Same H H') : ND P w H' d kvs := ⟨s _ _ h.1, h.2.keeps fun _ _ e => s _ _ e⟩
section
variable {P : Program} {w : World} {H : Hp} {h : Heap} {a : Addr} {kvs : List NE}
theorem nd_of (ok : HOk P w H h) (e : ND P w H a kvs) : kvs.length ≤ sizeLine ∧ (a == sysModules) = false ∧ ∃ xs, NT kvs xs ∧ h.DictOfH (nestedKind P w) a xs := by
  obtain ⟨e, ka⟩ := e
  obtain ⟨⟨z, y, xs, r, o, es, ep, h1, h2, h3, h4, h5⟩, _, _⟩ := (show ObjOk P w H h a (ndO P w a kvs) from ok a _ e)
  refine ⟨z, y, xs, r, o, es, ep, h1, h2, h3, h4, fun x hx => ?_, h5⟩
  obtain ⟨i, hi⟩ := List.getElem?_of_mem hx
  obtain ⟨p, hp, e1, e2, _⟩ := paired_get r hi
  obtain ⟨k1, k2⟩ := ka p (List.mem_of_getElem? hp)
  rw [e1] at k1 k2
  rw [e2] at k1
  exact ⟨KIs.nested ok _ _ _ k1 rfl, k2⟩
end
section
variable {X : Cx} {pins : List (Addr × Obj)} {σ : L2.St} {H : Hp} {s : Shared} {a b : Addr} {v : V} {u r : Value} {A : Around} {E : Value → Shared → Prop} {kvs : List NE} {k : NK}
theorem nd_key (ok : HOk X.prog X.w H s.heap) (hk : KIs H k (.ref b)) (dk : k.depth ≤ 8) : (nestedKind X.prog X.w).is s.heap k b := ⟨KIs.nested ok _ _ _ hk rfl, dk⟩
theorem nd_room {A : Around} (hu : A.units + 64 < cLine) : (nestedKind X.prog X.w).room A.in1 := by
  show A.in1.units + 8 < cLine
  have : A.in1.units = A.units + 1 := rfl
  omega
/-- d[y], there -/
theorem nd_getItem {Q : Value → Shared → Prop} (hu : A.units + 64 < cLine) (I : Inv X pins σ H s) (e : ND X.prog X.w H a kvs) (hk : KIs H k (.ref b)) (dk : k.depth ≤ 8) (l : nval kvs k = some v) (h : ∀ w' s', Inv X pins σ H s' → RelV v w' → Q w' s') :
    wpAny (model X.prog X.w) A (getItem (.ref a) (.ref b)) Q E s := by
  obtain ⟨z, hd, xs, rel, dd⟩ := nd_of I.hok e
  obtain ⟨w', hw, rw'⟩ := RelO.some_of (v := v) (o := (PySem.atKey xs k).map (·.2)) (by rw [← l]; exact rel.val k)
  obtain ⟨p, hp, hp2⟩ := Option.map_eq_some_iff.mp hw
  refine wpAny_getItem_heap (nd_room hu) (nd_key I.hok hk dk) dd hp ?_
  rw [hp2]
  exact h w' _ (I.tok _) rw'
theorem nd_notIn {Q : Value → Shared → Prop} (hu : A.units + 64 < cLine) (I : Inv X pins σ H s) (e : ND X.prog X.w H a kvs) (hk : KIs H k (.ref b)) (dk : k.depth ≤ 8) (h : ∀ s', Inv X pins σ H s' → Q (.bool (!(nval kvs k).isSome)) s') :
    wpAny (model X.prog X.w) A (compareOp .NotIn (.ref b) (.ref a)) Q E s := by
  obtain ⟨z, hd, xs, rel, dd⟩ := nd_of I.hok e
  refine PyProof.Rows.wpAny_notIn_heap (nd_room hu) (nd_key I.hok hk dk) hd dd ?_
  have q := (rel.val k).isSome_eq
  rw [Option.isSome_map] at q
  rw [← q]
  exact h _ (I.tok _)
/-- d[y] = v -/
theorem nd_setItem {Q : Unit → Shared → Prop} (hu : A.units + 64 < cLine) (I : Inv X pins σ H s) (e : ND X.prog X.w H a kvs) (hk : KIs H k (.ref b)) (dk : k.depth ≤ 8) (rv : RelV v r) (hl : kvs.length < sizeLine)
    (h : ∀ s', Inv X pins σ (upd H a (ndO X.prog X.w a (nput kvs k b v))) s' → Q () s') : wpAny (model X.prog X.w) A (setItem (.ref a) (.ref b) r) Q E s := by
  obtain ⟨z, hd, xs, rel, dd⟩ := nd_of I.hok e
  have hz : xs.length ≤ sizeLine := by rw [← Paired.length rel]; exact z
  have hl2 : (nput kvs k b v).length ≤ sizeLine := by have := length_nput kvs k b v; omega
  refine wpAny_setItem_heap (hsz := hz) (nd_room hu) (nd_key I.hok hk dk) dd fun h' dd' hs => h _ ?_
  obtain ⟨q, es, ep, hq, h2, h3, h4, _, h5⟩ := dd'
  refine d_write I (by rw [e.1]; exact True.intro) hs ⟨q, hq⟩ ?_
  exact ⟨⟨hl2, hd, _, rel.put k rv, q, es, ep, hq, h2, h3, h4, h5⟩, ⟨q, hq⟩, ndP.stay⟩
end
theorem ND.put {P : Program} {w : World} {H : Hp} {a b : Addr} {kvs : List NE} {k : NK} {v : V} (e : ND P w H a kvs) (hk : KIs H k (.ref b)) (dk : k.depth ≤ 8) : ND P w (upd H a (ndO P w a (nput kvs k b v))) a (nput kvs k b v) := by
  have st : ∀ c ys, H c = some (.tup ys) → upd H a (ndO P w a (nput kvs k b v)) c = some (.tup ys) := fun c ys h => by
    rw [upd_ne (fun z => by rw [z, e.1] at h; cases h)]
    exact h
  refine ⟨upd_same, fun x hx => ?_⟩
  unfold nput at hx
  split at hx
  · obtain ⟨y, hy, rfl⟩ := List.mem_map.mp hx
    have hyk := e.2 y hy
    unfold nrepl
    split
    · exact ⟨KIs.keeps st _ _ hyk.1, hyk.2⟩
    · exact ⟨KIs.keeps st _ _ hyk.1, hyk.2⟩
  · rcases List.mem_append.mp hx with h | h
    · exact ⟨KIs.keeps st _ _ (e.2 x h).1, (e.2 x h).2⟩
    · rw [List.mem_singleton.mp h]
      exact ⟨KIs.keeps st _ _ hk, dk⟩
noncomputable def tDNewN (P : Program) (w : World) : TE := fun _ H Q => ∀ p, H p = none → atV Q (.ref p) (upd H p (ndO P w p []))
noncomputable def rNotInN (P : Program) (w : World) : R2 := fun x y H Q => ∃ a b kvs k, x = .ref b ∧ y = .ref a ∧ ND P w H a kvs ∧ KIs H k (.ref b) ∧ k.depth ≤ 8 ∧ Q (.bl (!(nval kvs k).isSome)) H
noncomputable def tDGetN (P : Program) (w : World) (td ty : TE) : TE := fun σ H Q => td σ H fun x H1 => ty σ H1 fun y H2 => ∃ a b kvs k v, x = .ref a ∧ y = .ref b ∧ ND P w H2 a kvs ∧ KIs H2 k (.ref b) ∧ k.depth ≤ 8 ∧ nval kvs k = some v ∧ Q v H2
noncomputable def rSetN (P : Program) (w : World) : TSet := fun o i v H Q => ∃ a b kvs k, o = .ref a ∧ i = .ref b ∧ ND P w H a kvs ∧ KIs H k (.ref b) ∧ k.depth ≤ 8 ∧ kvs.length < sizeLine ∧ Q (upd H a (ndO P w a (nput kvs k b v)))
section
variable {X : Cx} {pos : Pos} {o i : Expr} {td ty : TE}
theorem nd_empty {P : Program} {w : World} {H : Hp} (h : Heap) (hb : sysModules < h.objs.size) : ObjOk P w H (h.push { cls := .type "dict", data := .dict #[] }) h.objs.size (ndO P w h.objs.size []) :=
  ⟨⟨Nat.zero_le _, beq_eq_false_iff_ne.mpr (Ne.symm (Nat.ne_of_lt hb)), [], .nil, _, #[], 0, Heap.get?_push_size _ rfl, ⟨rfl, rfl, rfl⟩, rfl, rfl, List.nodup_nil⟩, ⟨_, Heap.get?_push_size _ rfl⟩, ndP.stay⟩
theorem pe_dnewN : PE X (.Dict [] [] pos) (tDNewN X.prog X.w) := ⟨fun pins s σ H Q I h =>
  wpAny_Dict_empty ⟨.ref s.heap.objs.size, _, I.laid (a := s.heap.objs.size) (o := ndO X.prog X.w s.heap.objs.size []) (t' := s.toks) (fun _ _ q => Heap.get?_push_of_some _ q) (Nat.le_refl _) (nd_empty s.heap I.big), rfl, h _ (I.hok.fresh (Nat.le_refl _))⟩⟩
theorem op_notInN (hu : X.A.units + 64 < cLine) : OpR X (compareOp .NotIn) (rNotInN X.prog X.w) := by
  intro pins s σ H x y v u Q I rx ry h
  obtain ⟨a, b, kvs, k, rfl, rfl, e, hk, dk, q⟩ := h
  cases rx
  cases ry
  exact nd_notIn hu I e hk dk fun s' I' => ⟨.bl _, H, I', rfl, q⟩
theorem set_dictN (hu : X.A.units + 64 < cLine) : PSet X (rSetN X.prog X.w) := by
  intro pins s σ H o i v ov iv u Q I ro ri rv h
  obtain ⟨a, b, kvs, k, rfl, rfl, e, hk, dk, hl, q⟩ := h
  cases (show ov = Value.ref a from ro)
  cases (show iv = Value.ref b from ri)
  exact nd_setItem hu I e hk dk rv hl fun s' I' => ⟨_, I', q⟩
theorem pe_dgetN (hu : X.A.units + 64 < cLine) (ho : PE X o td) (hi : PE X i ty) (hs : NoSl i) : PE X (.Subscript o i pos) (tDGetN X.prog X.w td ty) := by
  refine ⟨fun pins s σ H Q I h => ?_⟩
  refine subD_of PySem.F.slot_dict_getitem.lookup hs (thn (ho.run pins s σ H _ I h) fun u s1 ⟨x, H1, I1, rx, q1⟩ => thn (hi.run pins s1 σ H1 _ I1 q1) fun iv s2 ⟨y, H2, I2, ry, a, b, kvs, k, v, ex, ey, e, hk, dk, l, q2⟩ => ?_)
  subst ex
  subst ey
  obtain rfl : u = Value.ref a := rx
  obtain rfl : iv = Value.ref b := ry
  obtain ⟨_, _, xs, _, dd⟩ := nd_of I2.hok e
  exact ⟨dd.typeIs, nd_getItem hu I2 e hk dk l fun w' s3 I3 rw' => ⟨v, H2, I3, rw', q2⟩⟩
/-- y in d, y not in d: flat tuples, ints and texts as keys -/
noncomputable def rInT : R2 := fun y x H Q => ∃ a o, x = .ref a ∧ DGet H a y o ∧ Q (.bl o.isSome) H
noncomputable def rNotInT : R2 := fun y x H Q => ∃ a o, x = .ref a ∧ DGet H a y o ∧ Q (.bl (!o.isSome)) H
theorem op_inT (hu : X.A.units + 64 < cLine) : OpR X (compareOp .In) rInT := by
  intro pins s σ H y x v u Q I ry rx h
  obtain ⟨a, o, rfl, g, q⟩ := h
  cases (show u = Value.ref a from rx)
  exact d_in (by omega) I g ry fun s' I' => ⟨.bl o.isSome, H, I', rfl, q⟩
theorem op_notInT (hu : X.A.units + 64 < cLine) : OpR X (compareOp .NotIn) rNotInT := by
  intro pins s σ H y x v u Q I ry rx h
  obtain ⟨a, o, rfl, g, q⟩ := h
  cases (show u = Value.ref a from rx)
  exact d_notIn (by omega) I g ry fun s' I' => ⟨.bl (!o.isSome), H, I', rfl, q⟩
end
section
variable {P : Program} {w : World} {H : Hp} {Q : VK} {a b : Addr} {kvs : List NE} {k : NK} {v : V} {td ty : TE} {σ : L2.St} {Qs : Hp → Prop}
theorem w_notInND (e : ND P w H a kvs) (hk : KIs H k (.ref b)) (dk : k.depth ≤ 8) (q : Q (.bl (!(nval kvs k).isSome)) H) : rNotInN P w (.ref b) (.ref a) H Q := ⟨a, b, kvs, k, rfl, rfl, e, hk, dk, q⟩
theorem w_dgetND (q : td σ H fun x H1 => ty σ H1 fun y H2 => ∃ a b kvs k v, x = .ref a ∧ y = .ref b ∧ ND P w H2 a kvs ∧ KIs H2 k (.ref b) ∧ k.depth ≤ 8 ∧ nval kvs k = some v ∧ Q v H2) : tDGetN P w td ty σ H Q := q
theorem w_setND (e : ND P w H a kvs) (hk : KIs H k (.ref b)) (dk : k.depth ≤ 8) (hl : kvs.length < sizeLine) (q : Qs (upd H a (ndO P w a (nput kvs k b v)))) : rSetN P w (.ref a) (.ref b) v H Qs := ⟨a, b, kvs, k, rfl, rfl, e, hk, dk, hl, q⟩
theorem w_dget (q : td σ H fun x H1 => ty σ H1 fun y H2 => ∃ a v, x = .ref a ∧ DGet H2 a y (some v) ∧ Q v H2) : tDGet td ty σ H Q := q
theorem ND.new (np : H b = none) : ND P w (upd H b (ndO P w b [])) b [] := ⟨upd_same, fun x hx => nomatch hx⟩
end
end Bc
namespace Bc
open PySem PySem.Spec PyProof.Rows L2
/-- {k: v}: one pair, the key a flat tuple -/
noncomputable def tDisp1 (tk tv : TE) : TE := fun σ H Q => ∀ p, H p = none → tk σ (upd H p (.dT [])) fun x H1 => tv σ H1 fun y H2 => ∃ (b : Addr) (k : List Key), x = .ref b ∧ H2 p = some (.dT []) ∧ H2 b = some (.tup (k.map kV)) ∧ atV Q (.ref p) (upd H2 p (.dT [(k, y)]))
theorem pe_disp1 {X : Cx} {pos : Pos} {k v : Expr} {tk tv : TE} (hu : X.A.units + 64 < cLine) (hk : PE X k tk) (hv : PE X v tv) : PE X (.Dict [some k] [v] pos) (tDisp1 tk tv) := by
  refine ⟨fun pins s σ H Q I q => ?_⟩
  have hn := I.hok.fresh (Nat.le_refl s.heap.objs.size)
  have I1 := I.laid (a := s.heap.objs.size) (o := .dT []) (h' := s.heap.push { cls := .type "dict", data := .dict #[] }) (t' := s.toks) (fun _ _ q => Heap.get?_push_of_some _ q) (Nat.le_refl _) (dt_empty s.heap I.big)
  have hp := (pps_cons (pos := pos) hk hv (pps_nil (X := X) (pos := pos))).run pins _ σ _ (fun ps H2 => ∃ x y, ps = [(x, y)] ∧ ∃ (b : Addr) (k : List Key), x = .ref b ∧ H2 s.heap.objs.size = some (.dT []) ∧ H2 b = some (.tup (k.map kV)) ∧ atV Q (.ref s.heap.objs.size) (upd H2 s.heap.objs.size (.dT [(k, y)]))) I1 (by
    have h := q _ hn
    have mono : ∀ {t : TE} {σ : L2.St} {H : Hp} {P P' : VK}, P = P' → t σ H P → t σ H P' := fun e h => e ▸ h
    refine mono ?_ h
    funext x H1
    refine congrArg (tv σ H1) ?_
    funext y H2
    refine propext ⟨fun h => ⟨x, y, rfl, h⟩, fun h => ?_⟩
    obtain ⟨x', y', e, h⟩ := h
    cases e
    exact h)
  rw [arm_eval_Dict, zip_pairTrees [some k] [v] X.env pos rfl rfl, dictDisplay_pairs (pairTrees [some k] [v] X.env pos) (by
    intro he
    have := pairTrees_length [some k] [v] X.env pos rfl rfl
    rw [he] at this
    cases this) (by rw [pairTrees_length [some k] [v] X.env pos rfl rfl]; simp)]
  refine wpAny_bind (wpAny_standAt (wpAny_bind (wpAny_subDictH (knd := tupleKind (mixKind X.prog X.w)) (Q := fun d s' => wpAny (model X.prog X.w) X.A (pure (Value.ref d)) (EP X pins σ Q) X.xe s') (by show X.A.units < cLine; omega) (by rw [pairTrees_length [some k] [v] X.env pos rfl rfl]; simp)
    (wpAny_mono hp (fun vs s₁ h₁ => ?_) fun _ _ e => e))))
  obtain ⟨ps, H2, I2, rel, x, y, rfl, b, kk, rfl, hd, hb, q2⟩ := h₁
  cases rel with
  | @cons p0 q0 _ _ r t =>
    cases t
    obtain ⟨q1, q3⟩ := q0
    obtain ⟨r1, r2⟩ := r
    cases (show q1 = Value.ref b from r1)
    obtain ⟨z, hds, xs0, r0, dd⟩ := dt_of I2.hok hd
    cases r0
    refine ⟨[(kk, b, q3)], ⟨rfl, rfl, key_of I2.hok hb, trivial⟩, dd, fun h' tk dd' hs => wpAny_pure ?_⟩
    obtain ⟨o, es, ep, hq, h2, h3, h4, _, h5⟩ := dd'
    refine ⟨.ref s.heap.objs.size, upd H2 s.heap.objs.size (.dT [(kk, y)]), d_write I2 (by rw [hd]; exact True.intro) hs ⟨o, hq⟩ ⟨by show 1 ≤ sizeLine; decide, hds, [(kk, b, q3)], .cons ⟨rfl, ?_, r2⟩ .nil, o, es, ep, hq, h2, h3, h4, h5⟩, rfl, q2⟩
    show upd H2 s.heap.objs.size _ b = _
    rw [upd_ne (ne_of hb hd (fun z => nomatch z))]
    exact hb
end Bc
namespace Bc
open PySem PySem.Spec PyProof.Rows L2
theorem u66 {k : Nat} {A : Around} (r : Room k A) : A.units + 1 < cLine := by
  have := r.un
  omega
noncomputable def putE (es : List (Int × Int)) (p k : Int) : List (Int × Int) := if (es.any fun q => decide (q.1 = p)) = true then es.map (fun q => if q.1 = p then (q.1, k) else q) else es ++ [(p, k)]
noncomputable def look (es : List (Int × Int)) (p : Int) : Int := ((es.find? fun q => decide (q.1 = p)).map (·.2)).getD 0
noncomputable def toK (es : List (Int × Int)) : List (Key × V) := es.map fun q => ((.inl q.1 : Key), V.int q.2)
theorem any_toK (p : Int) : ∀ es : List (Int × Int), ((toK es).any fun kv => decide (kv.1 = (.inl p : Key))) = es.any fun q => decide (q.1 = p)
  | [] => rfl
  | q :: r => by
    show (decide ((.inl q.1 : Key) = .inl p) || (toK r).any _) = (decide (q.1 = p) || r.any _)
    rw [any_toK p r]
    congr 1
    exact decide_eq_decide.mpr ⟨fun h => by cases h; rfl, fun h => by rw [h]⟩
theorem putK_toK (es : List (Int × Int)) (p k : Int) : putK (toK es) (.inl p) (.int k) = toK (putE es p k) := by
  unfold putK putE
  rw [any_toK]
  split
  · unfold toK
    rw [List.map_map, List.map_map]
    refine List.map_congr_left fun q _ => ?_
    show (if (Sum.inl q.1 : Key) = .inl p then _ else _) = _
    by_cases e : q.1 = p
    · rw [if_pos (by rw [e])]
      show _ = ((.inl (if q.1 = p then (q.1, k) else q).1 : Key), V.int (if q.1 = p then (q.1, k) else q).2)
      rw [if_pos e]
    · rw [if_neg (fun z => e (by cases z; rfl))]
      show _ = ((.inl (if q.1 = p then (q.1, k) else q).1 : Key), V.int (if q.1 = p then (q.1, k) else q).2)
      rw [if_neg e]
  · unfold toK
    rw [List.map_append]
    rfl
theorem val_toK (p : Int) : ∀ es : List (Int × Int), (valV (toK es) (.inl p)).getD (.int 0) = .int (look es p) ∧ ((valV (toK es) (.inl p)).isSome = es.any fun q => decide (q.1 = p))
  | [] => ⟨rfl, rfl⟩
  | q :: r => by
    have ih := val_toK p r
    by_cases e : q.1 = p
    · rw [show toK (q :: r) = ((.inl q.1 : Key), V.int q.2) :: toK r from rfl, valV_pos (by rw [e])]
      unfold look
      rw [List.find?_cons, decide_eq_true e, List.any_cons, decide_eq_true e]
      exact ⟨rfl, rfl⟩
    · rw [show toK (q :: r) = ((.inl q.1 : Key), V.int q.2) :: toK r from rfl, valV_neg (show ¬ (Sum.inl q.1 : Key) = .inl p from fun z => e (by cases z; rfl))]
      unfold look at ih ⊢
      rw [List.find?_cons, decide_eq_false e, List.any_cons, decide_eq_false e]
      exact ih
theorem mergeK_toK : ∀ (ps es : List (Int × Int)), ((es ++ ps).map (·.1)).Nodup → mergeK (toK es) (toK ps) = toK (es ++ ps)
  | [], es, _ => by
    rw [List.append_nil]
    rfl
  | q :: r, es, h => by
    show mergeK (putK (toK es) (.inl q.1) (.int q.2)) (toK r) = _
    have hno : (es.any fun r => decide (r.1 = q.1)) = false := by
      cases hb : es.any fun r => decide (r.1 = q.1) with
      | false => rfl
      | true =>
        obtain ⟨z, hz, e⟩ := List.any_eq_true.mp hb
        have e : z.1 = q.1 := of_decide_eq_true e
        rw [List.map_append, List.nodup_append] at h
        exact absurd e (h.2.2 z.1 (List.mem_map_of_mem hz) q.1 (by simp))
    rw [putK_toK]
    unfold putE
    rw [if_neg (by rw [hno]; decide), show es ++ q :: r = es ++ [q] ++ r by rw [List.append_assoc]; rfl]
    exact mergeK_toK r (es ++ [q]) (by rwa [List.append_assoc])
theorem w_dget2 {td ty tx : TE} {σ : L2.St} {H : Hp} {Q : VK} (q : td σ H fun x H1 => ∃ a, x = .ref a ∧ IsD H1 a ∧ ty σ H1 fun y H2 => tx σ H2 fun z H3 => ∃ o, DGet H3 a y o ∧ Q (o.getD z) H3) : tDGet2 td ty tx σ H Q := q
theorem walk_es {d : Addr} {od : Obj} {es : List (Int × Int)} : Walk (Itk d od (toK es)) ((es.map (·.1)).map V.int).length (fun H => H d = some (.frz od (.dK (toK es)))) (YAt ((es.map (·.1)).map V.int)) := by
  have w := walk_keys (d := d) (o := od) (kvs := toK es)
  have e : (toK es).length = ((es.map (·.1)).map V.int).length := by simp [toK]
  rw [← e]
  refine w.mono (fun _ h => h) fun i H x H' hi _ y => ?_
  obtain ⟨rfl, k, v, h1, rfl⟩ := y
  refine ⟨rfl, ?_⟩
  unfold toK at h1
  rw [List.getElem?_map] at h1
  cases hq : es[i]? with
  | none =>
    rw [hq] at h1
    cases h1
  | some q =>
    rw [hq] at h1
    cases h1
    simp [hq, kV]
end Bc
namespace Bc
open PySem PySem.Spec PyProof.Rows L2
section
variable {J : It} {G : Hp → Prop} {te : TE} {tt : TT} {g : TG} {vs : List Nat} {σ : L2.St} {H : Hp} {D : Addr} {Qd : Hp → Prop}
/-- a comprehension over things of one's own: any target, a test, a relation -/
theorem lc30 {α : Type} (us : List α) (xs : List V) (B : α → V → Prop) (he : Paired B us xs) (p : α → Bool) (R : α → V → Hp → Prop) (mono : ∀ x y G G', Same G G' → R x y G → R x y G') (w : Walk J xs.length G (YAt xs)) (hD : H D = none) (hG : ∀ H', Same H H' → G H') (sz : us.length ≤ 100000)
    (step : ∀ (i : Nat) (u : α) (x : V) (H' : Hp), us[i]? = some u → B u x → Same H H' → (∃ acc, H' D = some (.lst acc)) → ∀ (Q0 : Hp → Prop) (Q1 : VK), (∀ H'', Same H' H'' → p u = false → Q0 H'') → (∀ (y : V) (H'' : Hp), Same H' H'' → p u = true → R u y (rm D H'') → Q1 y H'') →
      g x (wipe σ vs) H' fun σ2 H2 => wipe σ2 vs = wipe σ vs ∧ tt σ2 H2 fun b H3 => if b = true then te σ2 H3 Q1 else Q0 H3)
    (q : ∀ (H' : Hp) (ys : List V), Same H H' → H' D = some (.lst ys) → Paired (fun u y => R u y H') (us.filter p) ys → Qd H') :
    ∃ W : Nat → Nat → Hp → Prop, (∃ m, W 0 m (upd H D (.lst []))) ∧ ∀ i m H, W i m H →
      (J.stop i H ∧ Qd H) ∨ (J.go i H ∧ ∃ Nx : Hp → Prop, (∀ H', Nx H' → ∃ m', m' < m ∧ W (i + 1) m' H') ∧ ∀ x H', J.yld i H x H' → g x (wipe σ vs) H' fun σ2 H2 => wipe σ2 vs = wipe σ vs ∧ tt σ2 H2 fun b H3 =>
        if b = true then te σ2 H3 fun y H4 => ∃ acc, H4 D = some (.lst acc) ∧ acc.length < sizeLine ∧ Nx (upd H4 D (.lst (acc ++ [y]))) else Nx H3) := by
  have el := he.length
  refine lc_it w (fun i H' => ∃ ys : List V, Same H (rm D H') ∧ H' D = some (.lst ys) ∧ Paired (fun u y => R u y (rm D H')) ((us.take i).filter p) ys) ⟨[], ?_, L2.upd_same, .nil⟩ (fun i H' _ h => by obtain ⟨_, k, _⟩ := h; exact hG H' (k.trans rm_le)) ?_ ?_
  · rw [rm_updS]
    exact rm_in hD (Same.refl _)
  · rintro i x H1 H' hi ⟨ys, h1, h3, h4⟩ ⟨rfl, hx⟩
    obtain ⟨u, hu, hb⟩ := paired_get he hx
    have tk : us.take (i + 1) = us.take i ++ [u] := by
      rw [List.take_add_one, hu]
      rfl
    have e4 := h4.length
    have hle := List.length_filter_le p (us.take i)
    rw [List.length_take] at hle
    refine step i u x _ hu hb (h1.trans rm_le) ⟨_, h3⟩ _ _ ?_ ?_
    · intro H2 s2 hp
      refine ⟨ys, h1.trans s2.rm, s2 _ _ h3, ?_⟩
      rw [tk, List.filter_append, List.filter_cons, if_neg (by rw [hp]; decide), List.filter_nil, List.append_nil]
      exact paired_imp (fun _ _ z => mono _ _ _ _ s2.rm z) h4
    · intro y H2 s2 hp r
      refine ⟨ys, s2 _ _ h3, ?_, ys ++ [y], ?_, L2.upd_same, ?_⟩
      · have : (100000 : Nat) < sizeLine := by decide
        omega
      · rw [rm_updS]
        exact h1.trans s2.rm
      · rw [rm_updS, tk, List.filter_append, List.filter_cons, if_pos hp, List.filter_nil]
        exact paired_app (paired_imp (fun _ _ z => mono _ _ _ _ s2.rm z) h4) (.cons r .nil)
  · rintro H' ⟨ys, h1, h3, h4⟩
    rw [← el, List.take_length] at h4
    exact q H' ys (h1.trans rm_le) h3 (paired_imp (fun _ _ z => mono _ _ _ _ rm_le z) h4)
end
section
variable {K : PySem.W.Frag} {te : TE} {wi1 : TI} {vs vs1 : List Nat} {σ : L2.St} {H : Hp} {D a : Addr} {Qd : Hp → Prop} {j1 j2 j3 : Nat}
/-- the figures of prime powers, one prime behind the other -/
theorem lc2_figs (ts : List Addr) (ps : List (Int × Int)) (ha : H a = some (.tup (ts.map V.ref))) (hp : Paired (Tp H) ps ts) (pos : ∀ q ∈ ps, 0 < q.1 ∧ 0 < q.2 ∧ q.2 ≤ 100) (ln : ps.length ≤ 64) (hD : H D = none)
    (wp : ∀ u v, wipe (((wipe σ vs).set j1 u).set j2 v) vs = wipe σ vs) (wp2 : ∀ u v x, wipe ((wipe (((wipe σ vs).set j1 u).set j2 v) vs1).set j3 x) vs1 = wipe (((wipe σ vs).set j1 u).set j2 v) vs1)
    (src : ∀ (p k : Int) H' (R : It → Hp → Prop), 0 < k → k ≤ 100 → Same H H' → R (Itr 0 k.toNat) H' → wi1 (((wipe σ vs).set j1 (some (.int p))).set j2 (some (.int k))) H' R)
    (step : ∀ (p k : Int) (l : Nat) (H' : Hp), (p, k) ∈ ps → l < k.toNat → Same H H' → (∃ acc, H' D = some (.lst acc)) → ∀ Q' : VK, (∀ (t : Addr) H'', Same H' H'' → rm D H'' t = some (.tup [.int p, .int (p ^ l)]) → Q' (.ref t) H'') → te ((wipe (((wipe σ vs).set j1 (some (.int p))).set j2 (some (.int k))) vs1).set j3 (some (.int (l : Int)))) H' Q')
    (q : ∀ (H' : Hp) (fs : List Addr), Same H H' → H' D = some (.lst (fs.map V.ref)) → Paired (ExE H') (figs30 ps) fs → Qd H') :
    ∃ W : Nat → Nat → Hp → Prop, (∃ m, W 0 m (upd H D (.lst []))) ∧ ∀ i m H, W i m H →
      ((Itt K a).stop i H ∧ Qd H) ∨ ((Itt K a).go i H ∧ ∃ Nx : Hp → Prop, (∀ H', Nx H' → ∃ m', m' < m ∧ W (i + 1) m' H') ∧ ∀ x H', (Itt K a).yld i H x H' → gTup K 2 (gCons (gName j1) (gCons (gName j2) gNil)) x (wipe σ vs) H' fun σ2 H2 => wipe σ2 vs = wipe σ vs ∧ tYes σ2 H2 fun b H3 =>
        if b = true then wi1 σ2 H3 fun J1 H4 => ∃ W1 : Nat → Nat → Hp → Prop, (∃ m, W1 0 m H4) ∧ ∀ i k H, W1 i k H →
          (J1.stop i H ∧ Nx H) ∨ (J1.go i H ∧ ∃ Nx1 : Hp → Prop, (∀ H', Nx1 H' → ∃ k', k' < k ∧ W1 (i + 1) k' H') ∧ ∀ x H', J1.yld i H x H' → gName j3 x (wipe σ2 vs1) H' fun σ3 H5 => wipe σ3 vs1 = wipe σ2 vs1 ∧ tYes σ3 H5 fun b H6 =>
            if b = true then te σ3 H6 fun y H7 => ∃ acc, H7 D = some (.lst acc) ∧ acc.length < sizeLine ∧ Nx1 (upd H7 D (.lst (acc ++ [y]))) else Nx1 H6)
        else Nx H3) := by
  have hsz : (100000 : Nat) < sizeLine := by decide
  have hlen := hp.length
  have hb : ∀ i, i ≤ ps.length → (figs30 (ps.take i)).length ≤ 100 * i := fun i hi => by
    induction i with
    | zero => exact Nat.le_refl _
    | succ i ih =>
      rw [List.take_succ_eq_append_getElem hi]
      have h1 := ih (by omega)
      have h2 := pos _ (List.getElem_mem (show i < ps.length by omega))
      unfold figs30 at h1 ⊢
      rw [List.flatMap_append, List.length_append, List.flatMap_cons, List.flatMap_nil, List.append_nil, List.length_map, List.length_range]
      omega
  refine ⟨fun i m H' => m = ts.length - i ∧ i ≤ ts.length ∧ ∃ fs : List Addr, Same H (rm D H') ∧ H' D = some (.lst (fs.map V.ref)) ∧ Paired (ExE (rm D H')) (figs30 (ps.take i)) fs,
    ⟨ts.length, by omega, Nat.zero_le _, [], by rw [rm_updS]; exact rm_in hD (Same.refl _), L2.upd_same, .nil⟩, ?_⟩
  rintro i m H1 ⟨rfl, hi, fs, s1, h1, h2⟩
  have ha1 : SqT K H1 a (ts.map V.ref) := sqt (rm_le _ _ (s1 _ _ ha))
  by_cases hlt : i < ts.length
  · refine .inr ⟨walk_tup.goes i H1 (by rw [List.length_map]; exact hlt) ha1, fun H' => ∃ fs : List Addr, Same H (rm D H') ∧ H' D = some (.lst (fs.map V.ref)) ∧ Paired (ExE (rm D H')) (figs30 (ps.take (i + 1))) fs, fun H' h => ⟨_, by omega, rfl, hlt, h⟩, ?_⟩
    intro x H2 hy
    obtain ⟨rfl, hx⟩ := walk_tup.yields i H1 x H2 (by rw [List.length_map]; exact hlt) ha1 hy
    obtain ⟨t, ht, rfl⟩ := get_map hx
    obtain ⟨⟨p, k⟩, hu, hut⟩ := paired_get hp ht
    have hmem : (p, k) ∈ ps := List.mem_of_getElem? hu
    obtain ⟨p0, k0, k1⟩ := pos _ hmem
    have p0 : 0 < p := p0
    have k0 : 0 < k := k0
    have k1 : k ≤ 100 := k1
    have tk : figs30 (ps.take (i + 1)) = figs30 (ps.take i) ++ (List.range k.toNat).map fun l => (p.toNat, p.toNat ^ l) := by
      rw [List.take_add_one, hu]
      unfold figs30
      rw [List.flatMap_append]
      simp
    refine w_gtup (sqt (rm_le _ _ (s1 _ _ hut))) rfl ?_
    refine ⟨_, _, rfl, ?_⟩
    refine ⟨_, _, rfl, rfl, wp _ _, w_yes ?_⟩
    rw [if_pos rfl]
    refine src p k _ _ k0 k1 (s1.trans rm_le) ⟨fun l n H' => n = k.toNat - l ∧ l ≤ k.toNat ∧ ∃ fs : List Addr, Same H (rm D H') ∧ H' D = some (.lst (fs.map V.ref)) ∧ Paired (ExE (rm D H')) (figs30 (ps.take i) ++ (List.range l).map fun l => (p.toNat, p.toNat ^ l)) fs, ⟨k.toNat, by omega, Nat.zero_le _, fs, s1, h1, by rw [List.range_zero, List.map_nil, List.append_nil]; exact h2⟩, ?_⟩
    rintro l n H3 ⟨rfl, hl, fs3, s3, h3, q3⟩
    by_cases hll : l < k.toNat
    · refine .inr ⟨walk_range.goes l H3 hll trivial, fun H' => ∃ fs : List Addr, Same H (rm D H') ∧ H' D = some (.lst (fs.map V.ref)) ∧ Paired (ExE (rm D H')) (figs30 (ps.take i) ++ (List.range (l + 1)).map fun l => (p.toNat, p.toNat ^ l)) fs, fun H' h => ⟨_, by omega, rfl, hll, h⟩, fun x H4 hy => ?_⟩
      obtain ⟨rfl, hx⟩ := walk_range.yields l H3 x H4 hll trivial hy
      have hx : x = .int (l : Int) := by rw [hx]; show V.int (0 + (l : Int)) = _; rw [Int.zero_add]
      subst hx
      refine ⟨wp2 _ _ _, w_yes ?_⟩
      rw [if_pos rfl]
      refine step p k l H4 hmem hll (s3.trans rm_le) ⟨_, h3⟩ _ fun t H5 s5 h5 => ⟨_, s5 _ _ h3, ?_, fs3 ++ [t], ?_, ?_, ?_⟩
      · have e3 := q3.length
        have e4 := hb i (by omega)
        rw [List.length_append, List.length_map, List.length_range] at e3
        rw [List.length_map, ← e3]
        omega
      · rw [rm_updS]
        exact s3.trans s5.rm
      · rw [L2.upd_same, List.map_append]
        rfl
      · rw [rm_updS, List.range_succ, List.map_append, ← List.append_assoc]
        refine paired_app (paired_imp (fun _ _ z => s5.rm _ _ z) q3) (.cons ?_ .nil)
        show rm D H5 t = some (.tup [.int ((p.toNat : Nat) : Int), .int ((p.toNat ^ l : Nat) : Int)])
        rw [h5, Int.natCast_pow, Int.toNat_of_nonneg (Int.le_of_lt p0)]
    · have el : l = k.toNat := by omega
      subst el
      refine .inl ⟨walk_range.stops H3 trivial, fs3, s3, h3, ?_⟩
      rw [tk]
      exact q3
  · have ei : i = ts.length := by omega
    subst ei
    rw [← hlen, List.take_length] at h2
    exact .inl ⟨by have := walk_tup.stops H1 ha1; rwa [List.length_map] at this, q H1 fs (s1.trans rm_le) h1 (paired_imp (fun _ _ z => rm_le _ _ z) h2)⟩
end
noncomputable def spFiguresOf (c : CA) : Sp := fun vs H Q _ => ∃ (m : Addr) (ps : List (Int × Int)), vs = [.ref m] ∧ ModAt c H m ps ∧ ∀ H' a, H a = none → Same H H' → FigL H' a (figs30 ps) → Q (.ref a) H'
noncomputable def figsAt (t : Tab) (r i : Nat) : List Nat := if (rowAt t r).1 = i then (rowAt t r).2.2.map (·.1) else []
noncomputable def plMin (one two : Tab) (h k : Nat) : Nat := min (rowAt one h).1 (rowAt two k).1
noncomputable abbrev PB3 := Option Nat × Nat × Nat
noncomputable def pbOf (one two : Tab) (h k : Nat) : List PB3 := if h < 2 ∧ k < 2 then [] else
  (none :: (figsAt one h (plMin one two h k) ++ figsAt two k (plMin one two h k)).map some).map fun f => (f, belowO one h (plMin one two h k) f, belowO two k (plMin one two h k) f)
noncomputable def PbE (H : Hp) (x : PB3) (p : Addr) : Prop := H p = some (.tup [fgV x.1, .int (x.2.1 : Int), .int (x.2.2 : Int)])
noncomputable def PbL (H : Hp) (a : Addr) (L : List PB3) : Prop := ∃ ts : List Addr, H a = some (.lst (ts.map V.ref)) ∧ Paired (PbE H) L ts
theorem PbL.same {H H' : Hp} {a : Addr} {L : List PB3} (h : PbL H a L) (s : Same H H') : PbL H' a L := by
  obtain ⟨ts, h1, h2⟩ := h
  exact ⟨ts, s _ _ h1, paired_imp (fun _ _ z => s _ _ z) h2⟩
/-- rows of few exceptions -/
noncomputable def FewX (t : Tab) : Prop := ∀ r, r < t.length → (rowAt t r).2.2.length ≤ 2000
noncomputable def spFigsAt : Sp := fun vs H Q _ => ∃ (a : Addr) (t : Tab) (r i : Nat), vs = [.ref a, .int (r : Int), .int (i : Int)] ∧ TabT H a t ∧ r < t.length ∧ FewX t ∧ ∀ H' p, H p = none → Same H H' → H' p = some (.lst ((figsAt t r i).map fun f : Nat => V.int (f : Int))) → Q (.ref p) H'
noncomputable def spPairsBelow : Sp := fun vs H Q _ => ∃ (a b : Addr) (one two : Tab) (h k : Nat), vs = [.ref a, .ref b, .int (h : Int), .int (k : Int)] ∧ TabT H a one ∧ TabT H b two ∧ h < one.length ∧ k < two.length ∧ FewX one ∧ FewX two ∧ ∀ H' p, H p = none → Same H H' → PbL H' p (pbOf one two h k) → Q (.ref p) H'
theorem paired_fun {α : Type} {f : α → V} : ∀ {l : List α} {ys : List V}, Paired (fun x y => y = f x) l ys → ys = l.map f
  | [], _, h => by cases h; rfl
  | _ :: _, _, h => by
    cases h with
    | cons r t => rw [List.map_cons, ← paired_fun t, r]
theorem paired_ref {α : Type} {R : α → Addr → Prop} : ∀ {l : List α} {es : List Addr}, Paired R l es → Paired (fun x y => ∃ p, y = V.ref p ∧ R x p) l (es.map V.ref)
  | _, _, .nil => .nil
  | _, _, .cons r t => .cons ⟨_, rfl, r⟩ (paired_ref t)
theorem filter_yes {α : Type} (l : List α) : l.filter (fun _ => true) = l := List.filter_eq_self.mpr fun _ _ => rfl
theorem test_joinB {c : Bool} {A : (Bool → Hp → Prop) → Prop} {QT : Bool → Hp → Prop} {H : Hp} (b : Bool) (R : Hp → Prop) (rest : ∀ H', R H' → QT b H') (hA : c = true → ∀ Q' : Bool → Hp → Prop, (∀ H', R H' → Q' b H') → A Q') (hB : c = false → b = false ∧ R H) : if c = true then A QT else QT false H := by
  cases c with
  | true => exact iteT (hA rfl QT rest)
  | false =>
    obtain ⟨e, r⟩ := hB rfl
    refine iteF ?_
    have := rest _ r
    rw [e] at this
    exact this
theorem figsAt_len {t : Tab} (h : FewX t) {r i : Nat} (hr : r < t.length) : (figsAt t r i).length ≤ 2000 := by
  unfold figsAt
  split
  · rw [List.length_map]; exact h r hr
  · exact Nat.zero_le _
end Bc
namespace Bc
open PySem PySem.Spec PyProof.Rows L2
noncomputable def rNe30 (K : PySem.W.Frag) : R2 := fun x y H Q => ∃ p q xs, x = .ref p ∧ y = .ref q ∧ SqL K H p xs ∧ SqL K H q [] ∧ Q (.bl (!xs.isEmpty)) H
noncomputable def rEq30 (K : PySem.W.Frag) : R2 := fun x y H Q => ∃ p q xs, x = .ref p ∧ y = .ref q ∧ SqL K H p xs ∧ SqL K H q [] ∧ Q (.bl xs.isEmpty) H
section
variable {X : Cx}
theorem op_ne30 (hu : X.A.units + 64 < cLine) : OpR X (compareOp .NotEq) (rNe30 X.K) := by
  intro pins s σ H x y v u Q I rx ry h
  obtain ⟨p, q, xs, rfl, rfl, hx, hy, k⟩ := h
  cases rx
  cases ry
  cases xs with
  | nil => exact rcn_lists (F := fun _ _ => False) I hx hy .nil (by omega) (fun _ _ _ _ h => h.elim) X.prog X.w _ _ ⟨.bl false, H, I, rfl, k⟩
  | cons x xs =>
    obtain ⟨is, r1, ⟨o1, n1, e1, c1, _, d1⟩, _⟩ := I.list hx
    obtain ⟨js, r2, ⟨o2, n2, e2, c2, _, d2⟩, _⟩ := I.list hy
    have l1 := r1.length
    have l2 := r2.length
    rw [List.length_cons] at l1
    rw [List.length_nil] at l2
    have h : PySem.SeqAt.RcNeAt X.A s (.ref p) (.ref q) true := PySem.SeqAt.RcNeAt.lists_lengths ⟨o1, e1, c1, n1, d1⟩ ⟨o2, e2, c2, n2, d2⟩ (by simp only [List.size_toArray, bne_iff_ne]; omega) (by omega)
    exact h X.prog X.w _ _ ⟨.bl true, H, I, rfl, k⟩
theorem op_eq30 (hu : X.A.units + 64 < cLine) : OpR X (compareOp .Eq) (rEq30 X.K) := by
  intro pins s σ H x y v u Q I rx ry h
  obtain ⟨p, q, xs, rfl, rfl, hx, hy, k⟩ := h
  cases rx
  cases ry
  cases xs with
  | nil => exact rc_lists (F := fun _ _ => False) I hx hy .nil (by omega) (fun _ _ _ _ h _ _ => h.elim) X.prog X.w _ _ ⟨.bl true, H, I, rfl, k⟩
  | cons z zs =>
    obtain ⟨is, r1, ⟨o1, n1, e1, c1, _, d1⟩, _⟩ := I.list hx
    obtain ⟨js, r2, ⟨o2, n2, e2, c2, _, d2⟩, _⟩ := I.list hy
    have l1 := r1.length
    have l2 := r2.length
    exact PySem.SeqAt.RcAt.lists_lengths ⟨o1, e1, c1, n1, d1⟩ ⟨o2, e2, c2, n2, d2⟩ (by simp only [List.size_toArray, List.length_cons, List.length_nil] at *; simp; omega) (by omega) X.prog X.w _ _ ⟨.bl false, H, I, rfl, k⟩
end
theorem w_ne30 {K : PySem.W.Frag} {p q : Addr} {xs : List V} {H : Hp} {Q : VK} (h1 : SqL K H p xs) (h2 : SqL K H q []) (k : Q (.bl (!xs.isEmpty)) H) : rNe30 K (.ref p) (.ref q) H Q := ⟨p, q, xs, rfl, rfl, h1, h2, k⟩
theorem w_eq30 {K : PySem.W.Frag} {p q : Addr} {xs : List V} {H : Hp} {Q : VK} (h1 : SqL K H p xs) (h2 : SqL K H q []) (k : Q (.bl xs.isEmpty) H) : rEq30 K (.ref p) (.ref q) H Q := ⟨p, q, xs, rfl, rfl, h1, h2, k⟩
noncomputable def pkN (p : Nat × Nat) : List Key := [.inl (p.1 : Int), .inl (p.2 : Int)]
theorem pkN_inj {p q : Nat × Nat} (h : pkN p = pkN q) : p = q := by
  unfold pkN at h
  injection h with h1 h2
  injection h2 with h2 _
  have a := Sum.inl.inj h1
  have b := Sum.inl.inj h2
  exact Prod.ext (by omega) (by omega)
theorem pkN_val (p : Nat × Nat) : (pkN p).map kV = [V.int (p.1 : Int), V.int (p.2 : Int)] := rfl
/-- a dict of pairs -/
noncomputable def pdm (ks : List ((Nat × Nat) × V)) : List (List Key × V) := ks.map fun e => (pkN e.1, e.2)
noncomputable def pget (ks : List ((Nat × Nat) × V)) (p : Nat × Nat) : Option V := (ks.find? fun e => decide (e.1 = p)).map (·.2)
theorem pdm_val (p : Nat × Nat) : ∀ ks : List ((Nat × Nat) × V), valV (pdm ks) (pkN p) = pget ks p
  | [] => rfl
  | e :: ks => by
    have ih := pdm_val p ks
    by_cases h : e.1 = p
    · subst h
      have : pget (e :: ks) e.1 = some e.2 := by simp [pget]
      rw [this]
      exact valV_pos rfl
    · have : pget (e :: ks) p = pget ks p := by simp [pget, List.find?_cons, h]
      rw [this, ← ih]
      exact valV_neg (show ¬ pkN e.1 = pkN p from fun z => h (pkN_inj z))
theorem pdm_put {ks : List ((Nat × Nat) × V)} {p : Nat × Nat} {v : V} (h : pget ks p = none) : putK (pdm ks) (pkN p) v = pdm (ks ++ [(p, v)]) := by
  rw [putK_new _ (by rw [pdm_val, h])]
  unfold pdm
  rw [List.map_append]
  rfl
theorem pget_none {ks : List ((Nat × Nat) × V)} {p : Nat × Nat} : pget ks p = none ↔ p ∉ ks.map (·.1) := by
  unfold pget
  rw [Option.map_eq_none_iff, List.find?_eq_none]
  constructor
  · intro h hm
    obtain ⟨e, he, e1⟩ := List.mem_map.mp hm
    exact h e he (decide_eq_true e1)
  · intro h e he z
    exact h (List.mem_map.mpr ⟨e, he, of_decide_eq_true z⟩)
theorem pget_isSome {ks : List ((Nat × Nat) × V)} {p : Nat × Nat} : (pget ks p).isSome = decide (p ∈ ks.map (·.1)) := by
  by_cases h : p ∈ ks.map (·.1)
  · rw [decide_eq_true h]
    cases e : pget ks p with
    | none => exact absurd h (pget_none.mp e)
    | some v => rfl
  · rw [decide_eq_false h, pget_none.mpr h]
    rfl
theorem w_dnewT30 {σ : L2.St} {H : Hp} {Q : VK} (q : ∀ p, H p = none → atV Q (.ref p) (L2.upd H p (.dT []))) : tDNewT σ H Q := q
theorem w_set30 {o i v : V} {H : Hp} {Q : Hp → Prop} (q : ∃ a H', o = .ref a ∧ DPut H a i v H' ∧ Q H') : rSetD o i v H Q := q
theorem w_notin30 {a : Addr} {y : V} {o : Option V} {H : Hp} {Q : VK} (g : DGet H a y o) (q : Q (.bl (!o.isSome)) H) : rNotInT y (.ref a) H Q := ⟨a, o, rfl, g, q⟩
theorem w_in30 {a : Addr} {y : V} {o : Option V} {H : Hp} {Q : VK} (g : DGet H a y o) (q : Q (.bl o.isSome) H) : rInT y (.ref a) H Q := ⟨a, o, rfl, g, q⟩
inductive RchP (one two : Tab) (h0 k0 : Nat) : Nat × Nat → Prop
  | refl : RchP one two h0 k0 (h0, k0)
  | step {p : Nat × Nat} {x : PB3} : RchP one two h0 k0 p → x ∈ pbOf one two p.1 p.2 → RchP one two h0 k0 x.2
theorem Canon.below_lt {m : Nat} {P : Nat → Nat} {t : Tab} (h : Canon m P t) {r i : Nat} (hr : r < t.length) (hi : i < m) (f : Option Nat) : belowO t r i f < t.length := by
  cases f with
  | some f => exact belowAt_lt h.wf hr hi
  | none =>
    show (if (rowAt t r).1 = i then (rowAt t r).2.1 else r) < t.length
    split
    · rename_i c
      by_cases c2 : r < 2
      · have := low_pl h.wf c2
        omega
      · have := (h.exc_lt (by omega) hr).1
        omega
    · exact hr
theorem plMin_lt {m : Nat} {P : Nat → Nat} {one two : Tab} (h1 : Canon m P one) (h2 : Canon m P two) {h k : Nat} (hh : h < one.length) (hk : k < two.length) (c : ¬ (h < 2 ∧ k < 2)) : plMin one two h k < m := by
  unfold plMin
  by_cases c1 : h < 2
  · have := h2.wf.pl k (by omega) hk
    omega
  · have := h1.wf.pl h (by omega) hh
    omega
theorem pbOf_lt {m : Nat} {P : Nat → Nat} {one two : Tab} (h1 : Canon m P one) (h2 : Canon m P two) {h k : Nat} (hh : h < one.length) (hk : k < two.length) {x : PB3} (hx : x ∈ pbOf one two h k) : x.2.1 < one.length ∧ x.2.2 < two.length := by
  unfold pbOf at hx
  split at hx
  · cases hx
  · rename_i c
    obtain ⟨f, _, rfl⟩ := List.mem_map.mp hx
    have := plMin_lt h1 h2 hh hk c
    exact ⟨h1.below_lt hh this f, h2.below_lt hk this f⟩
theorem RchP.lt {m : Nat} {P : Nat → Nat} {one two : Tab} (h1 : Canon m P one) (h2 : Canon m P two) {h0 k0 : Nat} (hh : h0 < one.length) (hk : k0 < two.length) {p : Nat × Nat} (r : RchP one two h0 k0 p) : p.1 < one.length ∧ p.2 < two.length := by
  induction r with
  | refl => exact ⟨hh, hk⟩
  | step _ hx ih => exact pbOf_lt h1 h2 ih.1 ih.2 hx
/-- the pairs found, those waiting, all that were seen -/
structure MP (one two : Tab) (h0 k0 : Nat) (found wait ks : List (Nat × Nat)) : Prop where
  nd : ks.Nodup
  pm : ks.Perm (found ++ wait)
  st : (h0, k0) ∈ ks
  rc : ∀ p ∈ ks, RchP one two h0 k0 p
  cl : ∀ p ∈ found, ∀ x ∈ pbOf one two p.1 p.2, x.2 ∈ ks
/-- no more pairs than so many can be reached -/
noncomputable def RB (one two : Tab) (h0 k0 N : Nat) : Prop := ∀ l : List (Nat × Nat), l.Nodup → (∀ p ∈ l, RchP one two h0 k0 p) → l.length ≤ N
/-- just the pairs that are reached -/
structure MPd (one two : Tab) (h0 k0 : Nat) (L : List (Nat × Nat)) : Prop where
  nd : L.Nodup
  st : (h0, k0) ∈ L
  rc : ∀ p ∈ L, RchP one two h0 k0 p
  cl : ∀ p ∈ L, ∀ x ∈ pbOf one two p.1 p.2, x.2 ∈ L
theorem MP.done {one two : Tab} {h0 k0 : Nat} {found ks : List (Nat × Nat)} (M : MP one two h0 k0 found [] ks) : MPd one two h0 k0 found := by
  have pm := M.pm
  rw [List.append_nil] at pm
  exact ⟨pm.nodup_iff.mp M.nd, pm.mem_iff.mp M.st, fun p hp => M.rc p (pm.mem_iff.mpr hp), fun p hp x hx => pm.mem_iff.mp (M.cl p hp x hx)⟩
/-- one pair taken: its pairs below are gone through -/
structure MPi (one two : Tab) (h0 k0 : Nat) (found : List (Nat × Nat)) (p : Nat × Nat) (j : Nat) (wait ks : List (Nat × Nat)) : Prop where
  nd : ks.Nodup
  pm : ks.Perm ((found ++ [p]) ++ wait)
  st : (h0, k0) ∈ ks
  rc : ∀ p ∈ ks, RchP one two h0 k0 p
  cl : ∀ p ∈ found, ∀ x ∈ pbOf one two p.1 p.2, x.2 ∈ ks
  cj : ∀ x ∈ (pbOf one two p.1 p.2).take j, x.2 ∈ ks
theorem MP.pop {one two : Tab} {h0 k0 : Nat} {found wait ks : List (Nat × Nat)} {p : Nat × Nat} (M : MP one two h0 k0 found (wait ++ [p]) ks) : MPi one two h0 k0 found p 0 wait ks :=
  ⟨M.nd, M.pm.trans (by rw [List.append_assoc]; exact List.Perm.append_left _ List.perm_append_comm), M.st, M.rc, M.cl, fun x hx => by rw [List.take_zero] at hx; cases hx⟩
theorem MPi.out {one two : Tab} {h0 k0 j : Nat} {found wait ks : List (Nat × Nat)} {p : Nat × Nat} (M : MPi one two h0 k0 found p j wait ks) (hj : (pbOf one two p.1 p.2).length ≤ j) : MP one two h0 k0 (found ++ [p]) wait ks :=
  ⟨M.nd, M.pm, M.st, M.rc, fun q hq x hx => by
    rcases List.mem_append.mp hq with z | z
    · exact M.cl q z x hx
    · rw [List.mem_singleton.mp z] at hx
      exact M.cj x (by rw [List.take_of_length_le hj]; exact hx)⟩
theorem MPi.old {one two : Tab} {h0 k0 j : Nat} {found wait ks : List (Nat × Nat)} {p : Nat × Nat} {x : PB3} (M : MPi one two h0 k0 found p j wait ks) (hx : (pbOf one two p.1 p.2)[j]? = some x) (hm : x.2 ∈ ks) : MPi one two h0 k0 found p (j + 1) wait ks :=
  ⟨M.nd, M.pm, M.st, M.rc, M.cl, fun y hy => by
    rw [List.take_add_one, hx] at hy
    rcases List.mem_append.mp hy with z | z
    · exact M.cj y z
    · rw [show y = x from by simpa using z]
      exact hm⟩
theorem MPi.new {one two : Tab} {h0 k0 j : Nat} {found wait ks : List (Nat × Nat)} {p : Nat × Nat} {x : PB3} (M : MPi one two h0 k0 found p j wait ks) (hx : (pbOf one two p.1 p.2)[j]? = some x) (hm : x.2 ∉ ks) : MPi one two h0 k0 found p (j + 1) (wait ++ [x.2]) (ks ++ [x.2]) := by
  have hp : p ∈ ks := M.pm.mem_iff.mpr (by simp)
  refine ⟨?_, ?_, List.mem_append_left _ M.st, fun q hq => ?_, fun q hq y hy => List.mem_append_left _ (M.cl q hq y hy), fun y hy => ?_⟩
  · rw [List.nodup_append]
    exact ⟨M.nd, by simp, fun a ha b hb e => hm (by rw [← List.mem_singleton.mp hb, ← e]; exact ha)⟩
  · rw [← List.append_assoc]
    exact M.pm.append_right _
  · rcases List.mem_append.mp hq with z | z
    · exact M.rc q z
    · rw [List.mem_singleton.mp z]
      exact .step (M.rc p hp) (List.mem_of_getElem? hx)
  · rw [List.take_add_one, hx] at hy
    rcases List.mem_append.mp hy with z | z
    · exact List.mem_append_left _ (M.cj y z)
    · rw [show y = x from by simpa using z]
      simp
theorem MP.few {one two : Tab} {h0 k0 N : Nat} {found wait ks : List (Nat × Nat)} (M : MP one two h0 k0 found wait ks) (rb : RB one two h0 k0 N) : found.length + wait.length ≤ N ∧ ks.length ≤ N := by
  have h1 := rb ks M.nd M.rc
  have h2 := M.pm.length_eq
  rw [List.length_append] at h2
  omega
theorem MPi.few {one two : Tab} {h0 k0 N j : Nat} {p : Nat × Nat} {found wait ks : List (Nat × Nat)} (M : MPi one two h0 k0 found p j wait ks) (rb : RB one two h0 k0 N) : found.length + 1 + wait.length ≤ N ∧ ks.length ≤ N ∧ p ∈ ks := by
  have h1 := rb ks M.nd M.rc
  have h2 := M.pm.length_eq
  rw [List.length_append, List.length_append] at h2
  simp only [List.length_cons, List.length_nil] at h2
  exact ⟨by omega, h1, M.pm.mem_iff.mpr (by simp)⟩
/-- what met_pairs tells -/
noncomputable def TrL (H : Hp) (a : Addr) (L : List (Nat × Nat × Nat)) : Prop := ∃ ts : List Addr, H a = some (.lst (ts.map V.ref)) ∧ Paired (fun (x : Nat × Nat × Nat) p => H p = some (.tup [.int (x.1 : Int), .int (x.2.1 : Int), .int (x.2.2 : Int)])) L ts
noncomputable def spMetPairs : Sp := fun vs H Q _ => ∃ (m : Nat) (P : Nat → Nat) (a b : Addr) (one two : Tab) (h k N : Nat), vs = [.ref a, .int (h : Int), .ref b, .int (k : Int)] ∧ TabT H a one ∧ TabT H b two ∧ Canon m P one ∧ Canon m P two ∧ h < one.length ∧ k < two.length ∧ FewX one ∧ FewX two ∧ RB one two h k N ∧ N ≤ 100000 ∧
  ∀ H' p L, H p = none → Same H H' → MPd one two h k L → TrL H' p (L.map fun x => (plMin one two x.1 x.2, x)) → Q (.ref p) H'
/-- but for three -/
noncomputable def rm3 (a s b : Addr) (H : Hp) : Hp := fun x => if x = a ∨ x = s ∨ x = b then none else H x
section
variable {a s b x : Addr} {H H' : Hp} {o : HO}
theorem rm3_le : Same (rm3 a s b H) H := fun y o h => by
  unfold rm3 at h
  split at h
  · cases h
  · exact h
theorem rm3_mono (k : Same H H') : Same (rm3 a s b H) (rm3 a s b H') := fun y o h => by
  unfold rm3 at h ⊢
  split at h
  · cases h
  · rename_i c
    rw [if_neg c]
    exact k _ _ h
theorem rm3_of (h1 : x ≠ a) (h2 : x ≠ s) (h3 : x ≠ b) (h : H x = some o) : rm3 a s b H x = some o := by
  unfold rm3
  rw [if_neg (fun z => z.elim h1 fun z => z.elim h2 h3)]
  exact h
theorem rm3_upd (h : x = a ∨ x = s ∨ x = b) : rm3 a s b (L2.upd H x o) = rm3 a s b H := by
  funext y
  unfold rm3
  split
  · rfl
  · rename_i c
    exact L2.upd_ne fun z => c (by rw [z]; exact h)
theorem rm3_new (h : ∀ y o, H y = some o → y ≠ a ∧ y ≠ s ∧ y ≠ b) (k : Same H H') : Same H (rm3 a s b H') := fun y o e => by
  obtain ⟨h1, h2, h3⟩ := h y o e
  exact rm3_of h1 h2 h3 (k _ _ e)
theorem new_ne {a x : Addr} {H : Hp} {o : HO} (h : H a = some o) (n : H x = none) : x ≠ a := fun z => by
  rw [z, h] at n
  cases n
end
noncomputable def PrE (H : Hp) (p : Nat × Nat) (t : Addr) : Prop := H t = some (.tup [.int (p.1 : Int), .int (p.2 : Int)])
noncomputable def TrE (H : Hp) (x : Nat × Nat × Nat) (t : Addr) : Prop := H t = some (.tup [.int (x.1 : Int), .int (x.2.1 : Int), .int (x.2.2 : Int)])
theorem w_disp1 {tk tv : TE} {σ : L2.St} {H : Hp} {Q : VK} (q : ∀ p, H p = none → tk σ (L2.upd H p (.dT [])) fun x H1 => tv σ H1 fun y H2 => ∃ (b : Addr) (k : List Key), x = .ref b ∧ H2 p = some (.dT []) ∧ H2 b = some (.tup (k.map kV)) ∧ atV Q (.ref p) (L2.upd H2 p (.dT [(k, y)]))) : tDisp1 tk tv σ H Q := q
/-- where met_pairs stands -/
structure MPH (one two : Tab) (H : Hp) (a s b : Addr) (found wait ks : List (Nat × Nat)) (H' : Hp) : Prop where
  sm : Same H (rm3 a s b H')
  fa : ∃ fs : List Addr, H' a = some (.lst (fs.map V.ref)) ∧ Paired (TrE (rm3 a s b H')) (found.map fun x => (plMin one two x.1 x.2, x)) fs
  se : H' s = some (.dT (pdm (ks.map fun p => (p, V.bl true))))
  wa : ∃ us : List Addr, H' b = some (.lst (us.map V.ref)) ∧ Paired (PrE (rm3 a s b H')) wait us
theorem MPH.same {one two : Tab} {H H' H2 : Hp} {a s b : Addr} {found wait ks : List (Nat × Nat)} (M : MPH one two H a s b found wait ks H') (k : Same H' H2) : MPH one two H a s b found wait ks H2 := by
  obtain ⟨h1, ⟨fs, h2, h3⟩, h4, ⟨us, h5, h6⟩⟩ := M
  exact ⟨h1.trans (rm3_mono k), ⟨fs, k _ _ h2, paired_imp (fun _ _ z => rm3_mono k _ _ z) h3⟩, k _ _ h4, ⟨us, k _ _ h5, paired_imp (fun _ _ z => rm3_mono k _ _ z) h6⟩⟩
theorem ks_keys (ks : List (Nat × Nat)) : (ks.map fun p => (p, V.bl true)).map (·.1) = ks := by
  rw [List.map_map]
  exact List.map_id' ks
theorem paired_last {α β : Type} {R : α → β → Prop} {l : List α} {x : α} {ys : List β} (h : Paired R (l ++ [x]) ys) : ∃ zs y, ys = zs ++ [y] ∧ Paired R l zs ∧ R x y := by
  induction l generalizing ys with
  | nil =>
    cases h with
    | cons r t =>
      cases t
      exact ⟨[], _, rfl, .nil, r⟩
  | cons z l ih =>
    cases h with
    | cons r t =>
      obtain ⟨zs, y, e, h1, h2⟩ := ih t
      exact ⟨_ :: zs, y, by rw [e]; rfl, .cons r h1, h2⟩
theorem list_last {α : Type} (l : List α) : l = [] ∨ ∃ l' x, l = l' ++ [x] := by
  cases h : l.reverse with
  | nil => exact .inl (by rw [← List.reverse_reverse l, h]; rfl)
  | cons x r => exact .inr ⟨r.reverse, x, by rw [← List.reverse_reverse l, h, List.reverse_cons]⟩
theorem w_pop30 {l : Addr} {xs : List V} {y : V} {H : Hp} {Q : VK} (h : H l = some (.lst (xs ++ [y]))) (q : Q y (upd H l (.lst xs))) : rPop (.ref l) [] H Q := by
  refine ⟨l, xs ++ [y], y, rfl, rfl, h, ?_, by rw [List.dropLast_concat]; exact q⟩
  rw [List.length_append, List.length_cons, List.length_nil, show xs.length + (0 + 1) - 1 = xs.length by omega, List.getElem?_append_right (Nat.le_refl _), Nat.sub_self]
  rfl
theorem MPH.tup {one two : Tab} {H H' : Hp} {a s b : Addr} {found wait ks : List (Nat × Nat)} (M : MPH one two H a s b found wait ks H') {t : Addr} {xs : List V} (h : H' t = some (.tup xs)) : rm3 a s b H' t = some (.tup xs) := by
  obtain ⟨_, ⟨_, h1, _⟩, h2, ⟨_, h3, _⟩⟩ := M
  refine rm3_of (fun z => ?_) (fun z => ?_) (fun z => ?_) h <;> rw [z] at h
  · rw [h1] at h; cases h
  · rw [h2] at h; cases h
  · rw [h3] at h; cases h
end Bc
namespace Bc
open PySem PySem.Spec PyProof.Rows L2
noncomputable def chG (cs : List (Nat × Nat)) (rest f : Nat) : Nat := belowF (0, rest, cs) f
noncomputable def chI (cs : List (Nat × Nat)) : List (Int × Int) := cs.map fun e => ((e.1 : Int), (e.2 : Int))
theorem chI_keys (cs : List (Nat × Nat)) : (chI cs).map (·.1) = (cs.map (·.1)).map fun f : Nat => (f : Int) := by
  unfold chI
  rw [List.map_map, List.map_map]
  rfl
theorem key_put {es : List (Int × Int)} {q k p : Int} : p ∈ (putE es q k).map (·.1) ↔ p ∈ es.map (·.1) ∨ p = q := by
  unfold putE
  split
  · rename_i h
    obtain ⟨e, he, e1⟩ := List.any_eq_true.mp h
    have e1 : e.1 = q := of_decide_eq_true e1
    have e2 : (es.map fun q' : Int × Int => if q'.1 = q then (q'.1, k) else q').map (·.1) = es.map (·.1) := by
      rw [List.map_map]
      refine List.map_congr_left fun x _ => ?_
      show (if x.1 = q then (x.1, k) else x).1 = x.1
      split <;> rfl
    rw [e2]
    exact ⟨.inl, fun z => z.elim id fun z => by rw [z, ← e1]; exact List.mem_map_of_mem he⟩
  · simp
theorem nd_put {es : List (Int × Int)} {q k : Int} (h : (es.map (·.1)).Nodup) : ((putE es q k).map (·.1)).Nodup := by
  unfold putE
  split
  · have e2 : (es.map fun q' : Int × Int => if q'.1 = q then (q'.1, k) else q').map (·.1) = es.map (·.1) := by
      rw [List.map_map]
      refine List.map_congr_left fun x _ => ?_
      show (if x.1 = q then (x.1, k) else x).1 = x.1
      split <;> rfl
    rw [e2]
    exact h
  · rename_i hn
    rw [List.map_append, List.nodup_append]
    refine ⟨h, by simp, fun a ha b hb e => hn ?_⟩
    obtain ⟨x, hx, rfl⟩ := List.mem_map.mp ha
    exact List.any_eq_true.mpr ⟨x, hx, decide_eq_true (by simpa [e] using hb)⟩
theorem look_put {es : List (Int × Int)} {q k p : Int} : look (putE es q k) p = if p = q then k else look es p := by
  unfold look putE
  split
  · rename_i h
    have key : ∀ l : List (Int × Int), ((l.map fun q' : Int × Int => if q'.1 = q then (q'.1, k) else q').find? fun x => decide (x.1 = p)) = (l.find? fun x => decide (x.1 = p)).map fun q' : Int × Int => if q'.1 = q then (q'.1, k) else q' := by
      intro l
      induction l with
      | nil => rfl
      | cons x l ih =>
        have e1 : (if x.1 = q then (x.1, k) else x).1 = x.1 := by split <;> rfl
        rw [List.map_cons, List.find?_cons, List.find?_cons, e1]
        cases decide (x.1 = p) with
        | true => rfl
        | false => exact ih
    rw [key]
    by_cases c : p = q
    · rw [if_pos c]
      obtain ⟨e, he, e1⟩ := List.any_eq_true.mp h
      cases hf : es.find? fun x => decide (x.1 = p) with
      | none =>
        rw [List.find?_eq_none] at hf
        exact absurd (by rw [c]; exact e1) (hf e he)
      | some x =>
        have hx := List.find?_some hf
        have hx : x.1 = p := of_decide_eq_true hx
        show ((some (if x.1 = q then (x.1, k) else x)).map (·.2)).getD 0 = k
        rw [if_pos (by rw [hx, c])]
        rfl
    · rw [if_neg c]
      cases hf : es.find? fun x => decide (x.1 = p) with
      | none => rfl
      | some x =>
        have hx := List.find?_some hf
        have hx : x.1 = p := of_decide_eq_true hx
        show ((some (if x.1 = q then (x.1, k) else x)).map (·.2)).getD 0 = _
        rw [if_neg (by rw [hx]; exact c)]
  · rename_i h
    rw [List.find?_append]
    by_cases c : p = q
    · rw [if_pos c]
      have : es.find? (fun x => decide (x.1 = p)) = none := by
        rw [List.find?_eq_none]
        exact fun x hx z => h (List.any_eq_true.mpr ⟨x, hx, by rw [← c]; exact z⟩)
      rw [this]
      simp [c]
    · rw [if_neg c]
      have : ([(q, k)] : List (Int × Int)).find? (fun x => decide (x.1 = p)) = none := by
        rw [List.find?_cons, decide_eq_false (fun z => c z.symm)]
        rfl
      rw [this, Option.or_none]
theorem look_out {es : List (Int × Int)} {p : Int} (h : p ∉ es.map (·.1)) : look es p = 0 := by
  unfold look
  have : es.find? (fun x => decide (x.1 = p)) = none := by
    rw [List.find?_eq_none]
    exact fun x hx z => h (List.mem_map.mpr ⟨x, hx, of_decide_eq_true z⟩)
  rw [this]
  rfl
theorem len_put {es : List (Int × Int)} {q k : Int} : (putE es q k).length ≤ es.length + 1 := by
  unfold putE
  split
  · rw [List.length_map]; omega
  · rw [List.length_append]; simp
/-- counts and least figures, of the figures in S -/
structure UM (g : Nat → Nat) (S : List Nat) (M Fi : List (Int × Int)) : Prop where
  nm : (M.map (·.1)).Nodup
  nf : (Fi.map (·.1)).Nodup
  km : ∀ c : Int, c ∈ M.map (·.1) ↔ ∃ f ∈ S, (g f : Int) = c
  kf : ∀ c : Int, c ∈ Fi.map (·.1) ↔ ∃ f ∈ S, (g f : Int) = c
  cm : ∀ c : Nat, look M (c : Int) = ((S.filter fun x => decide (g x = c)).length : Nat)
  cf : ∀ f ∈ S, ∃ x ∈ S, look Fi (g f : Int) = (x : Int) ∧ g x = g f ∧ ∀ y ∈ S, g y = g f → x ≤ y
theorem UM.nil {g : Nat → Nat} : UM g [] [] [] :=
  ⟨List.nodup_nil, List.nodup_nil, fun c => by simp, fun c => by simp, fun c => rfl, fun f hf => by cases hf⟩
theorem UM.snoc {g : Nat → Nat} {S : List Nat} {M Fi : List (Int × Int)} {f : Nat} (U : UM g S M Fi) (h : ∀ x ∈ S, x < f) :
    UM g (S ++ [f]) (putE M (g f : Int) (look M (g f : Int) + 1)) (putE Fi (g f : Int) (if (g f : Int) ∈ Fi.map (·.1) then look Fi (g f : Int) else (f : Int))) := by
  refine ⟨nd_put U.nm, nd_put U.nf, fun c => ?_, fun c => ?_, fun c => ?_, fun x hx => ?_⟩
  · rw [key_put, U.km]
    constructor
    · rintro (⟨x, hx, e⟩ | e)
      · exact ⟨x, List.mem_append_left _ hx, e⟩
      · exact ⟨f, by simp, e.symm⟩
    · rintro ⟨x, hx, e⟩
      rcases List.mem_append.mp hx with z | z
      · exact .inl ⟨x, z, e⟩
      · rw [List.mem_singleton.mp z] at e
        exact .inr e.symm
  · rw [key_put, U.kf]
    constructor
    · rintro (⟨x, hx, e⟩ | e)
      · exact ⟨x, List.mem_append_left _ hx, e⟩
      · exact ⟨f, by simp, e.symm⟩
    · rintro ⟨x, hx, e⟩
      rcases List.mem_append.mp hx with z | z
      · exact .inl ⟨x, z, e⟩
      · rw [List.mem_singleton.mp z] at e
        exact .inr e.symm
  · rw [look_put, List.filter_append, List.length_append]
    by_cases e : c = g f
    · rw [if_pos (by rw [e]), U.cm, List.filter_cons, if_pos (decide_eq_true e.symm), e]
      simp
    · rw [if_neg (fun z => e (by omega)), U.cm, List.filter_cons, if_neg (by rw [decide_eq_false (fun z => e z.symm)]; decide)]
      simp
  · rw [look_put]
    by_cases e : g x = g f
    · rw [if_pos (by rw [e])]
      by_cases hin : (g f : Int) ∈ Fi.map (·.1)
      · rw [if_pos hin]
        obtain ⟨y, hy, e1⟩ := (U.kf _).mp hin
        obtain ⟨z, hz, e2, e3, e4⟩ := U.cf y hy
        have e1 : g y = g f := by omega
        rw [e1] at e2 e3 e4
        refine ⟨z, List.mem_append_left _ hz, e2, by rw [e3, e], fun u hu eu => ?_⟩
        rcases List.mem_append.mp hu with q | q
        · exact e4 u q (by rw [eu, e])
        · rw [List.mem_singleton.mp q]
          have := h z hz
          omega
      · rw [if_neg hin]
        refine ⟨f, by simp, rfl, by rw [e], fun u hu eu => ?_⟩
        rcases List.mem_append.mp hu with q | q
        · exact absurd ((U.kf _).mpr ⟨u, q, by rw [eu, e]⟩) hin
        · rw [List.mem_singleton.mp q]
          exact Nat.le_refl _
    · rw [if_neg (fun z => e (by omega))]
      have hx' : x ∈ S := by
        rcases List.mem_append.mp hx with q | q
        · exact q
        · exact absurd (by rw [List.mem_singleton.mp q]) e
      obtain ⟨z, hz, e2, e3, e4⟩ := U.cf x hx'
      refine ⟨z, List.mem_append_left _ hz, e2, e3, fun u hu eu => ?_⟩
      rcases List.mem_append.mp hu with q | q
      · exact e4 u q eu
      · rw [List.mem_singleton.mp q] at eu
        exact absurd eu.symm e
/-- of all figures -/
structure UF (p : Nat) (g : Nat → Nat) (M Fi : List (Int × Int)) : Prop where
  nm : (M.map (·.1)).Nodup
  km : ∀ c : Int, c ∈ M.map (·.1) ↔ ∃ f, f < p ∧ (g f : Int) = c
  kf : ∀ f, f < p → (g f : Int) ∈ Fi.map (·.1)
  cm : ∀ f, f < p → look M (g f : Int) = (cntG p g (g f) : Nat)
  cf : ∀ f, f < p → ∃ x, x < p ∧ look Fi (g f : Int) = (x : Int) ∧ g x = g f ∧ ∀ y, y < p → g y = g f → x ≤ y
theorem UM.whole {p : Nat} {g : Nat → Nat} {S : List Nat} {M Fi : List (Int × Int)} (U : UM g S M Fi) (hn : S.Nodup) (hs : ∀ f ∈ S, f < p) (hl : p ≤ S.length) : UF p g M Fi := by
  have hall : ∀ f, f < p → f ∈ S := fun f hf => by
    refine Classical.byContradiction fun z => ?_
    have := nd_sub30 (l := f :: S) (m := List.range p) (List.nodup_cons.mpr ⟨z, hn⟩) fun x hx => by
      rcases List.mem_cons.mp hx with e | e
      · rw [e]; exact List.mem_range.mpr hf
      · exact List.mem_range.mpr (hs x e)
    rw [List.length_cons, List.length_range] at this
    omega
  refine ⟨U.nm, fun c => ?_, fun f hf => (U.kf _).mpr ⟨f, hall f hf, rfl⟩, fun f hf => ?_, fun f hf => ?_⟩
  · rw [U.km]
    exact ⟨fun ⟨f, a, b⟩ => ⟨f, hs f a, b⟩, fun ⟨f, a, b⟩ => ⟨f, hall f a, b⟩⟩
  · rw [U.cm]
    unfold cntG
    refine congrArg Int.ofNat ?_
    refine count_sub _ hn (fun x hx => List.mem_range.mpr (hs x hx)) (by rw [List.length_range]; exact hl)
  · obtain ⟨x, a, b, c, d⟩ := U.cf f (hall f hf)
    exact ⟨x, hs x a, b, c, fun y hy => d y (hall y hy)⟩
/-- the least figure that is not in S -/
structure Free (p : Nat) (S : List Nat) (fr : Nat) : Prop where
  lt : fr < p
  out : fr ∉ S
  le : ∀ y, y < fr → y ∈ S
theorem UM.rest {p rest fr : Nat} {g : Nat → Nat} {S : List Nat} {M Fi : List (Int × Int)} (U : UM g S M Fi) (hn : S.Nodup) (hs : ∀ f ∈ S, f < p) (hg : ∀ f, f ∉ S → g f = rest) (hf : Free p S fr) {Fi' : List (Int × Int)}
    (hFi : Fi' = if (fr : Int) ≤ (if (rest : Int) ∈ Fi.map (·.1) then look Fi (rest : Int) else (fr : Int)) then putE Fi (rest : Int) (fr : Int) else Fi) : UF p g (putE M (rest : Int) (look M (rest : Int) + (p : Int) - (S.length : Int))) Fi' := by
  have grest := hg fr hf.out
  have key : ∀ q : Nat → Bool, (((List.range p).filter fun x => decide (x ∈ S) && q x)).length = (S.filter q).length := filt_mem hn hs
  have hcase : Fi' = putE Fi (rest : Int) (fr : Int) ∨ Fi' = Fi := by
    rw [hFi]
    by_cases c : (fr : Int) ≤ (if (rest : Int) ∈ Fi.map (·.1) then look Fi (rest : Int) else (fr : Int))
    · exact .inl (if_pos c)
    · exact .inr (if_neg c)
  have lkr : ∃ x : Nat, x < p ∧ look Fi' (rest : Int) = (x : Int) ∧ g x = rest ∧ (rest : Int) ∈ Fi'.map (·.1) ∧ ∀ y, y < p → g y = rest → x ≤ y := by
    by_cases hin : (rest : Int) ∈ Fi.map (·.1)
    · obtain ⟨y, hy, e1⟩ := (U.kf _).mp hin
      have e1 : g y = rest := by omega
      obtain ⟨z, hz, e2, e3, e4⟩ := U.cf y hy
      rw [e1] at e2 e3 e4
      rw [if_pos hin, e2] at hFi
      by_cases c : (fr : Int) ≤ (z : Int)
      · rw [if_pos c] at hFi
        refine ⟨fr, hf.lt, by rw [hFi, look_put, if_pos rfl], grest, by rw [hFi]; exact key_put.mpr (.inr rfl), fun u hu eu => ?_⟩
        refine Classical.byContradiction fun q => ?_
        have := e4 u (hf.le u (by omega)) eu
        omega
      · rw [if_neg c] at hFi
        refine ⟨z, hs z hz, by rw [hFi, e2], e3, by rw [hFi]; exact hin, fun u hu eu => ?_⟩
        by_cases hu' : u ∈ S
        · exact e4 u hu' eu
        · refine Classical.byContradiction fun q => ?_
          exact hu' (hf.le u (by omega))
    · rw [if_neg hin, if_pos (Int.le_refl _)] at hFi
      refine ⟨fr, hf.lt, by rw [hFi, look_put, if_pos rfl], grest, by rw [hFi]; exact key_put.mpr (.inr rfl), fun u hu eu => ?_⟩
      refine Classical.byContradiction fun q => ?_
      exact hin ((U.kf _).mpr ⟨u, hf.le u (by omega), by rw [eu]⟩)
  have lkn : ∀ c : Nat, c ≠ rest → look Fi' (c : Int) = look Fi (c : Int) := fun c hc => by
    rcases hcase with e | e
    · rw [e, look_put, if_neg (by omega)]
    · rw [e]
  have kfn : ∀ c : Int, c ∈ Fi.map (·.1) → c ∈ Fi'.map (·.1) := fun c hc => by
    rcases hcase with e | e
    · rw [e]; exact key_put.mpr (.inl hc)
    · rw [e]; exact hc
  have inS : ∀ f, g f ≠ rest → f ∈ S := fun f h => Classical.byContradiction fun z => h (hg f z)
  refine ⟨nd_put U.nm, fun c => ?_, fun f h => ?_, fun f h => ?_, fun f h => ?_⟩
  · rw [key_put, U.km]
    constructor
    · rintro (⟨f, a, b⟩ | e)
      · exact ⟨f, hs f a, b⟩
      · exact ⟨fr, hf.lt, by rw [grest, e]⟩
    · rintro ⟨f, a, b⟩
      by_cases c2 : g f = rest
      · exact .inr (by rw [← b, c2])
      · exact .inl ⟨f, inS f c2, b⟩
  · by_cases c2 : g f = rest
    · rw [c2]
      obtain ⟨_, _, _, _, z, _⟩ := lkr
      exact z
    · exact kfn _ ((U.kf _).mpr ⟨f, inS f c2, rfl⟩)
  · rw [look_put]
    by_cases c2 : g f = rest
    · rw [if_pos (by rw [c2]), c2, U.cm]
      have e1 : cntG p g rest = (S.filter fun x => decide (g x = rest)).length + (p - S.length) := by
        have e2 := cnt_children (p := p) (fs := S) (ch := g) (rest := rest) (c := rest) hn hs
        rw [if_pos rfl] at e2
        rw [← e2]
        unfold cntG
        refine congrArg List.length (List.filter_congr fun x _ => ?_)
        show decide (g x = rest) = decide ((if x ∈ S then g x else rest) = rest)
        by_cases hx : x ∈ S
        · rw [if_pos hx]
        · rw [if_neg hx, hg x hx]
      have e3 := nd_sub30 hn (m := List.range p) fun x hx => List.mem_range.mpr (hs x hx)
      rw [List.length_range] at e3
      rw [e1]
      omega
    · rw [if_neg (by omega), U.cm]
      refine congrArg Int.ofNat ?_
      unfold cntG
      rw [← key]
      refine congrArg List.length (List.filter_congr fun x _ => ?_)
      by_cases hx : g x = g f
      · rw [decide_eq_true (inS x (by rw [hx]; exact c2)), Bool.true_and]
      · rw [decide_eq_false hx, Bool.and_false]
  · by_cases c2 : g f = rest
    · rw [c2]
      obtain ⟨x, a, b, c, _, d⟩ := lkr
      exact ⟨x, a, b, c, d⟩
    · obtain ⟨x, a, b, c, d⟩ := U.cf f (inS f c2)
      refine ⟨x, hs x a, by rw [lkn _ c2, b], c, fun y hy e => d y (inS y (by rw [e]; exact c2)) e⟩
/-- the best of so many keys -/
noncomputable def UB (M Fi : List (Int × Int)) (ks : List Int) : Option Int → Prop
  | none => ks = []
  | some c => c ∈ ks ∧ ∀ d ∈ ks, look M d < look M c ∨ (look M d = look M c ∧ (d = c ∨ look Fi c < look Fi d))
/-- a key is taken for better -/
noncomputable def ubT (M Fi : List (Int × Int)) (b : Option Int) (d : Int) : Bool := match b with
  | none => true
  | some c => decide (look M d > look M c) || (decide (look M d = look M c) && decide (look Fi d < look Fi c))
theorem UF.inj {p : Nat} {g : Nat → Nat} {M Fi : List (Int × Int)} (U : UF p g M Fi) {c d : Int} (hc : c ∈ M.map (·.1)) (hd : d ∈ M.map (·.1)) (e : look Fi c = look Fi d) : c = d := by
  obtain ⟨f, hf, rfl⟩ := (U.km c).mp hc
  obtain ⟨f', hf', rfl⟩ := (U.km d).mp hd
  obtain ⟨x, _, e1, e2, _⟩ := U.cf f hf
  obtain ⟨y, _, e3, e4, _⟩ := U.cf f' hf'
  rw [e1, e3] at e
  have : x = y := by omega
  rw [← e2, ← e4, this]
theorem UB.step {p : Nat} {g : Nat → Nat} {M Fi : List (Int × Int)} (U : UF p g M Fi) {ks : List Int} {b : Option Int} {d : Int} (hk : ∀ c ∈ ks, c ∈ M.map (·.1)) (hd : d ∈ M.map (·.1)) (h : UB M Fi ks b) : UB M Fi (ks ++ [d]) (if ubT M Fi b d then some d else b) := by
  cases b with
  | none =>
    have h : ks = [] := h
    subst h
    show UB M Fi [d] (some d)
    exact ⟨by simp, fun e he => by rw [List.mem_singleton.mp he]; exact .inr ⟨rfl, .inl rfl⟩⟩
  | some c =>
    obtain ⟨h1, h2⟩ := h
    by_cases t : ubT M Fi (some c) d = true
    · rw [if_pos t]
      have t : look M d > look M c ∨ (look M d = look M c ∧ look Fi d < look Fi c) := by simpa [ubT] using t
      refine ⟨by simp, fun e he => ?_⟩
      rcases List.mem_append.mp he with z | z
      · rcases h2 e z with q | ⟨q1, q2 | q2⟩
        · exact .inl (by omega)
        · subst q2
          rcases t with t | ⟨t1, t2⟩
          · exact .inl (by omega)
          · exact .inr ⟨t1.symm, .inr t2⟩
        · rcases t with t | ⟨t1, t2⟩
          · exact .inl (by omega)
          · exact .inr ⟨by omega, .inr (by omega)⟩
      · rw [List.mem_singleton.mp z]
        exact .inr ⟨rfl, .inl rfl⟩
    · rw [if_neg t]
      have t : ¬ (look M d > look M c ∨ (look M d = look M c ∧ look Fi d < look Fi c)) := by simpa [ubT] using t
      refine ⟨List.mem_append_left _ h1, fun e he => ?_⟩
      rcases List.mem_append.mp he with z | z
      · exact h2 e z
      · rw [List.mem_singleton.mp z]
        by_cases q : look M d < look M c
        · exact .inl q
        · have q1 : look M d = look M c := by
            refine Classical.byContradiction fun y => ?_
            exact t (.inl (by omega))
          refine .inr ⟨q1, ?_⟩
          by_cases e2 : d = c
          · exact .inl e2
          · refine .inr ?_
            have : look Fi c ≠ look Fi d := fun y => e2 (U.inj (hk c h1) hd y).symm
            have : ¬ look Fi d < look Fi c := fun y => t (.inr ⟨q1, y⟩)
            omega
theorem UB.usual {p : Nat} {g : Nat → Nat} {M Fi : List (Int × Int)} (U : UF p g M Fi) (hp : 0 < p) {b : Option Int} (h : UB M Fi (M.map (·.1)) b) : ∃ f0, Usual p g f0 ∧ b = some (g f0 : Int) := by
  cases b with
  | none =>
    have h : M.map (·.1) = [] := h
    have := (U.km (g 0 : Int)).mpr ⟨0, hp, rfl⟩
    rw [h] at this
    cases this
  | some c =>
    obtain ⟨h1, h2⟩ := h
    obtain ⟨f, hf, rfl⟩ := (U.km c).mp h1
    obtain ⟨x, a1, a2, a3, a4⟩ := U.cf f hf
    refine ⟨x, usual_of (p := p) (g := g) (fi := fun c => (look Fi (c : Int)).toNat) (c := g f) a1 a3 (fun i hi e => ?_) (fun i hi => ?_) (fun i hi => ?_), by rw [a3]⟩
    · have := a4 i (by omega) e
      omega
    · obtain ⟨y, b1, b2, b3, b4⟩ := U.cf i hi
      show (look Fi (g i : Int)).toNat ≤ i
      rw [b2, Int.toNat_natCast]
      exact b4 i hi rfl
    · have := h2 (g i : Int) ((U.km _).mpr ⟨i, hi, rfl⟩)
      rw [U.cm i hi, U.cm f hf, a2] at this
      rcases this with q | ⟨q1, q2⟩
      · exact .inl (by omega)
      · refine .inr ⟨by omega, ?_⟩
        rcases q2 with q2 | q2
        · exact .inl (by omega)
        · refine .inr ?_
          show x < (look Fi (g i : Int)).toNat
          omega
theorem chG_in {cs : List (Nat × Nat)} {rest f b : Nat} (hn : (cs.map (·.1)).Nodup) (h : (f, b) ∈ cs) : chG cs rest f = b := by
  unfold chG belowF
  show ((cs.find? fun e => decide (e.1 = f)).map (·.2)).getD rest = b
  cases hf : cs.find? fun e => decide (e.1 = f) with
  | none =>
    rw [List.find?_eq_none] at hf
    exact absurd (decide_eq_true rfl) (hf (f, b) h)
  | some e =>
    have h1 := List.find?_some hf
    have h1 : e.1 = f := of_decide_eq_true h1
    have h2 := List.mem_of_find?_eq_some hf
    have h3 : ∀ {l : List (Nat × Nat)}, (l.map (·.1)).Nodup → e ∈ l → (f, b) ∈ l → e = (f, b) := by
      intro l
      induction l with
      | nil => intro _ h; cases h
      | cons x l ih =>
        intro hn he hb
        rw [List.map_cons, List.nodup_cons] at hn
        rcases List.mem_cons.mp he with z | z
        · rcases List.mem_cons.mp hb with y | y
          · rw [z, y]
          · exact absurd (List.mem_map.mpr ⟨_, y, by rw [← h1, z]⟩) hn.1
        · rcases List.mem_cons.mp hb with y | y
          · exact absurd (List.mem_map.mpr ⟨_, z, by rw [h1, ← y]⟩) hn.1
          · exact ih hn.2 z y
    rw [h3 hn h2 h]
    rfl
theorem chG_out {cs : List (Nat × Nat)} {rest f : Nat} (h : f ∉ cs.map (·.1)) : chG cs rest f = rest := by
  unfold chG belowF
  show ((cs.find? fun e => decide (e.1 = f)).map (·.2)).getD rest = rest
  have : cs.find? (fun e => decide (e.1 = f)) = none := by
    rw [List.find?_eq_none]
    exact fun x hx z => h (List.mem_map.mpr ⟨x, hx, of_decide_eq_true z⟩)
  rw [this]
  rfl
theorem chI_look {cs : List (Nat × Nat)} {f : Nat} (rest : Nat) (h : f ∈ cs.map (·.1)) : look (chI cs) (f : Int) = (chG cs rest f : Nat) := by
  unfold look chI chG belowF
  show _ = ((((cs.find? fun e => decide (e.1 = f)).map (·.2)).getD rest : Nat) : Int)
  have key : ∀ l : List (Nat × Nat), (l.map fun e => ((e.1 : Int), (e.2 : Int))).find? (fun q => decide (q.1 = (f : Int))) = (l.find? fun e => decide (e.1 = f)).map fun e => ((e.1 : Int), (e.2 : Int)) := by
    intro l
    induction l with
    | nil => rfl
    | cons x l ih =>
      rw [List.map_cons, List.find?_cons, List.find?_cons, show decide ((x.1 : Int) = (f : Int)) = decide (x.1 = f) from decide_eq_decide.mpr (by omega)]
      cases decide (x.1 = f) with
      | true => rfl
      | false => exact ih
  rw [key]
  cases hf : cs.find? fun e => decide (e.1 = f) with
  | none =>
    rw [List.find?_eq_none] at hf
    obtain ⟨e, he, e1⟩ := List.mem_map.mp h
    exact absurd (decide_eq_true e1) (hf e he)
  | some e => rfl
/-- the children of a row to be: figures below the prime, each once -/
structure ChOk (p : Nat) (cs : List (Nat × Nat)) : Prop where
  nd : (cs.map (·.1)).Nodup
  lt : ∀ f ∈ cs.map (·.1), f < p
noncomputable def spUsual : Sp := fun vs H Q _ => ∃ (p rest : Nat) (d : Addr) (cs : List (Nat × Nat)), vs = [.int (p : Int), .ref d, .int (rest : Int)] ∧ H d = some (.dK (toK (chI cs))) ∧ ChOk p cs ∧ 0 < p ∧ p < 1024 ∧ ∀ H' f0, Same H H' → Usual p (chG cs rest) f0 → Q (.int (chG cs rest f0 : Nat)) H'
theorem look_get {es : List (Int × Int)} {p z : Int} : (valV (toK es) (.inl p)).getD (.int z) = .int (if p ∈ es.map (·.1) then look es p else z) := by
  by_cases h : p ∈ es.map (·.1)
  · rw [if_pos h]
    have e := (val_toK p es).1
    have e2 := (val_toK p es).2
    obtain ⟨q, hq, e1⟩ := List.mem_map.mp h
    have : (es.any fun r => decide (r.1 = p)) = true := List.any_eq_true.mpr ⟨q, hq, decide_eq_true e1⟩
    rw [this] at e2
    cases hv : valV (toK es) (.inl p) with
    | none => rw [hv] at e2; cases e2
    | some v =>
      rw [hv] at e
      exact e
  · rw [if_neg h]
    have e2 := (val_toK p es).2
    have : (es.any fun r => decide (r.1 = p)) = false := by
      cases hb : es.any fun r => decide (r.1 = p) with
      | false => rfl
      | true =>
        obtain ⟨q, hq, e1⟩ := List.any_eq_true.mp hb
        exact absurd (List.mem_map.mpr ⟨q, hq, of_decide_eq_true e1⟩) h
    rw [this] at e2
    cases hv : valV (toK es) (.inl p) with
    | none => rfl
    | some v => rw [hv] at e2; cases e2
theorem look_get' {es : List (Int × Int)} {p : Int} (h : p ∈ es.map (·.1)) : valV (toK es) (.inl p) = some (.int (look es p)) := by
  have := look_get (es := es) (p := p) (z := 0)
  rw [if_pos h] at this
  cases hv : valV (toK es) (.inl p) with
  | none =>
    have e2 := (val_toK p es).2
    obtain ⟨q, hq, e1⟩ := List.mem_map.mp h
    have e3 : (es.any fun r => decide (r.1 = p)) = true := List.any_eq_true.mpr ⟨q, hq, decide_eq_true e1⟩
    rw [e3, hv] at e2
    cases e2
  | some v =>
    rw [hv] at this
    exact congrArg some this
/-- keys as they are sorted -/
theorem sorted_nat {l : List Nat} {qs : List Int} (pm : qs.Perm (l.map fun f : Nat => (f : Int))) (so : qs.Pairwise (· ≤ ·)) (hn : l.Nodup) : ∃ S : List Nat, qs = S.map (fun f : Nat => (f : Int)) ∧ S.Perm l ∧ S.Pairwise (· < ·) := by
  have e : qs = (qs.map Int.toNat).map (fun f : Nat => (f : Int)) := by
    rw [List.map_map]
    have : ∀ x ∈ qs, ((fun f : Nat => (f : Int)) ∘ Int.toNat) x = x := fun x hx => by
      obtain ⟨f, _, rfl⟩ := List.mem_map.mp (pm.mem_iff.mp hx)
      show ((Int.toNat (f : Int) : Nat) : Int) = (f : Int)
      rw [Int.toNat_natCast]
    exact (List.map_congr_left (g := id) this).symm ▸ (List.map_id qs).symm
  have pm2 : (qs.map Int.toNat).Perm l := by
    have := pm.map Int.toNat
    rw [List.map_map] at this
    refine this.trans ?_
    have e2 : l.map (Int.toNat ∘ fun f : Nat => (f : Int)) = l := by
      refine (List.map_congr_left (g := id) fun x _ => ?_).trans (List.map_id l)
      exact Int.toNat_natCast x
    rw [e2]
  refine ⟨qs.map Int.toNat, e, pm2, ?_⟩
  have nd := pm2.nodup_iff.mpr hn
  have so2 : (qs.map Int.toNat).Pairwise (· ≤ ·) := List.pairwise_map.mpr (so.imp fun h => Int.toNat_le_toNat h)
  have : ∀ {m : List Nat}, m.Nodup → m.Pairwise (· ≤ ·) → m.Pairwise (· < ·) := by
    intro m
    induction m with
    | nil => intro _ _; exact .nil
    | cons x m ih =>
      intro h1 h2
      rw [List.nodup_cons] at h1
      rw [List.pairwise_cons] at h2 ⊢
      exact ⟨fun y hy => Nat.lt_of_le_of_ne (h2.1 y hy) fun z => h1.1 (by rw [z]; exact hy), ih h1.2 h2.2⟩
  exact this nd so2
/-- two dicts beside all that stays -/
structure US (H : Hp) (dm df : Addr) (M Fi : List (Int × Int)) (H' : Hp) : Prop where
  sm : Same H (rm3 dm df df H')
  m : H' dm = some (.dK (toK M))
  f : H' df = some (.dK (toK Fi))
theorem US.same {H H' H2 : Hp} {dm df : Addr} {M Fi : List (Int × Int)} (U : US H dm df M Fi H') (k : Same H' H2) : US H dm df M Fi H2 := ⟨U.sm.trans (rm3_mono k), k _ _ U.m, k _ _ U.f⟩
theorem US.putM {H H' : Hp} {dm df : Addr} {M Fi : List (Int × Int)} (U : US H dm df M Fi H') (n : dm ≠ df) (c k : Int) : US H dm df (putE M c k) Fi (L2.upd H' dm (.dK (toK (putE M c k)))) :=
  ⟨by rw [rm3_upd (.inl rfl)]; exact U.sm, L2.upd_same, by rw [L2.upd_ne n.symm]; exact U.f⟩
theorem US.putF {H H' : Hp} {dm df : Addr} {M Fi : List (Int × Int)} (U : US H dm df M Fi H') (n : dm ≠ df) (c k : Int) : US H dm df M (putE Fi c k) (L2.upd H' df (.dK (toK (putE Fi c k)))) :=
  ⟨by rw [rm3_upd (.inr (.inl rfl))]; exact U.sm, by rw [L2.upd_ne n]; exact U.m, L2.upd_same⟩
theorem look_some {es : List (Int × Int)} {p : Int} : (valV (toK es) (.inl p)).isSome = decide (p ∈ es.map (·.1)) := by
  rw [(val_toK p es).2]
  by_cases h : p ∈ es.map (·.1)
  · rw [decide_eq_true h]
    obtain ⟨q, hq, e1⟩ := List.mem_map.mp h
    exact List.any_eq_true.mpr ⟨q, hq, decide_eq_true e1⟩
  · rw [decide_eq_false h]
    cases hb : es.any fun r => decide (r.1 = p) with
    | false => rfl
    | true =>
      obtain ⟨q, hq, e1⟩ := List.any_eq_true.mp hb
      exact absurd (List.mem_map.mpr ⟨q, hq, of_decide_eq_true e1⟩) h
theorem range_in {S : List Nat} {n : Nat} (h : ∀ y, y < n → y ∈ S) : n ≤ S.length := by
  have := nd_sub30 (l := List.range n) (m := S) List.nodup_range fun x hx => h x (List.mem_range.mp hx)
  rwa [List.length_range] at this
noncomputable def obV : Option Int → V
  | none => .non
  | some c => .int c
theorem chI_map (S : List Nat) (g : Nat → Nat) : chI (S.map fun f => (f, g f)) = S.map fun f : Nat => ((f : Int), (g f : Int)) := by
  unfold chI
  rw [List.map_map]
  rfl
theorem asc_uniq : ∀ {l m : List Nat}, l.Pairwise (· < ·) → m.Pairwise (· < ·) → (∀ x, x ∈ l ↔ x ∈ m) → l = m
  | [], [], _, _, _ => rfl
  | [], y :: m, _, _, h => absurd ((h y).mpr List.mem_cons_self) (by simp)
  | x :: l, [], _, _, h => absurd ((h x).mp List.mem_cons_self) (by simp)
  | x :: l, y :: m, h1, h2, h => by
    rw [List.pairwise_cons] at h1 h2
    have e : x = y := by
      rcases List.mem_cons.mp ((h x).mp List.mem_cons_self) with z | z
      · exact z
      · rcases List.mem_cons.mp ((h y).mpr List.mem_cons_self) with z2 | z2
        · exact z2.symm
        · have := h1.1 y z2
          have := h2.1 x z
          omega
    subst e
    rw [asc_uniq h1.2 h2.2 fun z => ?_]
    have := h z
    constructor
    · intro hz
      rcases List.mem_cons.mp (this.mp (List.mem_cons_of_mem _ hz)) with q | q
      · have := h1.1 z hz
        omega
      · exact q
    · intro hz
      rcases List.mem_cons.mp (this.mpr (List.mem_cons_of_mem _ hz)) with q | q
      · have := h2.1 z hz
        omega
      · exact q
/-- what made_row answers: g tells the row below each figure -/
noncomputable def MadeQ (H : Hp) (Q : VK) (p place : Nat) (g : Nat → Nat) : Prop := ∀ f0, Usual p g f0 →
  ((∀ f, f < p → g f = g f0) → ∀ H', Same H H' → Q (.int (g f0 : Nat)) H') ∧
  ((∃ f, f < p ∧ g f ≠ g f0) → ∀ H' t, H t = none → Same H H' → RowE H' (place, g f0, excOf p g (g f0)) t → Q (.ref t) H')
noncomputable def spMadeRow : Sp := fun vs H Q _ => ∃ (p place rest : Nat) (d : Addr) (cs : List (Nat × Nat)), vs = [.int (p : Int), .int (place : Int), .ref d, .int (rest : Int)] ∧ H d = some (.dK (toK (chI cs))) ∧ ChOk p cs ∧ 0 < p ∧ p < 1024 ∧ MadeQ H Q p place (chG cs rest)
theorem paired_unref {α : Type} {R : α → Addr → Prop} : ∀ {l : List α} {ys : List V}, Paired (fun x y => ∃ t, y = V.ref t ∧ R x t) l ys → ∃ as : List Addr, ys = as.map V.ref ∧ Paired R l as
  | _, _, .nil => ⟨[], rfl, .nil⟩
  | _, _, .cons ⟨t, e, r⟩ h => by
    obtain ⟨as, e1, h1⟩ := paired_unref h
    exact ⟨t :: as, by rw [e, e1]; rfl, .cons r h1⟩
theorem chI_get {cs : List (Nat × Nat)} {f rest : Nat} : (if (f : Int) ∈ (chI cs).map (·.1) then look (chI cs) (f : Int) else (rest : Int)) = (chG cs rest f : Nat) := by
  by_cases h : f ∈ cs.map (·.1)
  · rw [if_pos (by rw [chI_keys]; exact List.mem_map_of_mem h), chI_look rest h]
  · rw [if_neg, chG_out h]
    rw [chI_keys]
    intro z
    obtain ⟨x, hx, e⟩ := List.mem_map.mp z
    have e : (x : Int) = (f : Int) := e
    exact h (by rw [← show x = f by omega]; exact hx)
theorem walk_rng0 {n : Nat} : Walk (Itr 0 n) ((List.range n).map fun f : Nat => V.int (f : Int)).length (fun _ => True) (YAt ((List.range n).map fun f : Nat => V.int (f : Int))) := by
  have w := walk_range (lo := 0) (n := n)
  have e : n = ((List.range n).map fun f : Nat => V.int (f : Int)).length := by rw [List.length_map, List.length_range]
  rw [← e]
  refine w.mono (fun _ h => h) fun i H x H' hi _ y => ?_
  obtain ⟨rfl, rfl⟩ := y
  refine ⟨rfl, ?_⟩
  rw [List.getElem?_map, List.getElem?_range hi]
  show some (V.int (i : Int)) = some (V.int (0 + (i : Int)))
  rw [Int.zero_add]
theorem toK_tp30 {K : PySem.W.Frag} {H : Hp} : ∀ {es : List (Int × Int)} {as : List Addr}, Paired (Tp H) es as → Paired (fun p kv => SqT K H p [kV kv.1, kv.2]) as (toK es)
  | _, _, .nil => .nil
  | _, _, .cons r t => .cons (sqt r) (toK_tp30 t)
theorem paired_self {α : Type} (f : α → V) : ∀ l : List α, Paired (fun x y => y = f x) l (l.map f)
  | [] => .nil
  | _ :: l => .cons rfl (paired_self f l)
/-- a dict locked, behind what stays -/
theorem same_unlock {H H5 : Hp} {d : Addr} {o u : HO} (hd : H d = some u) (s : Same (L2.upd H d o) H5) : Same H (L2.upd H5 d u) := fun b o' hb => by
  by_cases z : b = d
  · subst z
    rw [L2.upd_same, ← hd, hb]
  · rw [L2.upd_ne z]
    exact s _ _ ((L2.upd_ne z).trans hb)
noncomputable def putN (cs : List (Nat × Nat)) (f v : Nat) : List (Nat × Nat) := if f ∈ cs.map (·.1) then cs.map (fun e => if e.1 = f then (e.1, v) else e) else cs ++ [(f, v)]
theorem chI_put {cs : List (Nat × Nat)} {f v : Nat} : putE (chI cs) (f : Int) (v : Int) = chI (putN cs f v) := by
  unfold putE putN
  have e : ((chI cs).any fun q => decide (q.1 = (f : Int))) = decide (f ∈ cs.map (·.1)) := by
    unfold chI
    rw [List.any_map]
    by_cases h : f ∈ cs.map (·.1)
    · rw [decide_eq_true h]
      obtain ⟨x, hx, rfl⟩ := List.mem_map.mp h
      exact List.any_eq_true.mpr ⟨x, hx, decide_eq_true rfl⟩
    · rw [decide_eq_false h, List.any_eq_false]
      intro x hx z
      have z : (x.1 : Int) = (f : Int) := of_decide_eq_true z
      exact h (List.mem_map.mpr ⟨x, hx, by omega⟩)
  rw [e]
  by_cases h : f ∈ cs.map (·.1)
  · rw [decide_eq_true h, if_pos rfl, if_pos h]
    unfold chI
    rw [List.map_map, List.map_map]
    refine List.map_congr_left fun x _ => ?_
    show (if (x.1 : Int) = (f : Int) then ((x.1 : Int), (v : Int)) else ((x.1 : Int), (x.2 : Int))) = (((if x.1 = f then (x.1, v) else x).1 : Int), ((if x.1 = f then (x.1, v) else x).2 : Int))
    by_cases c : x.1 = f
    · rw [if_pos (by rw [c]), if_pos c]
    · rw [if_neg (by omega), if_neg c]
  · rw [decide_eq_false h, if_neg (by decide), if_neg h]
    unfold chI
    rw [List.map_append]
    rfl
theorem key_putN {cs : List (Nat × Nat)} {f v g : Nat} : g ∈ (putN cs f v).map (·.1) ↔ g ∈ cs.map (·.1) ∨ g = f := by
  have h : ∀ ds : List (Nat × Nat), (g : Int) ∈ (chI ds).map (·.1) ↔ g ∈ ds.map (·.1) := fun ds => by
    rw [chI_keys]
    constructor
    · intro z
      obtain ⟨x, hx, e⟩ := List.mem_map.mp z
      have e : (x : Int) = (g : Int) := e
      rw [← show x = g by omega]
      exact hx
    · exact fun z => List.mem_map_of_mem z
  rw [← h, ← chI_put, key_put, h]
  exact ⟨fun z => z.imp id fun z => by omega, fun z => z.imp id fun z => by rw [z]⟩
theorem nd_chI {cs : List (Nat × Nat)} : ((chI cs).map (·.1)).Nodup ↔ (cs.map (·.1)).Nodup := by
  rw [chI_keys, List.Nodup, List.pairwise_map]
  exact ⟨fun h => h.imp fun {a b} z e => z (by rw [e]), fun h => h.imp fun {a b} z e => z (by omega)⟩
theorem nd_putN {cs : List (Nat × Nat)} {f v : Nat} (h : (cs.map (·.1)).Nodup) : ((putN cs f v).map (·.1)).Nodup := by
  rw [← nd_chI, ← chI_put]
  exact nd_put (nd_chI.mpr h)
theorem chG_putN {cs : List (Nat × Nat)} {f v rest g : Nat} : chG (putN cs f v) rest g = if g = f then v else chG cs rest g := by
  have h1 : ((if (g : Int) ∈ (chI (putN cs f v)).map (·.1) then look (chI (putN cs f v)) (g : Int) else (rest : Int))) = (chG (putN cs f v) rest g : Nat) := chI_get
  have h2 : ((if (g : Int) ∈ (chI cs).map (·.1) then look (chI cs) (g : Int) else (rest : Int))) = (chG cs rest g : Nat) := chI_get
  rw [← chI_put] at h1
  by_cases c : g = f
  · rw [if_pos c]
    rw [if_pos (key_put.mpr (.inr (by rw [c]))), look_put, if_pos (by rw [c])] at h1
    omega
  · rw [if_neg c]
    have hk : (g : Int) ∈ (putE (chI cs) (f : Int) (v : Int)).map (·.1) ↔ (g : Int) ∈ (chI cs).map (·.1) := by
      rw [key_put]
      exact ⟨fun z => z.elim id fun z => absurd z (by omega), .inl⟩
    by_cases hm : (g : Int) ∈ (chI cs).map (·.1)
    · rw [if_pos (hk.mpr hm), look_put, if_neg (by omega)] at h1
      rw [if_pos hm] at h2
      omega
    · rw [if_neg (fun z => hm (hk.mp z))] at h1
      rw [if_neg hm] at h2
      omega
theorem MadeQ.congr {H : Hp} {Q : VK} {p place : Nat} {g g' : Nat → Nat} (h : MadeQ H Q p place g) (e : ∀ f, f < p → g f = g' f) : MadeQ H Q p place g' := fun f0 hu => by
  have hu2 := hu.congr (g' := g) fun i hi => (e i hi).symm
  obtain ⟨h1, h2⟩ := h f0 hu2
  have e0 := e f0 hu.lt
  refine ⟨fun hs H' s => ?_, fun ⟨f, hf, hn⟩ H' t nt s hr => ?_⟩
  · rw [← e0]
    exact h1 (fun f hf => by rw [e f hf, e0]; exact hs f hf) H' s
  · refine h2 ⟨f, hf, by rw [e f hf, e0]; exact hn⟩ H' t nt s ?_
    rw [e0, excOf_congr e]
    exact hr
theorem MadeQ.same {H H1 : Hp} {Q : VK} {p place : Nat} {g : Nat → Nat} (h : MadeQ H Q p place g) (s : Same H H1) : MadeQ H1 Q p place g := fun f0 hu => by
  obtain ⟨h1, h2⟩ := h f0 hu
  exact ⟨fun hs H' s' => h1 hs H' (s.trans s'), fun hx H' t nt s' hr => h2 hx H' t (s.free nt) (s.trans s') hr⟩
/-- below a pair, by a figure -/
noncomputable def bpair (one two : Tab) (h k i : Nat) (f : Option Nat) : Nat × Nat := (belowO one h i f, belowO two k i f)
theorem pb_mem {one two : Tab} {h k : Nat} {x : PB3} (hx : x ∈ pbOf one two h k) : x.2 = bpair one two h k (plMin one two h k) x.1 ∧ (x.1 = none ∨ ∃ f, x.1 = some f ∧ (f ∈ figsAt one h (plMin one two h k) ∨ f ∈ figsAt two k (plMin one two h k))) := by
  unfold pbOf at hx
  split at hx
  · cases hx
  · obtain ⟨f, hf, rfl⟩ := List.mem_map.mp hx
    refine ⟨rfl, ?_⟩
    rcases List.mem_cons.mp hf with z | z
    · exact .inl z
    · obtain ⟨g, hg, rfl⟩ := List.mem_map.mp z
      exact .inr ⟨g, rfl, List.mem_append.mp hg⟩
theorem pb_none {one two : Tab} {h k : Nat} (c : ¬ (h < 2 ∧ k < 2)) : ∃ l, pbOf one two h k = (none, bpair one two h k (plMin one two h k) none) :: l := by
  unfold pbOf
  rw [if_neg c, List.map_cons]
  exact ⟨_, rfl⟩
theorem pb_some {one two : Tab} {h k f : Nat} (c : ¬ (h < 2 ∧ k < 2)) (hf : f ∈ figsAt one h (plMin one two h k) ∨ f ∈ figsAt two k (plMin one two h k)) : (some f, bpair one two h k (plMin one two h k) (some f)) ∈ pbOf one two h k := by
  unfold pbOf
  rw [if_neg c]
  exact List.mem_map.mpr ⟨some f, List.mem_cons_of_mem _ (List.mem_map_of_mem (List.mem_append.mpr hf)), rfl⟩
theorem below_out {t : Tab} {r i f : Nat} (h : f ∉ figsAt t r i) : belowO t r i (some f) = belowO t r i none := by
  show belowAt t r i f = if (rowAt t r).1 = i then (rowAt t r).2.1 else r
  unfold belowAt
  unfold figsAt at h
  split
  · rename_i c
    rw [if_pos c] at h
    unfold belowF
    have : (rowAt t r).2.2.find? (fun e => decide (e.1 = f)) = none := by
      rw [List.find?_eq_none]
      exact fun x hx z => h (List.mem_map.mpr ⟨x, hx, of_decide_eq_true z⟩)
    rw [this]
    rfl
  · rfl
/-- the number that stands for a pair below -/
noncomputable def gPair (nf : Nat × Nat → Nat) (one two : Tab) (h k : Nat) (f : Nat) : Nat := nf (bpair one two h k (plMin one two h k) (some f))
noncomputable def spRowAtP : Sp := fun vs H Q _ => ∃ (p : Nat) (a b t dn : Addr) (one two : Tab) (h k : Nat) (ks : List ((Nat × Nat) × V)) (nf : Nat × Nat → Nat), vs = [.int (p : Int), .int (plMin one two h k : Nat), .ref a, .ref b, .ref t, .ref dn] ∧ TabT H a one ∧ TabT H b two ∧ H t = some (.tup [.int (h : Int), .int (k : Int)]) ∧ h < one.length ∧ k < two.length ∧ ¬ (h < 2 ∧ k < 2) ∧ FewX one ∧ FewX two ∧
  H dn = some (.dT (pdm ks)) ∧ (∀ x ∈ pbOf one two h k, pget ks x.2 = some (.int (nf x.2 : Nat))) ∧ 0 < p ∧ p < 1024 ∧ (∀ x ∈ pbOf one two h k, ∀ f, x.1 = some f → f < p) ∧ MadeQ H Q p (plMin one two h k) (gPair nf one two h k)
/-- where row_at stands behind some of the pairs below -/
structure RA (one two : Tab) (h k : Nat) (nf : Nat × Nat → Nat) (j : Nat) (cs : List (Nat × Nat)) (rest : Nat) : Prop where
  nd : (cs.map (·.1)).Nodup
  ks : ∀ f, f ∈ cs.map (·.1) ↔ ∃ x ∈ (pbOf one two h k).take j, x.1 = some f
  vs : ∀ f ∈ cs.map (·.1), ∀ r, chG cs r f = gPair nf one two h k f
  re : 0 < j → rest = nf (bpair one two h k (plMin one two h k) none)
theorem RA.nil {one two : Tab} {h k : Nat} {nf : Nat × Nat → Nat} : RA one two h k nf 0 [] 0 :=
  ⟨List.nodup_nil, fun f => by rw [List.take_zero]; simp, (fun f hf => by cases hf), fun z => absurd z (Nat.lt_irrefl _)⟩
theorem RA.none {one two : Tab} {h k j : Nat} {nf : Nat × Nat → Nat} {cs : List (Nat × Nat)} {rest : Nat} {x : PB3} (R : RA one two h k nf j cs rest) (hx : (pbOf one two h k)[j]? = some x) (e : x.1 = Option.none) : RA one two h k nf (j + 1) cs (nf x.2) := by
  refine ⟨R.nd, fun f => ?_, R.vs, fun _ => by rw [(pb_mem (List.mem_of_getElem? hx)).1, e]⟩
  rw [R.ks, List.take_add_one, hx]
  constructor
  · rintro ⟨y, hy, e2⟩
    exact ⟨y, List.mem_append_left _ hy, e2⟩
  · rintro ⟨y, hy, e2⟩
    rcases List.mem_append.mp hy with z | z
    · exact ⟨y, z, e2⟩
    · rw [show y = x from by simpa using z, e] at e2
      cases e2
theorem RA.some {one two : Tab} {h k j : Nat} {nf : Nat × Nat → Nat} {cs : List (Nat × Nat)} {rest f : Nat} {x : PB3} (R : RA one two h k nf j cs rest) (c : ¬ (h < 2 ∧ k < 2)) (hx : (pbOf one two h k)[j]? = Option.some x) (e : x.1 = Option.some f) : RA one two h k nf (j + 1) (putN cs f (nf x.2)) rest := by
  have hxv : nf x.2 = gPair nf one two h k f := by
    rw [(pb_mem (List.mem_of_getElem? hx)).1, e]
    rfl
  refine ⟨nd_putN R.nd, fun g => ?_, fun g hg r => ?_, fun _ => ?_⟩
  · rw [key_putN, R.ks, List.take_add_one, hx]
    constructor
    · rintro (⟨y, hy, e2⟩ | e2)
      · exact ⟨y, List.mem_append_left _ hy, e2⟩
      · exact ⟨x, List.mem_append_right _ (by simp), by rw [e, e2]⟩
    · rintro ⟨y, hy, e2⟩
      rcases List.mem_append.mp hy with z | z
      · exact .inl ⟨y, z, e2⟩
      · rw [show y = x from by simpa using z, e] at e2
        exact .inr (Option.some.inj e2).symm
  · rw [chG_putN]
    by_cases c2 : g = f
    · rw [if_pos c2, hxv, c2]
    · rw [if_neg c2]
      refine R.vs g ?_ r
      rcases key_putN.mp hg with z | z
      · exact z
      · exact absurd z c2
  · refine R.re ?_
    refine Classical.byContradiction fun z => ?_
    have j0 : j = 0 := by omega
    subst j0
    obtain ⟨l, hl⟩ := pb_none (one := one) (two := two) c
    rw [hl] at hx
    have hx := Option.some.inj hx
    rw [← hx] at e
    cases e
theorem RA.done {one two : Tab} {h k p : Nat} {nf : Nat × Nat → Nat} {cs : List (Nat × Nat)} {rest : Nat} (c : ¬ (h < 2 ∧ k < 2)) (R : RA one two h k nf (pbOf one two h k).length cs rest) (hp : ∀ x ∈ pbOf one two h k, ∀ f, x.1 = Option.some f → f < p) : ChOk p cs ∧ ∀ f, chG cs rest f = gPair nf one two h k f := by
  have hk := R.ks
  rw [List.take_length] at hk
  refine ⟨⟨R.nd, fun f hf => ?_⟩, fun f => ?_⟩
  · obtain ⟨x, hx, e⟩ := (hk f).mp hf
    exact hp x hx f e
  · by_cases hf : f ∈ cs.map (·.1)
    · exact R.vs f hf rest
    · have h1 : f ∉ figsAt one h (plMin one two h k) ∧ f ∉ figsAt two k (plMin one two h k) := by
        constructor
        · exact fun z => hf ((hk f).mpr ⟨_, pb_some c (.inl z), rfl⟩)
        · exact fun z => hf ((hk f).mpr ⟨_, pb_some c (.inr z), rfl⟩)
      obtain ⟨l, hl⟩ := pb_none (one := one) (two := two) c
      rw [chG_out hf, R.re (by rw [hl]; exact Nat.succ_pos _)]
      unfold gPair bpair
      rw [below_out h1.1, below_out h1.2]
theorem len_putN {cs : List (Nat × Nat)} {f v : Nat} : (putN cs f v).length ≤ cs.length + 1 := by
  unfold putN
  split
  · rw [List.length_map]; omega
  · rw [List.length_append]; simp
theorem getN_some {n : List (Nat × Nat)} {r : Nat} : (getN n r).isSome = decide (r ∈ n.map (·.1)) := by
  unfold getN
  rw [Option.isSome_map]
  by_cases h : r ∈ n.map (·.1)
  · rw [decide_eq_true h]
    obtain ⟨e, he, e1⟩ := List.mem_map.mp h
    exact List.find?_isSome.mpr ⟨e, he, decide_eq_true e1⟩
  · rw [decide_eq_false h]
    cases hf : n.find? fun e => decide (e.1 = r) with
    | none => rfl
    | some e =>
      have h1 := List.find?_some hf
      have h1 : e.1 = r := of_decide_eq_true h1
      exact absurd (List.mem_map.mpr ⟨e, List.mem_of_find?_eq_some hf, h1⟩) h
theorem getN_look {n : List (Nat × Nat)} {r j : Nat} (h : getN n r = some j) : valV (toK (chI n)) (.inl (r : Int)) = some (.int (j : Int)) := by
  have hk : r ∈ n.map (·.1) := by
    have := getN_some (n := n) (r := r)
    rw [h] at this
    exact of_decide_eq_true this.symm
  rw [look_get' (by rw [chI_keys]; exact List.mem_map_of_mem hk), chI_look 0 hk]
  have : chG n 0 r = j := by
    unfold chG belowF
    show ((n.find? fun e => decide (e.1 = r)).map (·.2)).getD 0 = j
    have h' : ((n.find? fun e => decide (e.1 = r)).map (·.2)) = some j := h
    rw [h']
    rfl
  rw [this]
theorem getN_isNone {n : List (Nat × Nat)} {r : Nat} : (!(valV (toK (chI n)) (.inl (r : Int))).isSome) = (getN n r).isNone := by
  rw [look_some]
  have h := getN_some (n := n) (r := r)
  have e : decide ((r : Int) ∈ (chI n).map (·.1)) = decide (r ∈ n.map (·.1)) := by
    refine decide_eq_decide.mpr ?_
    rw [chI_keys]
    constructor
    · intro z
      obtain ⟨x, hx, e⟩ := List.mem_map.mp z
      have e : (x : Int) = (r : Int) := e
      rw [← show x = r by omega]
      exact hx
    · exact fun z => List.mem_map_of_mem z
  rw [e, ← h]
  cases getN n r <;> rfl
/-- where settled stands -/
structure SH (H : Hp) (dn a b : Addr) (s : SS) (H' : Hp) : Prop where
  sm : Same H (rm3 dn a b H')
  nu : H' dn = some (.dK (toK (chI s.num)))
  ma : ∃ ts : List Addr, H' a = some (.lst (ts.map V.ref)) ∧ Paired (RowF (rm3 dn a b H')) s.made ts
  wa : H' b = some (.lst (s.wait.reverse.map fun r : Nat => V.int (r : Int)))
theorem SH.same {H H' H2 : Hp} {dn a b : Addr} {s : SS} (S : SH H dn a b s H') (k : Same H' H2) : SH H dn a b s H2 := by
  obtain ⟨h1, h2, ⟨ts, h3, h4⟩, h5⟩ := S
  exact ⟨h1.trans (rm3_mono k), k _ _ h2, ⟨ts, k _ _ h3, paired_imp (fun _ _ z => z.same (rm3_mono k)) h4⟩, k _ _ h5⟩
theorem SH.tup {H H' : Hp} {dn a b : Addr} {s : SS} (S : SH H dn a b s H') {t : Addr} {xs : List V} (h : H' t = some (.tup xs)) : rm3 dn a b H' t = some (.tup xs) := by
  obtain ⟨_, h1, ⟨_, h2, _⟩, h3⟩ := S
  refine rm3_of (fun z => ?_) (fun z => ?_) (fun z => ?_) h <;> rw [z] at h
  · rw [h1] at h; cases h
  · rw [h2] at h; cases h
  · rw [h3] at h; cases h
theorem SH.frz {H H' : Hp} {dn a b : Addr} {s : SS} (S : SH H dn a b s H') {t : Addr} {o : Obj} {u : HO} (h : H' t = some (.frz o u)) : rm3 dn a b H' t = some (.frz o u) := by
  obtain ⟨_, h1, ⟨_, h2, _⟩, h3⟩ := S
  refine rm3_of (fun z => ?_) (fun z => ?_) (fun z => ?_) h <;> rw [z] at h
  · rw [h1] at h; cases h
  · rw [h2] at h; cases h
  · rw [h3] at h; cases h
/-- what settled tells of a table and a row -/
structure Settled (t : Tab) (r : Nat) (u : Tab) (n : Nat) : Prop where
  run : ∃ k, (runS t k (startS t r)).wait = [] ∧ u = (runS t k (startS t r)).made ∧ getN (runS t k (startS t r)).num r = some n
noncomputable def spSettled : Sp := fun vs H Q _ => ∃ (m : Nat) (P : Nat → Nat) (a : Addr) (t : Tab) (r : Nat), vs = [.ref a, .int (r : Int)] ∧ TabL H a t ∧ Canon m P t ∧ r < t.length ∧ t.length ≤ 200000 ∧ FewX t ∧
  ∀ H' q ta u n, H q = none → Same H H' → Settled t r u n → H' q = some (.tup [.ref ta, .int (n : Int)]) → TabT H' ta u → Q (.ref q) H'
theorem TabL.row {H : Hp} {a : Addr} {t : Tab} (h : TabL H a t) {r : Nat} (hr : r < t.length) : ∃ (ts : List Addr) (q e : Addr) (es : List Addr), H a = some (.lst (ts.map V.ref)) ∧ ts[r]? = some q ∧ H q = some (.tup [.int ((rowAt t r).1 : Int), .int ((rowAt t r).2.1 : Int), .ref e]) ∧ H e = some (.tup (es.map V.ref)) ∧ Paired (ExE H) (rowAt t r).2.2 es := by
  obtain ⟨ts, h1, h2⟩ := h
  have hw : t[r]? = some t[r] := List.getElem?_eq_getElem hr
  obtain ⟨q, hq, e, es, g1, g2, g3⟩ := paired_getL h2 hw
  have er : rowAt t r = t[r] := rowAt_some hw
  rw [er]
  exact ⟨ts, q, e, es, h1, hq, g1, g2, g3⟩
theorem leftOf_cons {w : Row} {n : List (Nat × Nat)} {e : Nat × Nat} {l : List (Nat × Nat)} (h : w.2.2.filter (fun e => (getN n e.2).isNone) = e :: l) : leftOf w n = some e.2 := by
  unfold leftOf
  have : (w.2.2.map (·.2)).find? (fun b => (getN n b).isNone) = some e.2 := by
    rw [List.find?_map]
    have h2 : w.2.2.find? ((fun b => (getN n b).isNone) ∘ fun e => e.2) = some e := by
      have : ∀ m : List (Nat × Nat), m.filter (fun e => (getN n e.2).isNone) = e :: l → m.find? ((fun b => (getN n b).isNone) ∘ fun e => e.2) = some e := by
        intro m
        induction m with
        | nil => intro z; cases z
        | cons x m ih =>
          intro z
          rw [List.filter_cons] at z
          rw [List.find?_cons]
          cases c : (getN n x.2).isNone with
          | true =>
            rw [c] at z
            have : x = e := by simpa using (List.cons.inj z).1
            show (match ((fun b => (getN n b).isNone) ∘ fun e : Nat × Nat => e.2) x with | true => some x | false => _) = _
            rw [show ((fun b => (getN n b).isNone) ∘ fun e : Nat × Nat => e.2) x = true from c, this]
          | false =>
            rw [c] at z
            show (match ((fun b => (getN n b).isNone) ∘ fun e : Nat × Nat => e.2) x with | true => some x | false => _) = _
            rw [show ((fun b => (getN n b).isNone) ∘ fun e : Nat × Nat => e.2) x = false from c]
            exact ih (by simpa using z)
      exact this _ h
    rw [h2]
    rfl
  rw [this]
theorem leftOf_nil {w : Row} {n : List (Nat × Nat)} (h : w.2.2.filter (fun e => (getN n e.2).isNone) = []) : leftOf w n = if (getN n w.2.1).isNone then some w.2.1 else none := by
  unfold leftOf
  have : (w.2.2.map (·.2)).find? (fun b => (getN n b).isNone) = none := by
    rw [List.find?_eq_none]
    intro b hb
    obtain ⟨e, he, rfl⟩ := List.mem_map.mp hb
    have := List.filter_eq_nil_iff.mp h e he
    exact this
  rw [this]
theorem putN_new {cs : List (Nat × Nat)} {f v : Nat} (h : (getN cs f).isNone = true) : putN cs f v = cs ++ [(f, v)] := by
  unfold putN
  rw [if_neg]
  intro z
  have := getN_some (n := cs) (r := f)
  rw [decide_eq_true z] at this
  cases hg : getN cs f with
  | none => rw [hg] at this; cases this
  | some j => rw [hg] at h; cases h
end Bc
namespace Bc
open PySem PySem.Spec PyProof.Rows L2
theorem Canon.few {m : Nat} {P : Nat → Nat} {t : Tab} (h : Canon m P t) (hP : ∀ i, i < m → P i < 1024) : FewX t := fun r hr => by
  by_cases c : r < 2
  · rw [low_row h.wf c]
    exact Nat.zero_le _
  · rw [h.ex r (by omega) hr]
    unfold excOf
    rw [List.length_map]
    have := hP _ (h.wf.pl r (by omega) hr)
    have h2 := List.length_filter_le (fun f => decide (belowF (rowAt t r) f ≠ (rowAt t r).2.1)) (List.range (P (rowAt t r).1))
    rw [List.length_range] at h2
    omega
theorem Inv30.run {m : Nat} {P : Nat → Nat} {t : Tab} (h : Canon m P t) {r : Nat} (hr : r < t.length) : ∀ k, ∃ keys, Inv30 t r (runS t k (startS t r)) keys
  | 0 => ⟨_, Inv30.start h hr⟩
  | k + 1 => by
    obtain ⟨keys, I⟩ := Inv30.run h hr k
    cases hw : (runS t k (startS t r)).wait with
    | nil =>
      rw [runS_add, runS_end hw]
      exact ⟨keys, I⟩
    | cons x xs =>
      obtain ⟨keys', I', _⟩ := I.step h hw
      rw [runS_succ rfl hw]
      exact ⟨keys', I'⟩
theorem Settled.facts {m : Nat} {P : Nat → Nat} {t u : Tab} {r n : Nat} (h : Canon m P t) (hr : r < t.length) (S : Settled t r u n) : Canon m P u ∧ n < u.length ∧ (∀ d, sem u n d = sem t r d) ∧ u.length ≤ t.length := by
  obtain ⟨k, h1, rfl, h3⟩ := S.run
  obtain ⟨keys, I⟩ := Inv30.run h hr k
  have hn := I.nat.mp h3
  have hl := (List.getElem?_eq_some_iff.mp hn).1
  refine ⟨I.canon h, by rw [I.len]; exact hl, fun d => I.sem h n r hn, ?_⟩
  rw [I.len]
  have := nd_sub30 I.nd (m := List.range t.length) fun x hx => List.mem_range.mpr (I.lt x hx)
  rwa [List.length_range] at this
/-- figures of small primes, weights not too great -/
structure FgOk (F : List (Nat × Nat)) : Prop where
  e : ∀ x ∈ F, 2 ≤ x.1 ∧ x.1 < 1024 ∧ 0 < x.2 ∧ x.2 < 2 ^ 1000
  len : F.length ≤ 6400
theorem FgOk.pP {F : List (Nat × Nat)} (h : FgOk F) {i : Nat} (hi : i < F.length) : 2 ≤ pF F i ∧ pF F i < 1024 := by
  have e : F[i]? = some F[i] := List.getElem?_eq_getElem hi
  rw [pF_at e]
  have := h.e _ (List.mem_of_getElem? e)
  exact ⟨this.1, this.2.1⟩
theorem FgOk.pos {F : List (Nat × Nat)} (h : FgOk F) : ∀ i, i < F.length → 0 < pF F i := fun i hi => by have := h.pP hi; omega
theorem FgOk.sml {F : List (Nat × Nat)} (h : FgOk F) : ∀ i, i < F.length → pF F i < 1024 := fun i hi => (h.pP hi).2
noncomputable def onW (F : List (Nat × Nat)) (wide : Int) (i : Nat) : Bool := match F[i]? with
  | some e => decide (wide % ((e.2 : Int) * (e.1 : Int)) = 0)
  | none => false
theorem chG_one (c row : Nat) : chG [(c, row)] 0 = fun f => if f = c then row else 0 := by
  funext f
  unfold chG belowF
  show (([(c, row)].find? fun e => decide (e.1 = f)).map (·.2)).getD 0 = _
  rw [List.find?_cons]
  by_cases e : f = c
  · rw [if_pos e, decide_eq_true e.symm]
    rfl
  · rw [if_neg e, decide_eq_false (fun z => e z.symm)]
    rfl
/-- the settled rows of one class -/
noncomputable def ClsT (F : List (Nat × Nat)) (rest wide : Int) (u : Tab) (n : Nat) : Prop := ∃ (t : Tab) (r : Nat), Cls F.length (pF F) t r 0 (dig F rest) (onW F wide) ∧ t.length ≤ F.length + 2 ∧ Settled t r u n
noncomputable def spClassRows : Sp := fun vs H Q _ => ∃ (fa : Addr) (F : List (Nat × Nat)) (rest wide : Int), vs = [.ref fa, .int rest, .int wide] ∧ FigL H fa F ∧ FgOk F ∧
  ∀ H' q ta u n, H q = none → Same H H' → ClsT F rest wide u n → H' q = some (.tup [.ref ta, .int (n : Int)]) → TabT H' ta u → Q (.ref q) H'
theorem w_iRev30 {tr : L2.St → Hp → (Int → Int → Hp → Prop) → Prop} {σ : L2.St} {H : Hp} {R : It → Hp → Prop} (q : tr σ H fun a b H1 => -(2 ^ 62) ≤ a ∧ a < 2 ^ 62 ∧ -(2 ^ 62) ≤ b ∧ b < 2 ^ 62 ∧ R (Itc (a + (((b - a).toNat : Nat) : Int) - 1) (-1) (b - a).toNat) H1) : iRevR tr σ H R := q
theorem ClsT.facts {F : List (Nat × Nat)} {rest wide : Int} {u : Tab} {n : Nat} (h : ClsT F rest wide u n) : Canon F.length (pF F) u ∧ n < u.length ∧ u.length ≤ F.length + 2 ∧ ∀ d, Val F.length (pF F) d → (sem u n d = true ↔ ∀ j, j < F.length → onW F wide j = true → d j = dig F rest j) := by
  obtain ⟨t, r, C, hl, S⟩ := h
  obtain ⟨h1, h2, h3, h4⟩ := S.facts C.can C.lt
  refine ⟨h1, h2, by omega, fun d hd => ?_⟩
  rw [h3, C.eq d hd]
  exact ⟨fun z j hj => z j (Nat.zero_le _) hj, fun z j _ hj => z j hj⟩
/-- a list of rows that grows -/
structure GrowL (H0 : Hp) (l : Addr) (t : Tab) (H' : Hp) : Prop where
  sm : Same (rm l H0) (rm l H')
  li : ∃ ts : List Addr, H' l = some (.lst (ts.map V.ref)) ∧ Paired (RowE (rm l H')) t ts
theorem GrowL.same {H0 H' H2 : Hp} {l : Addr} {t : Tab} (G : GrowL H0 l t H') (s : Same H' H2) : GrowL H0 l t H2 := by
  obtain ⟨h1, ts, h2, h3⟩ := G
  exact ⟨h1.trans s.rm, ts, s _ _ h2, paired_imp (fun _ _ z => z.same s.rm) h3⟩
theorem GrowL.tab {H0 H' : Hp} {l : Addr} {t : Tab} (G : GrowL H0 l t H') : TabL H' l t := by
  obtain ⟨_, ts, h2, h3⟩ := G
  exact ⟨ts, h2, paired_imp (fun _ _ z => z.same rm_le) h3⟩
theorem RowE.rm {H : Hp} {w : Row} {q l : Addr} {xs : List V} (h : RowE H w q) (hl : H l = some (.lst xs)) : RowE (Bc.rm l H) w q := by
  obtain ⟨e, es, h1, h2, h3⟩ := h
  have ne : ∀ {x : Addr} {ys : List V}, H x = some (.tup ys) → x ≠ l := fun hx z => by
    rw [z, hl] at hx
    cases hx
  exact ⟨e, es, rm_of (ne h1) h1, rm_of (ne h2) h2, paired_imp (fun _ _ z => rm_of (ne z) z) h3⟩
theorem GrowL.push {H0 H' : Hp} {l q : Addr} {t : Tab} {w : Row} {ts : List Addr} (G : GrowL H0 l t H') (hl : H' l = some (.lst (ts.map V.ref))) (hr : RowE H' w q) : GrowL H0 l (t ++ [w]) (L2.upd H' l (.lst (ts.map V.ref ++ [.ref q]))) := by
  obtain ⟨h1, us, h2, h3⟩ := G
  have e : us = ts := by
    rw [hl] at h2
    have h2 : ts.map V.ref = us.map V.ref := by
      have := Option.some.inj h2
      exact HO.lst.inj this
    have inj : ∀ {a b : List Addr}, a.map V.ref = b.map V.ref → a = b := by
      intro a
      induction a with
      | nil => intro b h; cases b with
        | nil => rfl
        | cons y b => cases h
      | cons x a ih => intro b h; cases b with
        | nil => cases h
        | cons y b =>
          rw [List.map_cons, List.map_cons, List.cons.injEq] at h
          rw [V.ref.inj h.1, ih h.2]
    exact (inj h2).symm
  subst e
  refine ⟨by rw [rm_updS]; exact h1, us ++ [q], by rw [L2.upd_same, List.map_append]; rfl, ?_⟩
  rw [rm_updS]
  exact paired_app h3 (.cons (hr.rm hl) .nil)
end Bc
namespace Bc
open PySem PySem.Spec PyProof.Rows L2
noncomputable def pnm (NS : List ((Nat × Nat) × Nat)) : List ((Nat × Nat) × V) := NS.map fun e => (e.1, V.int (e.2 : Int))
noncomputable def nfOf (NS : List ((Nat × Nat) × Nat)) (x : Nat × Nat) : Nat := ((NS.find? fun e => decide (e.1 = x)).map (·.2)).getD 0
theorem pnm_keys (NS : List ((Nat × Nat) × Nat)) : (pnm NS).map (·.1) = NS.map (·.1) := by
  unfold pnm
  rw [List.map_map]
  rfl
theorem pget_pnm {NS : List ((Nat × Nat) × Nat)} {x : Nat × Nat} (h : x ∈ NS.map (·.1)) : pget (pnm NS) x = some (.int (nfOf NS x : Nat)) := by
  induction NS with
  | nil => cases h
  | cons e NS ih =>
    unfold pget nfOf pnm
    rw [List.map_cons, List.find?_cons, List.find?_cons]
    by_cases c : e.1 = x
    · rw [decide_eq_true c]
      rfl
    · rw [decide_eq_false c]
      refine ih ?_
      rcases List.mem_cons.mp h with z | z
      · exact absurd z.symm c
      · exact z
theorem nfOf_mem {NS : List ((Nat × Nat) × Nat)} {x : Nat × Nat} (h : x ∈ NS.map (·.1)) : (x, nfOf NS x) ∈ NS := by
  induction NS with
  | nil => cases h
  | cons e NS ih =>
    unfold nfOf
    rw [List.find?_cons]
    by_cases c : e.1 = x
    · rw [decide_eq_true c]
      exact List.mem_cons.mpr (.inl (by rw [← c]; rfl))
    · rw [decide_eq_false c]
      refine List.mem_cons_of_mem _ (ih ?_)
      rcases List.mem_cons.mp h with z | z
      · exact absurd z.symm c
      · exact z
/-- the numbers given so far, and their rows -/
structure TG (m : Nat) (P : Nat → Nat) (one two : Tab) (op : Bool → Bool → Bool) (L : List (Nat × Nat)) (Dn : Nat × Nat → Prop) (T : Tab) (NS : List ((Nat × Nat) × Nat)) : Prop where
  can : Canon m P T
  nd : (NS.map (·.1)).Nodup
  dn : ∀ p, p ∈ NS.map (·.1) ↔ p ∈ L ∧ Dn p
  tg : ∀ e ∈ NS, Tog m P one two op T e.1.1 e.1.2 e.2
  ln : T.length ≤ 2 + NS.length
section
variable {m : Nat} {P : Nat → Nat} {one two T : Tab} {op : Bool → Bool → Bool} {L : List (Nat × Nat)} {Dn : Nat × Nat → Prop} {NS : List ((Nat × Nat) × Nat)} {p : Nat × Nat}
theorem TG.few (G : TG m P one two op L Dn T NS) {N : Nat} (h : L.length ≤ N) : NS.length ≤ N ∧ T.length ≤ N + 2 := by
  have h1 := nd_sub30 G.nd (m := L) fun x hx => ((G.dn x).mp hx).1
  rw [List.length_map] at h1
  have := G.ln
  omega
theorem TG.snoc (G : TG m P one two op L Dn T NS) (hp : p ∈ L) (hn : ¬ Dn p) {T' : Tab} {n : Nat} (hc : Canon m P T') (ht : ∀ e ∈ NS, Tog m P one two op T' e.1.1 e.1.2 e.2) (hl : T'.length ≤ T.length + 1) (g : Tog m P one two op T' p.1 p.2 n) : TG m P one two op L (fun q => Dn q ∨ q = p) T' (NS ++ [(p, n)]) := by
  refine ⟨hc, ?_, fun q => ?_, fun e he => ?_, ?_⟩
  · rw [List.map_append, List.nodup_append]
    refine ⟨G.nd, by simp, fun a ha b hb e => hn ?_⟩
    rw [show b = p from by simpa using hb] at e
    rw [e] at ha
    exact ((G.dn p).mp ha).2
  · rw [List.map_append, List.mem_append, G.dn]
    constructor
    · rintro (⟨a, b⟩ | a)
      · exact ⟨a, .inl b⟩
      · have : q = p := by simpa using a
        rw [this]
        exact ⟨hp, .inr rfl⟩
    · rintro ⟨a, b | b⟩
      · exact .inl ⟨a, b⟩
      · exact .inr (by simp [b])
  · rcases List.mem_append.mp he with z | z
    · exact ht e z
    · rw [List.mem_singleton.mp z]
      exact g
  · rw [List.length_append, List.length_singleton]
    have := G.ln
    omega
theorem TG.below {h0 k0 i : Nat} (h1 : Canon m P one) (h2 : Canon m P two) (M : MPd one two h0 k0 L) (hh : h0 < one.length) (hk : k0 < two.length) (G : TG m P one two op L Dn T NS) (hD : ∀ q ∈ L, i < plMin one two q.1 q.2 → Dn q) (hp : p ∈ L) (hi : plMin one two p.1 p.2 = i) (hc : ¬ (p.1 < 2 ∧ p.2 < 2)) :
    (∀ x ∈ pbOf one two p.1 p.2, x.2 ∈ NS.map (·.1)) ∧ Below m P one two op T p.1 p.2 i (gPair (nfOf NS) one two p.1 p.2) := by
  obtain ⟨l1, l2⟩ := (M.rc p hp).lt h1 h2 hh hk
  have him : i < m := by rw [← hi]; exact plMin_lt h1 h2 l1 l2 hc
  have pa : i ≤ (rowAt one p.1).1 := by rw [← hi]; exact Nat.min_le_left _ _
  have pb : i ≤ (rowAt two p.2).1 := by rw [← hi]; exact Nat.min_le_right _ _
  have up1 : ∀ f : Option Nat, i < (rowAt one (belowO one p.1 i f)).1 := fun f => by
    cases f with
    | some f => exact belowAt_pl h1.wf l1 him pa
    | none =>
      show i < (rowAt one (if (rowAt one p.1).1 = i then (rowAt one p.1).2.1 else p.1)).1
      split
      · rename_i c
        by_cases c2 : p.1 < 2
        · have := low_pl h1.wf c2
          omega
        · obtain ⟨f, _, hf⟩ := h1.us p.1 (by omega) l1
          rw [hf]
          have := h1.wf.up p.1 (by omega) l1 f
          omega
      · omega
  have up2 : ∀ f : Option Nat, i < (rowAt two (belowO two p.2 i f)).1 := fun f => by
    cases f with
    | some f => exact belowAt_pl h2.wf l2 him pb
    | none =>
      show i < (rowAt two (if (rowAt two p.2).1 = i then (rowAt two p.2).2.1 else p.2)).1
      split
      · rename_i c
        by_cases c2 : p.2 < 2
        · have := low_pl h2.wf c2
          omega
        · obtain ⟨f, _, hf⟩ := h2.us p.2 (by omega) l2
          rw [hf]
          have := h2.wf.up p.2 (by omega) l2 f
          omega
      · omega
  have hin : ∀ x ∈ pbOf one two p.1 p.2, x.2 ∈ NS.map (·.1) := fun x hx => by
    have hL := M.cl p hp x hx
    refine (G.dn _).mpr ⟨hL, hD _ hL ?_⟩
    rw [(pb_mem hx).1, hi]
    unfold plMin bpair
    have a := up1 x.1
    have b := up2 x.1
    show i < min (rowAt one (belowO one p.1 i x.1)).1 (rowAt two (belowO two p.2 i x.1)).1
    omega
  refine ⟨hin, ⟨him, pa, pb, hi, l1, l2, fun f hf => ?_⟩⟩
  have hm : bpair one two p.1 p.2 i (some f) ∈ NS.map (·.1) := by
    by_cases c : f ∈ figsAt one p.1 (plMin one two p.1 p.2) ∨ f ∈ figsAt two p.2 (plMin one two p.1 p.2)
    · have := hin _ (pb_some hc c)
      rw [hi] at this
      exact this
    · obtain ⟨l, hl⟩ := pb_none (one := one) (two := two) hc
      have h0 := hin (none, bpair one two p.1 p.2 (plMin one two p.1 p.2) none) (by rw [hl]; exact List.mem_cons_self)
      have e : bpair one two p.1 p.2 i (some f) = bpair one two p.1 p.2 (plMin one two p.1 p.2) none := by
        rw [← hi]
        unfold bpair
        rw [below_out (fun z => c (.inl z)), below_out (fun z => c (.inr z))]
      rw [e]
      exact h0
  have t := G.tg _ (nfOf_mem hm)
  unfold gPair
  rw [hi]
  exact t
end
theorem figs_lt {m : Nat} {P : Nat → Nat} {one two : Tab} (h1 : Canon m P one) (h2 : Canon m P two) {h k : Nat} (hh : h < one.length) (hk : k < two.length) {x : PB3} (hx : x ∈ pbOf one two h k) {f : Nat} (hf : x.1 = some f) : f < P (plMin one two h k) := by
  have key : ∀ {t : Tab} {r i : Nat}, Canon m P t → r < t.length → f ∈ figsAt t r i → f < P i := fun {t r i} hc hr hm => by
    unfold figsAt at hm
    split at hm
    · rename_i c
      by_cases c2 : r < 2
      · rw [low_row hc.wf c2] at hm
        cases hm
      · rw [hc.ex r (by omega) hr, c] at hm
        unfold excOf at hm
        rw [List.map_map] at hm
        obtain ⟨g, hg, e⟩ := List.mem_map.mp hm
        have e : g = f := e
        rw [← e]
        exact List.mem_range.mp (List.mem_filter.mp hg).1
    · cases hm
  rcases (pb_mem hx).2 with z | ⟨g, z, hg⟩
  · rw [z] at hf; cases hf
  · rw [z] at hf
    have e := Option.some.inj hf
    subst e
    rcases hg with y | y
    · exact key h1 hh y
    · exact key h2 hk y
noncomputable def exKey (e : Nat × Nat) : NK := .tup [.num (e.1 : Int), .num (e.2 : Int)]
noncomputable def rowKey (w : Row) : NK := .tup [.num (w.1 : Int), .num (w.2.1 : Int), .tup (w.2.2.map exKey)]
theorem exKey_inj {e f : Nat × Nat} (h : exKey e = exKey f) : e = f := by
  unfold exKey at h
  injection h with h
  injection h with h1 h
  injection h with h2 _
  injection h1 with h1
  injection h2 with h2
  exact Prod.ext (by omega) (by omega)
theorem exKeys_inj : ∀ {l m : List (Nat × Nat)}, l.map exKey = m.map exKey → l = m
  | [], [], _ => rfl
  | [], _ :: _, h => by cases h
  | _ :: _, [], h => by cases h
  | x :: l, y :: m, h => by
    rw [List.map_cons, List.map_cons, List.cons.injEq] at h
    rw [exKey_inj h.1, exKeys_inj h.2]
theorem rowKey_inj {w v : Row} (h : rowKey w = rowKey v) : w = v := by
  unfold rowKey at h
  injection h with h
  injection h with h1 h
  injection h with h2 h
  injection h with h3 _
  injection h1 with h1
  injection h2 with h2
  injection h3 with h3
  exact Prod.ext (by omega) (Prod.ext (by omega) (exKeys_inj h3))
theorem exKey_depth (l : List (Nat × Nat)) : PySem.NestedKey.depthAll (l.map exKey) ≤ 1 := by
  induction l with
  | nil => exact Nat.zero_le _
  | cons e l ih =>
    rw [List.map_cons]
    unfold PySem.NestedKey.depthAll
    have : PySem.NestedKey.depth (exKey e) = 1 := rfl
    omega
theorem rowKey_depth (w : Row) : (rowKey w).depth ≤ 8 := by
  have := exKey_depth w.2.2
  unfold rowKey
  show max 0 (max 0 (max (PySem.NestedKey.depthAll (w.2.2.map exKey) + 1) 0)) + 1 ≤ 8
  omega
theorem KAll_ex {H : Hp} : ∀ {l : List (Nat × Nat)} {es : List Addr}, Paired (ExE H) l es → KAll H (l.map exKey) (es.map V.ref)
  | _, _, .nil => .nil
  | _, _, .cons r t => .cons (.tup r (.cons (.int _) (.cons (.int _) .nil))) (KAll_ex t)
theorem rowKey_is {H : Hp} {w : Row} {q : Addr} (h : RowE H w q) : KIs H (rowKey w) (.ref q) := by
  obtain ⟨e, es, h1, h2, h3⟩ := h
  exact .tup h1 (.cons (.int _) (.cons (.int _) (.cons (.tup h2 (KAll_ex h3)) .nil)))
/-- the rows that are known, by their numbers -/
structure Kn30 (T : Tab) (kvs : List NE) : Prop where
  a : ∀ k v, nval kvs k = some v → ∃ r, 2 ≤ r ∧ r < T.length ∧ k = rowKey (rowAt T r) ∧ v = .int (r : Int)
  b : ∀ r, 2 ≤ r → r < T.length → (nval kvs (rowKey (rowAt T r))).isSome = true
  c : kvs.length + 2 = T.length
theorem nval_app {kvs : List NE} {k : NK} {a : Addr} {v : V} (k' : NK) : nval (kvs ++ [(k, a, v)]) k' = match nval kvs k' with | some u => some u | none => if k = k' then some v else none := by
  unfold nval
  rw [List.find?_append]
  cases kvs.find? fun x => decide (x.1 = k') with
  | some x => rfl
  | none =>
    show (([(k, a, v)].find? fun x => decide (x.1 = k')).map (·.2.2)) = _
    rw [List.find?_cons]
    by_cases c : k = k'
    · rw [decide_eq_true c]
      show some v = if k = k' then some v else none
      rw [if_pos c]
    · rw [decide_eq_false c]
      show none = if k = k' then some v else none
      rw [if_neg c]
theorem Kn30.nil {m : Nat} : Kn30 [(m, 0, []), (m, 1, [])] [] :=
  ⟨(fun k v h => by cases h), (fun r h2 hr => by simp at hr; omega), rfl⟩
theorem Kn30.put {T : Tab} {kvs : List NE} {w : Row} {a : Addr} (h : Kn30 T kvs) (hn : nval kvs (rowKey w) = none) : nput kvs (rowKey w) a (.int (T.length : Int)) = kvs ++ [(rowKey w, a, .int (T.length : Int))] ∧ Kn30 (T ++ [w]) (kvs ++ [(rowKey w, a, .int (T.length : Int))]) := by
  have hc := h.c
  refine ⟨by unfold nput; rw [hn]; rfl, ⟨fun k v hv => ?_, fun r h2 hr => ?_, by rw [List.length_append, List.length_append, List.length_singleton, List.length_singleton]; omega⟩⟩
  · rw [nval_app] at hv
    cases hk : nval kvs k with
    | some u =>
      rw [hk] at hv
      have hv : u = v := Option.some.inj hv
      obtain ⟨r, r2, rl, e1, e2⟩ := h.a k u hk
      exact ⟨r, r2, by rw [List.length_append]; omega, by rw [rowAt_left rl]; exact e1, by rw [← hv]; exact e2⟩
    | none =>
      rw [hk] at hv
      have hv : (if rowKey w = k then some (V.int (T.length : Int)) else none) = some v := hv
      by_cases c : rowKey w = k
      · rw [if_pos c] at hv
        exact ⟨T.length, by omega, by rw [List.length_append]; exact Nat.lt_succ_self _, by rw [rowAt_last]; exact c.symm, (Option.some.inj hv).symm⟩
      · rw [if_neg c] at hv
        cases hv
  · rw [nval_app]
    rw [List.length_append, List.length_singleton] at hr
    by_cases c : r < T.length
    · rw [rowAt_left c]
      have := h.b r h2 c
      cases hk : nval kvs (rowKey (rowAt T r)) with
      | some u => rfl
      | none => rw [hk] at this; cases this
    · rw [show r = T.length by omega, rowAt_last, hn]
      show (if rowKey w = rowKey w then some (V.int (T.length : Int)) else none).isSome = true
      rw [if_pos rfl]
      rfl
theorem Kn30.out {T : Tab} {kvs : List NE} {w : Row} (h : Kn30 T kvs) (hn : nval kvs (rowKey w) = none) : ∀ r, 2 ≤ r → r < T.length → rowAt T r ≠ w := fun r h2 hr e => by
  have := h.b r h2 hr
  rw [e, hn] at this
  cases this
/-- the table for nothing and all -/
noncomputable def opN (op : Bool → Bool → Bool) (a b : Bool) : Int := if op a b = true then 1 else 0
noncomputable def TblK (K : PySem.W.Frag) (tb : Addr) (op : Bool → Bool → Bool) : Prop := ∃ r0 r1 : Addr, (∀ H, SqT K H tb [.ref r0, .ref r1]) ∧ (∀ H, SqT K H r0 [.int (opN op false false), .int (opN op false true)]) ∧ ∀ H, SqT K H r1 [.int (opN op true false), .int (opN op true true)]
/-- where together stands -/
structure TH (Pg : Program) (w : World) (H : Hp) (rl kn nd : Addr) (T : Tab) (kvs : List NE) (NS : List ((Nat × Nat) × Nat)) (H' : Hp) : Prop where
  sm : Same H (rm3 rl kn nd H')
  ro : ∃ ts : List Addr, H' rl = some (.lst (ts.map V.ref)) ∧ Paired (RowE (rm3 rl kn nd H')) T ts
  kno : H' kn = some (ndO Pg w kn kvs)
  kk : KeysAt (rm3 rl kn nd H') kvs
  nu : H' nd = some (.dT (pdm (pnm NS)))
theorem TH.same {Pg : Program} {w : World} {H H' H2 : Hp} {rl kn nd : Addr} {T : Tab} {kvs : List NE} {NS : List ((Nat × Nat) × Nat)} (h : TH Pg w H rl kn nd T kvs NS H') (k : Same H' H2) : TH Pg w H rl kn nd T kvs NS H2 := by
  obtain ⟨h1, ⟨ts, h2, h3⟩, h4, h5, h6⟩ := h
  exact ⟨h1.trans (rm3_mono k), ⟨ts, k _ _ h2, paired_imp (fun _ _ z => z.same (rm3_mono k)) h3⟩, k _ _ h4, h5.keeps fun _ _ e => rm3_mono k _ _ e, k _ _ h6⟩
theorem TH.nd {Pg : Program} {w : World} {H H' : Hp} {rl kn nd : Addr} {T : Tab} {kvs : List NE} {NS : List ((Nat × Nat) × Nat)} (h : TH Pg w H rl kn nd T kvs NS H') : ND Pg w H' kn kvs := ⟨h.kno, h.kk.keeps fun _ _ e => rm3_le _ _ e⟩
theorem TH.tup {Pg : Program} {w : World} {H H' : Hp} {rl kn nd : Addr} {T : Tab} {kvs : List NE} {NS : List ((Nat × Nat) × Nat)} (h : TH Pg w H rl kn nd T kvs NS H') {t : Addr} {xs : List V} (e : H' t = some (.tup xs)) : rm3 rl kn nd H' t = some (.tup xs) := by
  obtain ⟨_, ⟨_, h1, _⟩, h2, _, h3⟩ := h
  refine rm3_of (fun z => ?_) (fun z => ?_) (fun z => ?_) e <;> rw [z] at e
  · rw [h1] at e; cases e
  · rw [h2] at e
    have e : HO.ext _ = HO.tup xs := Option.some.inj e
    cases e
  · rw [h3] at e; cases e
/-- the settled rows of two sets together -/
noncomputable def TogT (m : Nat) (P : Nat → Nat) (one two : Tab) (h k N : Nat) (op : Bool → Bool → Bool) (u : Tab) (n : Nat) : Prop := ∃ (T : Tab) (r : Nat), Canon m P T ∧ Tog m P one two op T h k r ∧ T.length ≤ N + 2 ∧ Settled T r u n
theorem TogT.facts {m : Nat} {P : Nat → Nat} {one two u : Tab} {h k N n : Nat} {op : Bool → Bool → Bool} (t : TogT m P one two h k N op u n) : Canon m P u ∧ n < u.length ∧ u.length ≤ N + 2 ∧ ∀ d, Val m P d → sem u n d = op (sem one h d) (sem two k d) := by
  obtain ⟨T, r, c, g, l, s⟩ := t
  obtain ⟨f1, f2, f3, f4⟩ := s.facts c g.lt
  exact ⟨f1, f2, by omega, fun d hd => by rw [f3, g.eq d hd]⟩
noncomputable def spTogether (K : PySem.W.Frag) : Sp := fun vs H Q _ => ∃ (fa a b tb : Addr) (F : List (Nat × Nat)) (one two : Tab) (h k N : Nat) (op : Bool → Bool → Bool), vs = [.ref fa, .ref a, .int (h : Int), .ref b, .int (k : Int), .ref tb] ∧ FigL H fa F ∧ FgOk F ∧ TabT H a one ∧ TabT H b two ∧ Canon F.length (pF F) one ∧ Canon F.length (pF F) two ∧ h < one.length ∧ k < two.length ∧ RB one two h k N ∧ N ≤ 100000 ∧ TblK K tb op ∧
  ∀ H' q ta u n, H q = none → Same H H' → TogT F.length (pF F) one two h k N op u n → H' q = some (.tup [.ref ta, .int (n : Int)]) → TabT H' ta u → Q (.ref q) H'
theorem TblK.get {K : PySem.W.Frag} {tb : Addr} {op : Bool → Bool → Bool} (h : TblK K tb op) {a b : Nat} (ha : a < 2) (hb : b < 2) : ∃ (r0 r1 r : Addr) (ys : List V) (n : Nat), (∀ H, SqT K H tb [.ref r0, .ref r1]) ∧ ([V.ref r0, .ref r1])[a]? = some (.ref r) ∧ (∀ H, SqT K H r ys) ∧ ys[b]? = some (.int (n : Int)) ∧ n < 2 ∧ decide (n = 1) = op (decide (a = 1)) (decide (b = 1)) := by
  obtain ⟨r0, r1, h1, h2, h3⟩ := h
  have e : ∀ x y, opN op x y = (((if op x y = true then 1 else 0 : Nat)) : Int) := fun x y => by
    unfold opN
    split <;> rfl
  have f : ∀ x y, (if op x y = true then 1 else 0 : Nat) < 2 ∧ decide ((if op x y = true then 1 else 0 : Nat) = 1) = op x y := fun x y => by
    cases op x y <;> decide
  have ha : a = 0 ∨ a = 1 := by omega
  have hb : b = 0 ∨ b = 1 := by omega
  rcases ha with rfl | rfl
  · rcases hb with rfl | rfl
    · exact ⟨r0, r1, r0, _, _, h1, rfl, h2, congrArg some (congrArg V.int (e _ _)), (f _ _).1, (f _ _).2⟩
    · exact ⟨r0, r1, r0, _, _, h1, rfl, h2, congrArg some (congrArg V.int (e _ _)), (f _ _).1, (f _ _).2⟩
  · rcases hb with rfl | rfl
    · exact ⟨r0, r1, r1, _, _, h1, rfl, h3, congrArg some (congrArg V.int (e _ _)), (f _ _).1, (f _ _).2⟩
    · exact ⟨r0, r1, r1, _, _, h1, rfl, h3, congrArg some (congrArg V.int (e _ _)), (f _ _).1, (f _ _).2⟩
theorem TG.congr {m : Nat} {P : Nat → Nat} {one two T : Tab} {op : Bool → Bool → Bool} {L : List (Nat × Nat)} {Dn Dn' : Nat × Nat → Prop} {NS : List ((Nat × Nat) × Nat)} (G : TG m P one two op L Dn T NS) (h : ∀ p ∈ L, Dn p ↔ Dn' p) : TG m P one two op L Dn' T NS :=
  ⟨G.can, G.nd, fun p => by rw [G.dn]; exact ⟨fun ⟨a, b⟩ => ⟨a, (h p a).mp b⟩, fun ⟨a, b⟩ => ⟨a, (h p a).mpr b⟩⟩, G.tg, G.ln⟩
theorem TG.nil {m : Nat} {P : Nat → Nat} {one two : Tab} {op : Bool → Bool → Bool} {L : List (Nat × Nat)} : TG m P one two op L (fun _ => False) [(m, 0, []), (m, 1, [])] [] :=
  ⟨Canon.nil trivial, List.nodup_nil, fun p => ⟨fun h => (by cases h), fun h => h.2.elim⟩, fun e he => (by cases he), Nat.le_refl _⟩
/-- a pair one step on in a list without doubles -/
theorem take_new {L : List (Nat × Nat)} (nd : L.Nodup) {j : Nat} {p : Nat × Nat} (h : L[j]? = some p) : p ∉ L.take j ∧ ∀ q, q ∈ L.take (j + 1) ↔ q ∈ L.take j ∨ q = p := by
  have e : L.take (j + 1) = L.take j ++ [p] := by rw [List.take_add_one, h]; rfl
  refine ⟨fun hm => ?_, fun q => by rw [e]; simp⟩
  have n2 : (L.take j ++ [p]).Nodup := by rw [← e]; exact nd.sublist (List.take_sublist _ _)
  rw [List.nodup_append] at n2
  exact n2.2.2 p hm p (by simp) rfl
theorem plMin_top {m : Nat} {P : Nat → Nat} {one two : Tab} (h1 : Canon m P one) (h2 : Canon m P two) {h k : Nat} (hh : h < one.length) (hk : k < two.length) : plMin one two h k ≤ m ∧ (plMin one two h k = m ↔ h < 2 ∧ k < 2) := by
  have b1 := h1.plr hh
  have b2 := h2.plr hk
  refine ⟨by unfold plMin; omega, ⟨fun e => ?_, fun ⟨x, y⟩ => ?_⟩⟩
  · refine Classical.byContradiction fun z => ?_
    have := plMin_lt h1 h2 hh hk z
    omega
  · unfold plMin
    rw [low_pl h1.wf x, low_pl h2.wf y, Nat.min_self]
theorem paired_mapL {α β γ : Type} {R : β → γ → Prop} {f : α → β} : ∀ {l : List α} {ys : List γ}, Paired R (l.map f) ys → Paired (fun x y => R (f x) y) l ys
  | [], _, h => by cases h; exact .nil
  | _ :: _, _, h => by
    cases h with
    | cons r t => exact .cons r (paired_mapL t)
theorem RowE.le {H H' : Hp} {w : Row} {q : Addr} (h : RowE H w q) (s : Same H H') : RowE H' w q := h.same s
section
variable {Pg : Program} {w : World} {H H' : Hp} {rl kn nd : Addr} {T : Tab} {kvs : List NE} {NS : List ((Nat × Nat) × Nat)}
theorem TH.putNu (h : TH Pg w H rl kn nd T kvs NS H') (n1 : nd ≠ rl) (n2 : nd ≠ kn) {NS' : List ((Nat × Nat) × Nat)} : TH Pg w H rl kn nd T kvs NS' (L2.upd H' nd (.dT (pdm (pnm NS')))) := by
  obtain ⟨h1, ⟨ts, h2, h3⟩, h4, h5, h6⟩ := h
  have e : rm3 rl kn nd (L2.upd H' nd (.dT (pdm (pnm NS')))) = rm3 rl kn nd H' := rm3_upd (.inr (.inr rfl))
  exact ⟨by rw [e]; exact h1, ⟨ts, by rw [L2.upd_ne n1.symm]; exact h2, by rw [e]; exact h3⟩, by rw [L2.upd_ne n2.symm]; exact h4, by rw [e]; exact h5, L2.upd_same⟩
theorem TH.putKn (h : TH Pg w H rl kn nd T kvs NS H') (n1 : kn ≠ rl) (n2 : nd ≠ kn) {k : NK} {a : Addr} {v : V} {xs : List V} (hk : KIs H' k (.ref a)) (dk : k.depth ≤ 8) (htr : H' a = some (.tup xs)) : TH Pg w H rl kn nd T (kvs ++ [(k, a, v)]) NS (L2.upd H' kn (ndO Pg w kn (kvs ++ [(k, a, v)]))) := by
  have h0 := h
  obtain ⟨h1, ⟨ts, h2, h3⟩, h4, h5, h6⟩ := h
  have e : rm3 rl kn nd (L2.upd H' kn (ndO Pg w kn (kvs ++ [(k, a, v)]))) = rm3 rl kn nd H' := rm3_upd (.inr (.inl rfl))
  refine ⟨by rw [e]; exact h1, ⟨ts, by rw [L2.upd_ne n1.symm]; exact h2, by rw [e]; exact h3⟩, L2.upd_same, ?_, by rw [L2.upd_ne n2]; exact h6⟩
  rw [e]
  intro x hx
  rcases List.mem_append.mp hx with z | z
  · exact h5 x z
  · rw [List.mem_singleton.mp z]
    exact ⟨hk.keeps (fun b ys hb => h0.tup hb), dk⟩
theorem TH.push (h : TH Pg w H rl kn nd T kvs NS H') {ts : List Addr} {r : Row} {q : Addr} (hl : H' rl = some (.lst (ts.map V.ref))) (hr : RowE (rm3 rl kn nd H') r q) (n1 : kn ≠ rl) (n2 : nd ≠ rl) : TH Pg w H rl kn nd (T ++ [r]) kvs NS (L2.upd H' rl (.lst (ts.map V.ref ++ [.ref q]))) := by
  obtain ⟨h1, ⟨us, h2, h3⟩, h4, h5, h6⟩ := h
  have e : rm3 rl kn nd (L2.upd H' rl (.lst (ts.map V.ref ++ [.ref q]))) = rm3 rl kn nd H' := rm3_upd (.inl rfl)
  have eu : us = ts := by
    rw [hl] at h2
    have h2 : ts.map V.ref = us.map V.ref := HO.lst.inj (Option.some.inj h2)
    have inj : ∀ {a b : List Addr}, a.map V.ref = b.map V.ref → a = b := by
      intro a
      induction a with
      | nil => intro b h; cases b with
        | nil => rfl
        | cons y b => cases h
      | cons x a ih => intro b h; cases b with
        | nil => cases h
        | cons y b =>
          rw [List.map_cons, List.map_cons, List.cons.injEq] at h
          rw [V.ref.inj h.1, ih h.2]
    exact (inj h2).symm
  subst eu
  exact ⟨by rw [e]; exact h1, ⟨us ++ [q], by rw [L2.upd_same, List.map_append]; rfl, by rw [e]; exact paired_app h3 (.cons hr .nil)⟩, by rw [L2.upd_ne n1]; exact h4, by rw [e]; exact h5, by rw [L2.upd_ne n2]; exact h6⟩
end
theorem w_dnewN30 {P : Program} {w : World} {σ : L2.St} {H : Hp} {Q : VK} (q : ∀ p H', H p = none → Same H H' → H' p = some (ndO P w p []) → atV Q (.ref p) H') : tDNewN P w σ H Q := fun p hp => q p _ hp (Same.new hp) L2.upd_same
theorem w_setN30 {P : Program} {w : World} {H : Hp} {a b : Addr} {kvs : List NE} {k : NK} {v : V} {Qs : Hp → Prop} (e : ND P w H a kvs) (hk : KIs H k (.ref b)) (dk : k.depth ≤ 8) (hl : kvs.length < sizeLine) (q : ∀ H', H' = L2.upd H a (ndO P w a (nput kvs k b v)) → Qs H') : rSetN P w (.ref a) (.ref b) v H Qs := w_setND e hk dk hl (q _ rfl)
end Bc
namespace Bc
open PySem PySem.Spec PyProof.Rows L2
section
open PySem.W PySem.Calls
variable {prog : Program} {w : World} {A : Around} {E : Value → Shared → Prop} {s : Shared} {K : Frag} {x D : Addr} {ox od : Obj}
theorem kin_classD {Q : Option Value → Shared → Prop} (c : ExcC K D) (X : K.In s.heap) (I : InstAt s.heap x ox D (some od)) (h : Q (some (.ref D)) { s with toks := s.toks + 1 }) : wpAny (model prog w) A (getAttr? (.ref x) "__class__") Q E s := by
  obtain ⟨hga, hgt, hsub, hdct, ha, hn, htk, hm⟩ := c
  have hf := findObj_data (K := K) (C := D) (od := od) (by obtain ⟨cd, hc, _⟩ := any_some hdct; rw [hc]; rfl) ha hn htk
  obtain ⟨hp, g, d, t, os⟩ := s
  have L0 := I.type (M := model prog w)
  have L1 := looks_findIn (M := model prog w) X hga
  have L2 := looks_findIn (M := model prog w) X hgt
  have L3 := looks_find (M := model prog w) X I hf
  have sub : Looks (model prog w) hp (isInstance (.ref x) (.type "BaseException")) true := L0.andThen (looks_subIn X hsub)
  have hx0 : (false && onTheHeap (Value.builtin "BaseException.__getattribute__")) = false := rfl
  have hx2 : (Value.builtin "BaseException.__getattribute__" == Value.builtin "object.__getattribute__") = false := by decide +kernel
  have hx1 : (onTheHeap (Value.ref D) && Value.builtin "BaseException.__getattribute__" == Value.builtin "object.__getattribute__") = false := by rw [hx2]; rfl
  unfold getAttr? getAttrBy? getAttrBy
  refine wpAny_bind (wpAny_mkText (wpAny_bind (wpAny_attempt (wpAny_holding (wpAny_bind (L0.at (wpAny_bind (L1.at ?_))))))))
  show wpAny _ _ (if (onTheHeap (Value.ref D) && Value.builtin "BaseException.__getattribute__" == Value.builtin "object.__getattribute__") = true then _ else _) _ _ _
  rw [hx1, if_neg Bool.false_ne_true]
  unfold getAttrByItsOwn hookBefore
  refine wpAny_bind ?_
  rw [if_pos (show onTheHeap (Value.ref D) = true from rfl)]
  refine L2.at ?_
  refine wpAny_bind (wpAny_attempt (wpAny_holding ?_))
  unfold callGetattribute
  rw [hx0, if_neg Bool.false_ne_true]
  unfold boundAndCalled
  rw [PySem.F.excAttr_ValueError.ga.bind (.ref x)]
  refine wpAny_bind (wpAny_pure ?_)
  show wpAny _ _ (call (.builtin "BaseException.__getattribute__") [.ref x, .str "__class__" t]) _ _ _
  refine wpAny_call (codeAny_call_builtin PySem.F.excAttr_ValueError.ga.plain PySem.F.entry_bexc_ga ?_)
  refine @check_slot (model prog w) _ _ ⟨hp, g, d, t + 1, os⟩ "BaseException.__getattribute__" "BaseException" "__getattribute__" (.ref x) [.str "__class__" t] [] _ (by decide +kernel) (by decide +kernel) sub (PySem.F.args_bexc_ga (.ref x) (.str "__class__" t)) ?_
  unfold Builtin.«object.__getattribute__»
  refine wpAny_bind (wpAny_of_eq (a := ((Value.ref x : Value), [Value.str "__class__" t])) (by first | rfl | (simp only [slotArgs]; rfl)) ?_)
  refine wpAny_bind (wpAny_pure (wpAny_bind (L0.at (wpAny_bind (L3.at ?_)))))
  show wpAny _ _ (holding [Value.builtin "object.__class__"] (call (.builtin "getset_descriptor.__get__") [.builtin "object.__class__", .ref x, .ref D]) >>= ret) _ _ _
  refine wpAny_bind (wpAny_holding (wpAny_call (class_get (s := ⟨hp, g, d, t + 1, os⟩) (ox := ox) (od := some od) X I hm ?_)))
  refine wpAny_pure ?_
  show wpAny _ _ (handedOut (.ref D)) _ _ _
  rw [handedOut_of (v := .ref D) rfl]
  first
    | exact wpAny_pure (wpAny_pure h)
    | exact wpAny_pure h
    | exact wpAny_pure (wpAny_bind (wpAny_pure (wpAny_pure h)))
theorem kitx_excD (c : ExcC K D) : KitX K (.ref x) (.ref D) (fun h => ∃ ox od, InstAt h x ox D (some od)) where
  ty := fun _ _ _ I => by obtain ⟨ox, od, I⟩ := I; exact I.type
  it := fun _ _ X _ => by
    obtain ⟨cdD, hcD, _⟩ := any_some c.hd
    unfold clsIn at hcD
    split at hcD
    · rename_i c' d' cd' sl' ho
      intro A' Q' E' s' k q
      unfold isType loadHead
      exact wpAny_bind (wpAny_loadPart (k _ _ (X _ _ ho)) (wpAny_pure q))
    · cases hcD
  ne := fun h tp dd its n sl X htp => by
    obtain ⟨cdD, hcD, _⟩ := any_some c.hd
    refine Bool.eq_false_iff.mpr fun q => ?_
    have e : D = tp := Value.ref.inj (beq_iff_eq.mp q)
    subst e
    unfold clsIn at hcD
    split at hcD
    · rename_i c' d' cd' sl' ho
      have z := (X _ _ ho).symm.trans htp
      cases z
    · cases hcD
  ca := fun X I k => by obtain ⟨ox, od, I⟩ := I; exact kin_classD c X I k
end
/-- the type of a thing, errors among them -/
inductive TyE (K : PySem.W.Frag) (H : Hp) : V → Value → Prop
  | x {v : V} {t : Value} (h : TyX K H v t) : TyE K H v t
  | e {a C d : Addr} {fs : List (Str × V)} (h : H a = some (exo a C (some d))) (hd : H d = some (exd d fs)) (c : ExcC K C) : TyE K H (.ref a) (.ref C)
theorem TyE.same {K : PySem.W.Frag} {H H' : Hp} {v : V} {t : Value} (h : TyE K H v t) (s : Same H H') : TyE K H' v t := by
  cases h with
  | x h => exact .x (tyx_same h s)
  | e h hd c => exact .e (s _ _ h) (s _ _ hd) c
section
variable {X : Cx} {pins : List (Addr × Obj)} {σ : L2.St} {H : Hp} {s : Shared}
theorem kit_ofE {x : V} {u t : Value} (I : Inv X pins σ H s) (rx : RelV x u) (ty : TyE X.K H x t) : ∃ P : Heap → Prop, PySem.W.KitX X.K u t P ∧ P s.heap ∧ u ≠ .builtin "__main__.__loader__#opaque" := by
  cases ty with
  | x h => exact kit_of I rx h
  | @e a C d fs h hd c =>
    cases (show u = Value.ref a from rx)
    obtain ⟨t1, ha⟩ := exo_at I.hok h
    obtain ⟨mA, hns, hr⟩ := exd_at I.hok hd
    obtain ⟨od, ho, hl⟩ := lookIn_ns hns
    exact ⟨_, kitx_excD c, ⟨_, od, ha, rfl, rfl, ho⟩, fun z => nomatch z⟩
noncomputable def rIsiE (K : PySem.W.Frag) : List V → Hp → VK → Prop := fun xs H Q => ∃ (x c : V) (t u : Value) (b : Bool), xs = [x, c] ∧ ClsV c u ∧ TyE K H x t ∧ PySem.W.kitOne K t u = some b ∧ Q (.bl b) H
theorem call_isiE : CallR X (.builtin "isinstance") (rIsiE X.K) := by
  intro pins s σ H xs us Q I r h
  obtain ⟨x, c, t, u, b, rfl, hc, ty, e, q⟩ := h
  cases r with
  | cons rx rr =>
    cases rr with
    | cons rt rr =>
      cases rr
      have ec := hc.eq rt
      subst ec
      obtain ⟨P, kx, hp, hne⟩ := kit_ofE I rx ty
      exact PySem.W.kia_one kx I.kIn hp e hne fun tk => ⟨.bl b, H, I.kept (t' := tk) fun _ _ z => z, rfl, q⟩
end
theorem w_isiE {K : PySem.W.Frag} {H : Hp} {Q : VK} {x : V} {C : Addr} {t : Value} {b : Bool} (ty : TyE K H x t) (e : PySem.W.kitOne K t (.ref C) = some b) (q : Q (.bl b) H) : rIsiE K [x, .ref C] H Q := ⟨x, .ref C, t, _, b, rfl, .own C, ty, e, q⟩
section
variable {X : Cx} {k j : Nat} {x f : Str} {C : Addr} {p pos : Pos} {e : Expr} {es : List Expr} {ta : TA}
noncomputable def tMkV (C : Addr) (sp : Sp) (dvs : List V) (ta : TA) : TE := fun σ H Q => ta σ H fun vs H1 => vs.length ≤ 1000 ∧ ∀ a, H1 a = none → sp (.ref a :: (vs ++ dvs)) (upd H1 a (exo a C none)) (fun v H2 => v = .non ∧ Q (.ref a) H2) (fun _ _ _ => False)
end
theorem w_mkV {C : Addr} {sp : Sp} {ta : TA} {σ : L2.St} {H : Hp} {Q : VK} (q : ta σ H fun vs H1 => vs.length ≤ 1000 ∧ ∀ a, H1 a = none → sp (.ref a :: (vs ++ [])) (upd H1 a (exo a C none)) (fun v H2 => v = .non ∧ Q (.ref a) H2) (fun _ _ _ => False)) : tMkV C sp [] ta σ H Q := q
end Bc
namespace Bc
open PySem PySem.Spec PyProof.Rows L2
section
variable {X : Cx} {CX : CXT} {k j : Nat} {f C : Addr} {fd : FuncData} {ps : List Str} {sp : Sp} {dvs : List V} {ds : List Value} {E : L2.St → XK} {x m : Str} {p pos apos : Pos} {e o : Expr} {es : List Expr} {ta : TE} {t tk' : TA} {W : WX}
noncomputable def tMakeSD (C : Addr) (sp : Sp) (dvs : List V) (E : L2.St → XK) (t : TA) : TE := fun σ H Q => t σ H fun vs H1 => ∀ x dx, H1 x = none → H1 dx = none → dx ≠ x →
  sp (.ref x :: (vs ++ dvs)) (upd (upd H1 dx (.own x)) x (.ins C dx [])) (fun v H2 => v = .non ∧ Q (.ref x) H2) (E σ)
theorem w_makeX {σ : L2.St} {H : Hp} {Q : VK} (q : t σ H fun vs H1 => ∀ x dx, H1 x = none → H1 dx = none → dx ≠ x → sp (.ref x :: (vs ++ dvs)) (upd (upd H1 dx (.own x)) x (.ins C dx [])) (fun v H2 => v = .non ∧ Q (.ref x) H2) fun cls d H2 => W cls d σ H2) : tMakeSD C sp dvs (WE W) t σ H Q := q
noncomputable def tMakeKS (C : Addr) (m : Nat) (sp : Sp) (gV : List V → List V → List V) (E : L2.St → XK) (tk : TA) : TE := fun σ H Q => tk σ H fun zs H2 => zs.length = m ∧ ∀ x dx, H2 x = none → H2 dx = none → dx ≠ x →
  sp (gV [.ref x] zs) (upd (upd H2 dx (.own x)) x (.ins C dx [])) (fun v H3 => v = .non ∧ Q (.ref x) H3) (E σ)
theorem w_makeKS {σ : L2.St} {H : Hp} {Q : VK} {n : Nat} {gV : List V → List V → List V} {tk : TA} (q : tk σ H fun zs H2 => zs.length = n ∧ ∀ x dx, H2 x = none → H2 dx = none → dx ≠ x → sp (gV [.ref x] zs) (upd (upd H2 dx (.own x)) x (.ins C dx [])) (fun v H3 => v = .non ∧ Q (.ref x) H3) fun cls d H2 => W cls d σ H2) : tMakeKS C n sp gV (WE W) tk σ H Q := q
noncomputable def tMethSD (C : Addr) (m : Str) (sp : Sp) (dvs : List V) (E : L2.St → XK) (ta : TE) (t : TA) : TE := fun σ H Q => ta σ H fun x H1 => ∃ a dx fs, x = .ref a ∧ H1 a = some (.ins C dx fs) ∧ fs.lookup m = none ∧
  t σ H1 fun vs H2 => sp (x :: (vs ++ dvs)) H2 Q (E σ)
theorem w_methX {σ : L2.St} {H : Hp} {Q : VK} (q : ta σ H fun x H1 => ∃ a dx fs, x = .ref a ∧ H1 a = some (.ins C dx fs) ∧ fs.lookup m = none ∧ t σ H1 fun vs H2 => sp (x :: (vs ++ dvs)) H2 Q fun cls d H3 => W cls d σ H3) : tMethSD C m sp dvs (WE W) ta t σ H Q := q
end
structure EqO (P : Program) (w : World) (K : PySem.W.Frag) (mg : Str → Option Value) (base : Heap) (k : Nat) (C : Addr) (sp : Sp) : Prop where
  ex : ∃ (f : Addr) (fd : FuncData) (ps : List Str), PySem.W.findIn K (.ref C) "__eq__" = some (some (.ref f)) ∧ PySem.W.isFn K (.ref f) = true ∧ PySem.W.findIn K (.ref C) "__ne__" = some (some (.builtin "object.__ne__")) ∧ PySem.W.mroIn K C (.type "object") = some true ∧ FnOk P w K mg base L2.CX0 k f fd ps sp ∧ Binds K fd ps []
noncomputable def rEqO (K : PySem.W.Frag) (C : Addr) (sp : Sp) : R2 := fun x y H Q => ∃ a dx fs t, x = .ref a ∧ H a = some (.ins C dx fs) ∧ TyE K H y t ∧ PySem.W.notFirst K C t = true ∧ sp [x, y] H (fun v H' => ∃ b, v = .bl b ∧ Q (.bl b) H') L2.E0
noncomputable def rNeO (K : PySem.W.Frag) (C : Addr) (sp : Sp) : R2 := fun x y H Q => ∃ a dx fs t, x = .ref a ∧ H a = some (.ins C dx fs) ∧ TyE K H y t ∧ PySem.W.notFirst K C t = true ∧ sp [x, y] H (fun v H' => ∃ b, v = .bl b ∧ Q (.bl (!b)) H') L2.E0
section
variable {M : Model} {prog : Program} {w : World} {A : Around} {E : Value → Shared → Prop} {s : Shared} {K : PySem.W.Frag} {x C f : Addr} {ox : Obj} {od : Option Obj} {b tb : Value}
theorem ifBound_objNe {args : List Value} {Q : Option Value → Shared → Prop} (X : K.In s.heap) (I : PySem.W.InstAt s.heap x ox C od) (hs : PySem.W.findIn K (.ref C) "__ne__" = some (some (.builtin "object.__ne__")))
    (h : wpAny M A (call (.builtin "object.__ne__") (.ref x :: args)) (fun v => Q (some v)) E s) : wpAny M A (callSpecialIfBound? (.ref x) "__ne__" args) Q E s := by
  simp only [callSpecialIfBound?, bindSpecialIfBound?]
  refine wpAny_holding (wpAny_bind (wpAny_bind (wpAny_bind (I.type.here ((PySem.W.looks_findIn X hs).here ?_)))))
  refine wpAny_bind (wpAny_askSetting (wpAny_ite ?_))
  have fin : wpAny M A (call (.builtin "object.__ne__") ([.ref x] ++ args) >>= fun v => pure (some v)) Q E s := wpAny_bind (wpAny_mono h (fun v s' h' => wpAny_pure h') fun _ _ h' => h')
  split
  · exact wpAny_bind (wpAny_of_eq (F.cmp_object.ne.bind _) (wpAny_pure (by exact fin)))
  · exact wpAny_tryCatch (wpAny_bind (wpAny_of_eq (F.cmp_object.ne.bind _) (wpAny_pure (by exact fin))))
theorem objNe_entry_K (X : K.In s.heap) (I : PySem.W.InstAt s.heap x ox C od) (hs : PySem.W.findIn K (.ref C) "__eq__" = some (some (.ref f))) (hf : PySem.W.isFn K (.ref f) = true) (hu : A.units < cLine) {Q : Fin → Shared → Prop}
    (hcall : wpAny (model prog w) A (call (.ref f) [.ref x, b]) (fun v s' => ∃ r, v = .bool r ∧ Q (.done (.ret (.bool (!r)))) s') E s) :
    wpAny (model prog w) A (Builtin.«object.__ne__» ⟨[.ref x, b], []⟩) Q E s := by
  unfold Builtin.«object.__ne__»
  repeat (first
    | with_reducible refine wpAny_cRoomFor hu ?_
    | (refine wpAny_bind (m := callSpecialIfBound? (.ref x) (Str.ofString "__eq__") [b])
        (PySem.W.ifBound_K X I hs hf (wpAny_mono hcall (fun r s' hr => by
          obtain ⟨b, rfl, hq⟩ := hr
          repeat (first | exact hq | exact wpAny_pure hq | exact wpAny_truthy_bool hq | (refine wpAny_bind (m := truthy (.bool _)) (wpAny_truthy_bool ?_)) | wp_step)) fun _ _ e => e)))
    | wp_step)
theorem ne_K {Q : Value → Shared → Prop} (hu : A.units + 1 < cLine) (X : K.In s.heap) (I : PySem.W.InstAt s.heap x ox C od) (hb : PySem.W.Looks (model prog w) s.heap (typeOf b) tb) (hn : PySem.W.notFirst K C tb = true)
    (hs : PySem.W.findIn K (.ref C) "__eq__" = some (some (.ref f))) (hf : PySem.W.isFn K (.ref f) = true) (hne : PySem.W.findIn K (.ref C) "__ne__" = some (some (.builtin "object.__ne__"))) (hm : PySem.W.mroIn K C (.type "object") = some true)
    (h : wpAny (model prog w) A.in1 (call (.ref f) [.ref x, b]) (fun v s' => ∃ r, v = .bool r ∧ Q (.bool (!r)) s') E s) : wpAny (model prog w) A (richCompare .NotEq (.ref x) b) Q E s := by
  have one : wpAny (model prog w) A (tryCompare (.ref x) (cmpInfo .NotEq).2.1 b) (fun r s' => ∃ v, r = some v ∧ Q v s') E s := by
    show wpAny (model prog w) A (tryCompare (.ref x) "__ne__" b) _ E s
    unfold tryCompare
    refine wpAny_bind (ifBound_objNe X I hne (wpAny_call (codeAny_call_builtin F.cmp_object.ne.plain F.cmpEntry_ne (PySem.W.check_slot F.cmpKind_ne F.cmpSplit_ne (I.type.andThen (PySem.W.looks_mroIn X hm)) (F.cmpArgs_ne _ _)
      (objNe_entry_K (A := A.in1) X I hs hf hu (wpAny_mono h (fun v s' hv => ?_) fun _ _ e => e))))))
    obtain ⟨r, rfl, hq⟩ := hv
    first | exact ⟨r, rfl, wpAny_pure ⟨_, rfl, hq⟩⟩ | exact ⟨r, rfl, wpAny_pure (wpAny_pure ⟨_, rfl, hq⟩)⟩ | exact ⟨r, rfl, _, rfl, hq⟩
  unfold richCompare
  simp only [oneThing_ref]
  refine wpAny_holding (wpAny_bind (wpAny_cRoomFor (Nat.lt_of_succ_lt hu) ?_))
  refine wpAny_bind (I.type.here (wpAny_bind (hb.here ?_)))
  split
  · rename_i q
    have e : PySem.W.subIn K tb (.ref C) = some false := by
      rcases Bool.or_eq_true_iff.mp hn with e | e
      · rw [beq_iff_eq.mp e] at q; simp at q
      · exact beq_iff_eq.mp e
    refine wpAny_bind ((PySem.W.looks_subIn X e).here ?_)
    simp only [Bool.false_eq_true, if_false]
    refine wpAny_bind (wpAny_mono one (fun r s' z => ?_) fun _ _ e => e)
    obtain ⟨v, rfl, hq⟩ := z
    exact wpAny_pure hq
  · refine wpAny_bind (wpAny_pure ?_)
    simp only [Bool.false_eq_true, if_false]
    refine wpAny_bind (wpAny_mono one (fun r s' z => ?_) fun _ _ e => e)
    obtain ⟨v, rfl, hq⟩ := z
    exact wpAny_pure hq
end
section
variable {X : Cx} {k j : Nat} {C : Addr} {sp : Sp}
theorem run_eqO {A : Around} {pins : List (Addr × Obj)} {σ : L2.St} {H : Hp} {s : Shared} {Q : VK} {f : Addr} {fd : FuncData} {ps : List Str} {a : Addr} {y : V} {u : Value} (F : FnOk X.prog X.w X.K X.mg X.base L2.CX0 k f fd ps sp) (hb : Binds X.K fd ps []) (hr : Room k A) (hfr : A.frames = X.A.frames) (I : Inv X pins σ H s) (ry : RelV y u)
    (h : sp [.ref a, y] H Q L2.E0) : wpAny (model X.prog X.w) A (call (.ref f) [.ref a, u]) (EP X pins σ Q) X.xe s := by
  have e0 : Env0 X.prog X.w X.K X.mg X.base A X.stack s H := by
    have e := I.env0
    exact ⟨by rw [hfr]; exact e.frames, e.mod, e.bs, e.bsz, e.funs, e.frf, e.hok, e.bare⟩
  have hl := F.len _ _ _ _ h
  have r2 : Vals [V.ref a, y] [Value.ref a, u] := .cons rfl (.cons ry .nil)
  refine wpAny_call (codeAny_mono (F.run A X.stack s H ⟨[.ref a, u], []⟩ [.ref a, u] [.ref a, y] Q L2.E0 hr e0 (by
    have := hb s [.ref a, u] I.kIn (by simpa using hl)
    simpa using this) r2 h) fun r s' hq => ?_)
  cases r with
  | error e => exact hq.elim
  | ok fl =>
    cases fl with
    | ret w => exact I.after hq
    | next => exact False.elim hq
    | brk => exact False.elim hq
    | cont => exact False.elim hq
theorem op_eqO (c : EqO X.prog X.w X.K X.mg X.base k C sp) (hr : Room j X.A) (hk : k ≤ j) : OpR X (compareOp .Eq) (rEqO X.K C sp) := by
  intro pins s σ H x y v u Q I rx ry h
  obtain ⟨f, fd, ps, hs, hf, _, _, F, b⟩ := c.ex
  obtain ⟨a, dx, fs, t, rfl, ha, ty, nf, q⟩ := h
  cases rx
  obtain ⟨mA, O, _⟩ := ins_get I.hok ha
  obtain ⟨od, J, _⟩ := O.look
  obtain ⟨m, hF⟩ := I.fr
  obtain ⟨P, kx, hp, _⟩ := kit_ofE I ry ty
  show wpAny (model X.prog X.w) X.A (richCompare .Eq (.ref a) u) (EP X pins σ Q) X.xe s
  refine PySem.W.cmp_K (op := .Eq) (tb := t) hr.units0 hF I.ok.mod.kin J (kx.ty _ _ I.kIn hp) nf hs hf ?_
  refine wpAny_mono (run_eqO F b (hr.mono hk) rfl I ry q) (fun v' s' hv => ?_) fun _ _ e => e
  obtain ⟨z, H', I', rz, r, ez, qz⟩ := hv
  subst ez
  cases rz
  exact ⟨.bl r, H', I', rfl, qz⟩
theorem op_neO (c : EqO X.prog X.w X.K X.mg X.base k C sp) (hr : Room j X.A) (hk : k + 1 ≤ j) : OpR X (compareOp .NotEq) (rNeO X.K C sp) := by
  intro pins s σ H x y v u Q I rx ry h
  obtain ⟨f, fd, ps, hs, hf, hne, hm, F, b⟩ := c.ex
  obtain ⟨a, dx, fs, t, rfl, ha, ty, nf, q⟩ := h
  cases rx
  obtain ⟨mA, O, _⟩ := ins_get I.hok ha
  obtain ⟨od, J, _⟩ := O.look
  obtain ⟨P, kx, hp, _⟩ := kit_ofE I ry ty
  show wpAny (model X.prog X.w) X.A (richCompare .NotEq (.ref a) u) (EP X pins σ Q) X.xe s
  refine ne_K (tb := t) (by have := hr.units; omega) I.kIn J (kx.ty _ _ I.kIn hp) nf hs hf hne hm ?_
  refine wpAny_mono (run_eqO F b (hr.mono hk).in1 rfl I ry q) (fun v' s' hv => ?_) fun _ _ e => e
  obtain ⟨z, H', I', rz, r, ez, qz⟩ := hv
  subst ez
  cases rz
  exact ⟨r, rfl, .bl (!r), H', I', rfl, qz⟩
end
end Bc
namespace Bc
open PySem PySem.Spec PyProof.Rows L2
section
variable {X : Cx} {k j n : Nat} {C : Addr} {m : Str} {sp : Sp} {ks : List Str} {gV : List V → List V → List V} {p pos apos : Pos} {o fe e : Expr} {es : List Expr} {kws : List Keyword} {ta tf : TE} {t tk : TA}
noncomputable def tMethK (C : Addr) (m : Str) (n l : Nat) (sp : Sp) (gV : List V → List V → List V) (E : XK) (ta : TE) (t tk : TA) : TE := fun σ H Q => ta σ H fun x H1 => ∃ a dx fs, x = .ref a ∧ H1 a = some (.ins C dx fs) ∧ fs.lookup m = none ∧
  t σ H1 fun vs H2 => tk σ H2 fun zs H3 => vs.length = n ∧ zs.length = l ∧ sp (gV (x :: vs) zs) H3 Q E
theorem w_methK {σ : L2.St} {H : Hp} {Q : VK} {l : Nat} {E : XK} (q : ta σ H fun x H1 => ∃ a dx fs, x = .ref a ∧ H1 a = some (.ins C dx fs) ∧ fs.lookup m = none ∧ t σ H1 fun vs H2 => tk σ H2 fun zs H3 => vs.length = n ∧ zs.length = l ∧ sp (gV (x :: vs) zs) H3 Q E) : tMethK C m n l sp gV E ta t tk σ H Q := q
noncomputable def tCOK (C : Addr) (l : Nat) (sp : Sp) (gV : List V → List V → List V) (E : XK) (tf : TE) (tk : TA) : TE := fun σ H Q => tf σ H fun y H1 => ∃ a, y = V.ref a ∧ tk σ H1 fun zs H2 => zs.length = l ∧ ((∃ dx vs, SlX.Slt H2 a C dx vs) ∨ ∃ dx fs, H2 a = some (.ins C dx fs)) ∧ sp (gV [V.ref a] zs) H2 Q E
theorem w_cOK {σ : L2.St} {H : Hp} {Q : VK} {l : Nat} {E : XK} (q : tf σ H fun y H1 => ∃ a, y = V.ref a ∧ tk σ H1 fun zs H2 => zs.length = l ∧ ((∃ dx vs, SlX.Slt H2 a C dx vs) ∨ ∃ dx fs, H2 a = some (.ins C dx fs)) ∧ sp (gV [V.ref a] zs) H2 Q E) : tCOK C l sp gV E tf tk σ H Q := q
end
noncomputable def spEqMd (K : PySem.W.Frag) (c : CA) : Sp := fun vs H Q _ => ∃ (a : Addr) (v : V) (ps : List (Int × Int)), vs = [.ref a, v] ∧ ModAt c H a ps ∧ ((∃ t, TyE K H v t ∧ PySem.W.kitOne K t (.ref c.md) = some false ∧ Q (.bl false) H) ∨ ∃ (b : Addr) (ps' : List (Int × Int)), v = .ref b ∧ ModAt c H b ps' ∧ Q (.bl (decide (num ps = num ps'))) H)
theorem notF {K : PySem.W.Frag} {C : Addr} : PySem.W.notFirst K C (.ref C) = true := by simp [PySem.W.notFirst]
section
variable {K : PySem.W.Frag} {mg : Str → Option Value} {c : CA} {H : Hp} {Q : VK} {a b : Addr} {ps ps' : List (Int × Int)} {y y' : Sty} {r r' : Int} {v : V} {t : Value}
theorem neMd (X : Kx K mg c) (h1 : ModAt c H a ps) (h2 : ModAt c H b ps') (q : Q (.bl (!decide (num ps = num ps'))) H) : rNeO K c.md (spEqMd K c) (.ref a) (.ref b) H Q := by
  obtain ⟨dx, tt, ts, hx, _⟩ := id h1
  obtain ⟨dx', tt', ts', hx', _⟩ := id h2
  exact ⟨a, dx, _, _, rfl, hx, .x (X.md.ty hx'), notF, a, .ref b, ps, rfl, h1, .inr ⟨b, ps', rfl, h2, _, rfl, q⟩⟩
end
end Bc
namespace Bc
open PySem PySem.Spec PyProof.Rows L2
structure InO (P : Program) (w : World) (K : PySem.W.Frag) (mg : Str → Option Value) (base : Heap) (k : Nat) (C : Addr) (sp : Sp) : Prop where
  ex : ∃ (f : Addr) (fd : FuncData) (ps : List Str), PySem.W.findIn K (.ref C) "__contains__" = some (some (.ref f)) ∧ PySem.W.isFn K (.ref f) = true ∧ FnOk P w K mg base L2.CX0 k f fd ps sp ∧ Binds K fd ps []
noncomputable def rInO (C : Addr) (sp : Sp) : R2 := fun x y H Q => ∃ a dx fs, y = .ref a ∧ H a = some (.ins C dx fs) ∧ sp [y, x] H (fun v H' => ∃ b, v = .bl b ∧ Q (.bl b) H') L2.E0
section
variable {M : Model} {A : Around} {E : Value → Shared → Prop} {s : Shared} {K : PySem.W.Frag} {x C f : Addr} {ox : Obj} {od : Option Obj}
theorem unlessNone_K {name : Str} {args : List Value} {refuse : Sem Value} {Q : Option Value → Shared → Prop} (X : K.In s.heap) (I : PySem.W.InstAt s.heap x ox C od) (hs : PySem.W.findIn K (.ref C) name = some (some (.ref f))) (hf : PySem.W.isFn K (.ref f) = true)
    (h : wpAny M A (call (.ref f) (.ref x :: args)) (fun v => Q (some v)) E s) : wpAny M A (callSpecialUnlessNone? (.ref x) name args refuse) Q E s := by
  simp only [callSpecialUnlessNone?, specialOf]
  refine wpAny_bind (wpAny_bind (I.type.here ((PySem.W.looks_findIn X hs).here ?_)))
  refine wpAny_holding (wpAny_bind ((PySem.W.bind_fn X _ (beq_iff_eq.mp hf)).here ?_))
  show wpAny M A (if ((Value.ref f) == Value.none) = true then _ else _) Q E s
  rw [if_neg (fun z => by have e := eq_of_beq z; cases e)]
  exact wpAny_bind (wpAny_mono h (fun v s' h' => wpAny_pure h') fun _ _ h' => h')
theorem contains_K {v : Value} {Q : Bool → Shared → Prop} (X : K.In s.heap) (I : PySem.W.InstAt s.heap x ox C od) (hs : PySem.W.findIn K (.ref C) "__contains__" = some (some (.ref f))) (hf : PySem.W.isFn K (.ref f) = true)
    (h : wpAny M A (call (.ref f) [.ref x, v]) (fun r s' => ∃ b, r = .bool b ∧ Q b s') E s) : wpAny M A (contains (.ref x) v) Q E s := by
  unfold contains
  refine wpAny_holding ?_
  show wpAny M A (specialOf (.ref x) "__contains__" >>= _) Q E s
  refine wpAny_bind ?_
  unfold specialOf
  refine wpAny_bind (I.type.here ((PySem.W.looks_findIn X hs).here ?_))
  show wpAny M A (if (some (Value.ref f) == some Value.none) = true then _ else _) Q E s
  rw [if_neg (fun z => by have e := eq_of_beq z; cases e)]
  refine wpAny_bind (unlessNone_K X I hs hf (wpAny_mono h (fun r s' hr => ?_) fun _ _ e => e))
  obtain ⟨b, rfl, q⟩ := hr
  exact wpAny_truthy_bool q
end
section
variable {X : Cx} {k j : Nat} {C : Addr} {sp : Sp}
theorem op_inO (c : InO X.prog X.w X.K X.mg X.base k C sp) (hr : Room j X.A) (hk : k ≤ j) : OpR X (compareOp .In) (rInO C sp) := by
  intro pins s σ H x y v u Q I rx ry h
  obtain ⟨f, fd, ps, hs, hf, F, b⟩ := c.ex
  obtain ⟨a, dx, fs, rfl, ha, q⟩ := h
  cases ry
  obtain ⟨mA, O, _⟩ := ins_get I.hok ha
  obtain ⟨od, J, _⟩ := O.look
  show wpAny (model X.prog X.w) X.A (do return .bool (← contains (.ref a) v)) (EP X pins σ Q) X.xe s
  refine wpAny_bind (contains_K I.kIn J hs hf (wpAny_mono (run_eqO F b (hr.mono hk) rfl I rx q) (fun v' s' hv => ?_) fun _ _ e => e))
  obtain ⟨z, H', I', rz, r, ez, qz⟩ := hv
  subst ez
  cases rz
  exact ⟨r, rfl, wpAny_pure ⟨.bl r, H', I', rfl, qz⟩⟩
end
theorem w_inO {C : Addr} {sp : Sp} {a dx : Addr} {fs : List (Str × V)} {x : V} {H : Hp} {Q : VK} (h : H a = some (.ins C dx fs)) (q : sp [.ref a, x] H (fun v H' => ∃ b, v = .bl b ∧ Q (.bl b) H') L2.E0) : rInO C sp x (.ref a) H Q := ⟨a, dx, fs, rfl, h, q⟩
end Bc
namespace Bc
open PySem PySem.Spec PyProof.Rows L2
noncomputable def npx : List Nat → Nat
  | [] => 1
  | p :: ps => 1 + (p + 1) * npx ps
theorem npx_pos (ps : List Nat) : 1 ≤ npx ps := by
  cases ps with
  | nil => exact Nat.le_refl _
  | cons p ps => unfold npx; omega
theorem npx_drop (ps : List Nat) : ∀ k, npx (ps.drop k) ≤ npx ps := by
  induction ps with
  | nil => intro k; rw [List.drop_nil]; exact Nat.le_refl _
  | cons p ps ih =>
    intro k
    cases k with
    | zero => exact Nat.le_refl _
    | succ k =>
      rw [List.drop_succ_cons]
      have := ih k
      have h2 : npx ps ≤ npx (p :: ps) := by
        show npx ps ≤ 1 + (p + 1) * npx ps
        rw [Nat.add_mul]
        omega
      omega
theorem npx_le {ps : List Nat} {i j : Nat} (h : i ≤ j) : npx (ps.drop j) ≤ npx (ps.drop i) := by
  have := npx_drop (ps.drop i) (j - i)
  rw [List.drop_drop, show i + (j - i) = j by omega] at this
  exact this
theorem below_up {m : Nat} {P : Nat → Nat} {t : Tab} (h : Canon m P t) {r i : Nat} (hr : r < t.length) (hi : i < m) (hp : i ≤ (rowAt t r).1) (f : Option Nat) : i < (rowAt t (belowO t r i f)).1 := by
  cases f with
  | some f => exact belowAt_pl h.wf hr hi hp
  | none =>
    show i < (rowAt t (if (rowAt t r).1 = i then (rowAt t r).2.1 else r)).1
    split
    · rename_i c
      by_cases c2 : r < 2
      · have := low_pl h.wf c2
        omega
      · obtain ⟨f, _, hf⟩ := h.us r (by omega) hr
        rw [hf]
        have := h.wf.up r (by omega) hr f
        omega
    · omega
theorem RchP.cases {one two : Tab} {h k : Nat} {p : Nat × Nat} (r : RchP one two h k p) : p = (h, k) ∨ ∃ x ∈ pbOf one two h k, RchP one two x.2.1 x.2.2 p := by
  induction r with
  | refl => exact .inl rfl
  | @step q x _ hx ih =>
    rcases ih with rfl | ⟨y, hy, ry⟩
    · exact .inr ⟨x, hx, .refl⟩
    · exact .inr ⟨y, hy, .step ry hx⟩
theorem cover_len {α β : Type} {R : β → α → Prop} {B : Nat} : ∀ {cs : List β} {l : List α}, l.Nodup → (∀ x ∈ l, ∃ c ∈ cs, R c x) → (∀ c ∈ cs, ∀ l' : List α, l'.Nodup → (∀ x ∈ l', R c x) → l'.length ≤ B) → l.length ≤ cs.length * B
  | [], [], _, _, _ => Nat.zero_le _
  | [], x :: l, _, h, _ => by
    obtain ⟨c, hc, _⟩ := h x List.mem_cons_self
    cases hc
  | c :: cs, l, hn, h, hb => by
    have : Decidable = Decidable := rfl
    classical
    have e : l.length = (l.filter fun x => decide (R c x)).length + (l.filter fun x => !decide (R c x)).length := by
      rw [← List.length_append]
      exact (List.filter_append_perm _ l).length_eq.symm
    have h1 := hb c List.mem_cons_self (l.filter fun x => decide (R c x)) (hn.filter _) fun x hx => of_decide_eq_true (List.mem_filter.mp hx).2
    have h2 := cover_len (cs := cs) (l := l.filter fun x => !decide (R c x)) (R := R) (B := B) (hn.filter _) (fun x hx => by
      obtain ⟨hx1, hx2⟩ := List.mem_filter.mp hx
      obtain ⟨c', hc', r⟩ := h x hx1
      rcases List.mem_cons.mp hc' with z | z
      · rw [z] at r
        rw [decide_eq_true r] at hx2
        cases hx2
      · exact ⟨c', z, r⟩) fun c' hc' => hb c' (List.mem_cons_of_mem _ hc')
    rw [List.length_cons, Nat.succ_mul]
    omega
theorem rb_tree {m : Nat} {P : Nat → Nat} {ps : List Nat} {one two : Tab} (h1 : Canon m P one) (h2 : Canon m P two) (hm : ps.length = m) (hP : ∀ i, i < m → ps.getD i 0 = P i) : ∀ n i h k, i + n = m → h < one.length → k < two.length → i ≤ plMin one two h k → ∀ l : List (Nat × Nat), l.Nodup → (∀ p ∈ l, RchP one two h k p) → l.length ≤ npx (ps.drop i) := by
  intro n
  induction n with
  | zero =>
    intro i h k e hh hk hi l hn hl
    have hlow := (plMin_top h1 h2 hh hk).2.mp (by have := (plMin_top h1 h2 hh hk).1; omega)
    have : l.length ≤ [(h, k)].length := nd_sub30 hn fun p hp => by
      rcases (hl p hp).cases with z | ⟨x, hx, _⟩
      · rw [z]; exact List.mem_cons_self
      · unfold pbOf at hx
        rw [if_pos hlow] at hx
        cases hx
    have := npx_pos (ps.drop i)
    simp only [List.length_cons, List.length_nil] at *
    omega
  | succ n ih =>
    intro i h k e hh hk hi l hn hl
    by_cases hc : h < 2 ∧ k < 2
    · have : l.length ≤ [(h, k)].length := nd_sub30 hn fun p hp => by
        rcases (hl p hp).cases with z | ⟨x, hx, _⟩
        · rw [z]; exact List.mem_cons_self
        · unfold pbOf at hx
          rw [if_pos hc] at hx
          cases hx
      have := npx_pos (ps.drop i)
      simp only [List.length_cons, List.length_nil] at *
      omega
    · by_cases hi2 : i + 1 ≤ plMin one two h k
      · exact Nat.le_trans (ih (i + 1) h k (by omega) hh hk hi2 l hn hl) (npx_le (Nat.le_succ _))
      have hpl : plMin one two h k = i := by omega
      have him : i < m := by omega
      have pa : i ≤ (rowAt one h).1 := by rw [← hpl]; exact Nat.min_le_left _ _
      have pb : i ≤ (rowAt two k).1 := by rw [← hpl]; exact Nat.min_le_right _ _
      have key := cover_len (R := fun (c : Nat × Nat) p => RchP one two c.1 c.2 p) (B := npx (ps.drop (i + 1))) (cs := (none :: (List.range (P i)).map some).map (bpair one two h k i)) (l := l.filter fun p => decide (p ≠ (h, k))) (hn.filter _) (fun p hp => by
        obtain ⟨hp1, hp2⟩ := List.mem_filter.mp hp
        rcases (hl p hp1).cases with z | ⟨x, hx, r⟩
        · exact absurd z (of_decide_eq_true hp2)
        · refine ⟨x.2, ?_, r⟩
          rw [(pb_mem hx).1, hpl]
          refine List.mem_map_of_mem ?_
          cases hf : x.1 with
          | none => exact List.mem_cons_self
          | some f =>
            have := figs_lt h1 h2 hh hk hx hf
            rw [hpl] at this
            exact List.mem_cons_of_mem _ (List.mem_map_of_mem (List.mem_range.mpr this))) fun c hcm l' hn' hl' => by
        obtain ⟨f, _, rfl⟩ := List.mem_map.mp hcm
        refine ih (i + 1) _ _ (by omega) (h1.below_lt hh him f) (h2.below_lt hk him f) ?_ l' hn' hl'
        have a := below_up h1 hh him pa f
        have b := below_up h2 hk him pb f
        show i + 1 ≤ min (rowAt one (belowO one h i f)).1 (rowAt two (belowO two k i f)).1
        omega
      rw [List.length_map, List.length_cons, List.length_map, List.length_range] at key
      have hle : l.length ≤ (l.filter fun p => decide (p ≠ (h, k))).length + 1 := by
        have e2 : l.length = (l.filter fun p => decide (p ≠ (h, k))).length + (l.filter fun p => !decide (p ≠ (h, k))).length := by
          rw [← List.length_append]
          exact (List.filter_append_perm _ l).length_eq.symm
        have : (l.filter fun p => !decide (p ≠ (h, k))).length ≤ [(h, k)].length := nd_sub30 (hn.filter _) fun p hp => by
          have := (List.mem_filter.mp hp).2
          have hz : p = (h, k) := by simpa using this
          rw [hz]; exact List.mem_cons_self
        simp only [List.length_cons, List.length_nil] at this
        omega
      rw [List.drop_eq_getElem_cons (by omega)]
      have hPi := hP i him
      rw [List.getD_eq_getElem?_getD, List.getElem?_eq_getElem (by omega)] at hPi
      have hPi : ps[i] = P i := hPi
      show l.length ≤ 1 + (ps[i] + 1) * npx (ps.drop (i + 1))
      rw [hPi]
      omega
/-- whatever two tables over these figures: so many pairs at most -/
noncomputable def RBA (F : List (Nat × Nat)) (N : Nat) : Prop := ∀ (one two : Tab) (h k : Nat), Canon F.length (pF F) one → Canon F.length (pF F) two → h < one.length → k < two.length → RB one two h k N
theorem rba (F : List (Nat × Nat)) : RBA F (npx (F.map (·.1))) := fun one two h k h1 h2 hh hk l hn hl => by
  have := rb_tree h1 h2 (ps := F.map (·.1)) (by rw [List.length_map]) (fun i _ => rfl) F.length 0 h k (Nat.zero_add _) hh hk (Nat.zero_le _) l hn hl
  exact this
/-- a list or a tuple of classes -/
noncomputable def ClsL (K : PySem.W.Frag) (H : Hp) (l : Addr) (cs : List (Int × Int)) : Prop := ∃ ts : List Addr, (H l = some (.lst (ts.map V.ref)) ∨ H l = some (.tup (ts.map V.ref))) ∧ Paired (Tp H) cs ts
theorem ClsL.same {K : PySem.W.Frag} {H H' : Hp} {l : Addr} {cs : List (Int × Int)} (h : ClsL K H l cs) (s : Same H H') : ClsL K H' l cs := by
  obtain ⟨ts, h1, h2⟩ := h
  exact ⟨ts, h1.imp (s _ _) (s _ _), paired_imp (fun _ _ z => s _ _ z) h2⟩
/-- an integer's figures lie in one of the classes -/
noncomputable def InCls (F : List (Nat × Nat)) (cs : List (Int × Int)) (d : Nat → Nat) : Prop := ∃ c ∈ cs, ∀ j, j < F.length → onW F c.2 j = true → d j = dig F c.1 j
/-- rows of a set in the one form: settled from a table in which each row stands once -/
structure SetF (F : List (Nat × Nat)) (N : Nat) (u : Tab) (n : Nat) : Prop where
  can : Canon F.length (pF F) u
  lt : n < u.length
  len : u.length ≤ N + 2
  st : ∃ (t : Tab) (r : Nat), Canon F.length (pF F) t ∧ r < t.length ∧ Settled t r u n
theorem SetF.same {F : List (Nat × Nat)} {N N' : Nat} {u v : Tab} {n k : Nat} (hF : FgOk F) (a : SetF F N u n) (b : SetF F N' v k) (h : ∀ d, Val F.length (pF F) d → sem u n d = sem v k d) : u = v ∧ n = k := by
  obtain ⟨t, r, c1, l1, s1⟩ := a.st
  obtain ⟨t', r', c2, l2, s2⟩ := b.st
  obtain ⟨_, _, e1, _⟩ := s1.facts c1 l1
  obtain ⟨_, _, e2, _⟩ := s2.facts c2 l2
  obtain ⟨k1, w1, u1, n1⟩ := s1.run
  obtain ⟨k2, w2, u2, n2⟩ := s2.run
  obtain ⟨q1, q2⟩ := settle_same c1 c2 hF.pos l1 l2 (fun d hd => by rw [← e1, ← e2]; exact h d hd) w1 w2
  rw [n1, n2] at q2
  exact ⟨by rw [u1, u2, q1], Option.some.inj q2⟩
structure KRw (K : PySem.W.Frag) (mg : Str → Option Value) (Cr : Addr) : Prop where
  cl : ClsF K Cr
  mgR : mg "Rows" = some (.ref Cr)
  rows : NoAttr K Cr "rows"
  root : NoAttr K Cr "root"
noncomputable def rwF (ta : Addr) (n : Nat) : List (Str × V) := [("rows", .ref ta), ("root", .int (n : Int))]
noncomputable def RwAt (Cr : Addr) (H : Hp) (o : Addr) (u : Tab) (n : Nat) : Prop := ∃ dx ta, H o = some (.ins Cr dx (rwF ta n)) ∧ TabT H ta u
theorem RwAt.same {Cr : Addr} {H H' : Hp} {o : Addr} {u : Tab} {n : Nat} (h : RwAt Cr H o u n) (s : Same H H') : RwAt Cr H' o u n := by
  obtain ⟨dx, ta, h1, h2⟩ := h
  exact ⟨dx, ta, s _ _ h1, h2.same s⟩
noncomputable def spRwInit (Cr : Addr) : Sp := fun vs H Q _ => ∃ (o dx ta : Addr) (u : Tab) (n : Nat), vs = [.ref o, .ref ta, .int (n : Int)] ∧ H o = some (.ins Cr dx []) ∧ TabT H ta u ∧ ∀ H', (∀ b o', b ≠ o → H b = some o' → H' b = some o') → RwAt Cr H' o u n → Q .non H'
theorem use_rw {Cr : Addr} {H : Hp} {PP : Addr → Hp → Prop} {E : XK} {ta : Addr} {u : Tab} {n : Nat} (ht : TabT H ta u) (q : ∀ o H', H o = none → Same H H' → RwAt Cr H' o u n → PP o H') :
    ∀ o dx, H o = none → H dx = none → dx ≠ o → spRwInit Cr [.ref o, .ref ta, .int (n : Int)] (L2.upd (L2.upd H dx (.own o)) o (.ins Cr dx [])) (fun v H2 => v = .non ∧ PP o H2) E := fun o dx no nd ne => by
  have up : Same H (L2.upd (L2.upd H dx (.own o)) o (.ins Cr dx [])) := fun b o' e => by rw [L2.upd_ne (new_ne e no).symm, L2.upd_ne (new_ne e nd).symm]; exact e
  exact ⟨o, dx, ta, u, n, rfl, L2.upd_same, ht.same up, fun H' k h => ⟨rfl, q o H' no (fun b o' e => k b o' (new_ne e no).symm (up _ _ e)) h⟩⟩
noncomputable def spMerged (K : PySem.W.Frag) (Cr : Addr) : Sp := fun vs H Q _ => ∃ (fa l : Addr) (F : List (Nat × Nat)) (cs : List (Int × Int)) (N : Nat), vs = [.ref fa, .ref l] ∧ FigL H fa F ∧ FgOk F ∧ RBA F N ∧ F.length ≤ N ∧ N ≤ 100000 ∧ ClsL K H l cs ∧
  ∀ H' o u n, H o = none → Same H H' → RwAt Cr H' o u n → SetF F N u n → (∀ d, Val F.length (pF F) d → (sem u n d = true ↔ InCls F cs d)) → Q (.ref o) H'
noncomputable def spIsCls : Sp := fun vs H Q _ => ∃ (t : Addr) (r w n : Int), vs = [.ref t, .int n] ∧ H t = some (.tup [.int r, .int w]) ∧ 0 < w ∧ n % w = 0 ∧ Q (.bl true) H
noncomputable def spReqCls (K : PySem.W.Frag) : Sp := fun vs H Q _ => ∃ (l : Addr) (n : Int) (cs : List (Int × Int)), vs = [.ref l, .int n] ∧ ClsL K H l cs ∧ cs.length ≤ 100000 ∧ (∀ c ∈ cs, 0 < c.2 ∧ n % c.2 = 0) ∧ ∀ H', Same H H' → Q .non H'
end Bc
namespace Bc
open PySem PySem.Spec PyProof.Rows L2
noncomputable def ledM (n m : Int) : Int := n / (Int.gcd n m : Int) * m
noncomputable def OkLed (r n r' n' : Int) : Option Int → Prop
  | none => ¬ (r' - r) % (Int.gcd n n' : Int) = 0
  | some z => (r' - r) % (Int.gcd n n' : Int) = 0 ∧ 0 ≤ z ∧ z < ledM n n' ∧ n ∣ z - r ∧ n' ∣ z - r'
theorem gcd_pos' {n m : Int} (hn : 0 < n) : 0 < (Int.gcd n m : Int) := by
  have : Int.gcd n m ≠ 0 := fun z => by
    have := (Int.gcd_eq_zero_iff.mp z).1
    omega
  omega
theorem ledM_eq {n m : Int} (hn : 0 < n) (hm : 0 < m) : ∃ a b : Int, n = Int.gcd n m * a ∧ m = Int.gcd n m * b ∧ 0 < a ∧ 0 < b ∧ n / (Int.gcd n m : Int) = a ∧ m / (Int.gcd n m : Int) = b ∧ ledM n m = a * m ∧ ledM n m = n * b ∧ 0 < ledM n m := by
  have g0 := gcd_pos' (m := m) hn
  obtain ⟨a, ha⟩ := Int.gcd_dvd_left (a := n) (b := m)
  obtain ⟨b, hb⟩ := Int.gcd_dvd_right (a := n) (b := m)
  unfold ledM
  generalize (Int.gcd n m : Int) = g at *
  have a0 : 0 < a := by
    rcases Int.lt_or_le 0 a with h | h
    · exact h
    · have := Int.mul_le_mul_of_nonneg_left h (Int.le_of_lt g0)
      rw [Int.mul_zero, ← ha] at this
      omega
  have b0 : 0 < b := by
    rcases Int.lt_or_le 0 b with h | h
    · exact h
    · have := Int.mul_le_mul_of_nonneg_left h (Int.le_of_lt g0)
      rw [Int.mul_zero, ← hb] at this
      omega
  have e1 : n / g = a := by rw [ha]; exact Int.mul_ediv_cancel_left _ (by omega)
  have e2 : m / g = b := by rw [hb]; exact Int.mul_ediv_cancel_left _ (by omega)
  refine ⟨a, b, ha, hb, a0, b0, e1, e2, by rw [e1], ?_, ?_⟩
  · rw [e1, hb, ha, ← Int.mul_assoc, Int.mul_comm a g]
  · rw [e1]
    exact Int.mul_pos a0 hm
theorem led_cop {n m : Int} (hn : 0 < n) (hm : 0 < m) : Int.gcd (n / (Int.gcd n m : Int)) (m / (Int.gcd n m : Int)) = 1 := by
  have g0 := gcd_pos' (m := m) hn
  rw [Int.gcd_ediv (Int.gcd_dvd_left ..) (Int.gcd_dvd_right ..), Int.natAbs_natCast]
  exact Nat.div_self (by omega)
theorem led_least {n m x : Int} (hn : 0 < n) (hm : 0 < m) (h1 : n ∣ x) (h2 : m ∣ x) : ledM n m ∣ x := by
  obtain ⟨a, b, ha, hb, a0, b0, e1, e2, e3, e4, _⟩ := ledM_eq hn hm
  have hc := led_cop hn hm
  rw [e1, e2] at hc
  have g0 := gcd_pos' (m := m) hn
  generalize (Int.gcd n m : Int) = g at *
  obtain ⟨u, hu⟩ := h1
  have h3 : b ∣ a * u := by
    obtain ⟨v, hv⟩ := h2
    refine ⟨v, ?_⟩
    have : g * (a * u) = g * (b * v) := by rw [← Int.mul_assoc, ← Int.mul_assoc, ← ha, ← hb, ← hu, ← hv]
    exact Int.eq_of_mul_eq_mul_left (by omega) this
  have h4 : b ∣ u := by
    rw [← Int.natAbs_dvd_natAbs, Int.natAbs_mul] at h3
    exact Int.natAbs_dvd_natAbs.mp (Nat.Coprime.dvd_of_dvd_mul_left (show Nat.Coprime b.natAbs a.natAbs from (Nat.gcd_comm _ _).trans hc) h3)
  obtain ⟨w, hw⟩ := h4
  exact ⟨w, by rw [hu, hw, e4, Int.mul_assoc]⟩
theorem led_ok {r n r' n' i d : Int} (hn : 0 < n) (hn' : 0 < n') (h : (r' - r) % (Int.gcd n n' : Int) = 0) (hi : n / (Int.gcd n n' : Int) * i % (n' / (Int.gcd n n' : Int)) = 1 % (n' / (Int.gcd n n' : Int))) (hd : d = (r' - r) / (Int.gcd n n' : Int)) :
    OkLed r n r' n' (some ((r + n * (d * i)) % ledM n n')) := by
  obtain ⟨a, b, ha, hb, a0, b0, e1, e2, e3, e4, hL⟩ := ledM_eq hn hn'
  have g0 := gcd_pos' (m := n') hn
  refine ⟨h, Int.emod_nonneg _ (by omega), Int.emod_lt_of_pos _ hL, ?_, ?_⟩
  · have : ledM n n' ∣ (r + n * (d * i)) % ledM n n' - (r + n * (d * i)) := ⟨-((r + n * (d * i)) / ledM n n'), by have := Int.mul_ediv_add_emod (r + n * (d * i)) (ledM n n'); rw [Int.mul_neg]; omega⟩
    have h1 := Int.dvd_trans ⟨b, e4⟩ this
    have h2 := Int.dvd_add h1 (Int.dvd_mul_right n (d * i))
    rwa [show (r + n * (d * i)) % ledM n n' - (r + n * (d * i)) + n * (d * i) = (r + n * (d * i)) % ledM n n' - r by omega] at h2
  · have : ledM n n' ∣ (r + n * (d * i)) % ledM n n' - (r + n * (d * i)) := ⟨-((r + n * (d * i)) / ledM n n'), by have := Int.mul_ediv_add_emod (r + n * (d * i)) (ledM n n'); rw [Int.mul_neg]; omega⟩
    have h1 := Int.dvd_trans ⟨a, by rw [e3, Int.mul_comm]⟩ this
    have hr : r' - r = (Int.gcd n n' : Int) * d := by rw [hd, Int.mul_ediv_cancel' (Int.dvd_of_emod_eq_zero h)]
    rw [e1, e2] at hi
    have hk : b ∣ a * i - 1 := Int.dvd_of_emod_eq_zero (Int.emod_eq_emod_iff_emod_sub_eq_zero.mp hi)
    obtain ⟨k, hk⟩ := hk
    have h2 : n' ∣ r + n * (d * i) - r' := by
      refine ⟨d * k, ?_⟩
      have e : n * (d * i) = (Int.gcd n n' : Int) * d * (a * i) := by
        conv => lhs; rw [ha]
        simp only [Int.mul_assoc, Int.mul_left_comm, Int.mul_comm]
      have e5 : n' * (d * k) = (Int.gcd n n' : Int) * d * (b * k) := by
        conv => lhs; rw [hb]
        simp only [Int.mul_assoc, Int.mul_left_comm, Int.mul_comm]
      rw [e, e5, ← hk, Int.mul_sub, Int.mul_one, ← hr]
      omega
    have h3 := Int.dvd_add h1 h2
    rwa [show (r + n * (d * i)) % ledM n n' - (r + n * (d * i)) + (r + n * (d * i) - r') = (r + n * (d * i)) % ledM n n' - r' by omega] at h3
noncomputable def optV : Option Int → V
  | none => .non
  | some z => .int z
noncomputable def spLed : Sp := fun vs H Q _ => ∃ (r n r' n' : Int), vs = [.int r, .int n, .int r', .int n'] ∧ 0 < n ∧ 0 < n' ∧ n.natAbs < 2 ^ 200 ∧ n'.natAbs < 2 ^ 200 ∧ r.natAbs < 2 ^ 200 ∧ r'.natAbs < 2 ^ 200 ∧
  ∀ (p : Addr) (H' : Hp) (o : Option Int), Same H H' → OkLed r n r' n' o → H' p = some (.tup [optV o, .int (ledM n n')]) → Q (.ref p) H'
end Bc
namespace Bc
open PySem PySem.Spec PyProof.Rows L2
noncomputable def wt (F : List (Nat × Nat)) (i : Nat) : Nat := (F.map (·.2)).getD i 0
theorem wt_at {F : List (Nat × Nat)} {i : Nat} {e : Nat × Nat} (h : F[i]? = some e) : wt F i = e.2 := by
  unfold wt
  rw [List.getD_eq_getElem?_getD, List.getElem?_map, h]
  rfl
/-- figures of several primes, one prime behind the other -/
structure FgC (F : List (Nat × Nat)) (N : Int) : Prop where
  dv : ∀ i, i < F.length → ((wt F i : Int) * (pF F i : Int)) ∣ N
  nx : ∀ i, i + 1 < F.length → (pF F (i + 1) = pF F i ∧ wt F (i + 1) = wt F i * pF F i) ∨ (wt F (i + 1) = 1 ∧ pF F (i + 1) ≠ pF F i)
  cp : ∀ i j, i < j → j < F.length → wt F j = 1 → Int.gcd (pF F i : Int) (pF F j : Int) = 1
  st : 0 < F.length → wt F 0 = 1
/-- the figure can be told within a class -/
noncomputable def Af (F : List (Nat × Nat)) (i : Nat) (w : Int) : Prop := (wt F i : Int) ∣ w ∧ (Int.gcd w ((wt F i : Int) * (pF F i : Int)) : Int) = (wt F i : Int)
structure SigOk (F : List (Nat × Nat)) (t : Tab) (nr i : Nat) (r w N : Int) : Prop where
  r0 : 0 ≤ r
  r1 : r < w
  wN : w ∣ N
  p1 : ∀ j, i ≤ j → j < F.length → wt F j = 1 → Int.gcd w (pF F j : Int) = 1
  p2 : i < F.length → 2 ≤ nr → pF F (rowAt t nr).1 = pF F i → Af F i w
section
variable {F : List (Nat × Nat)} {t : Tab} {nr i : Nat} {r w N : Int}
theorem Af.first (h : wt F i = 1) (hg : Int.gcd w (pF F i : Int) = 1) : Af F i w := by
  unfold Af
  rw [h]
  refine ⟨Int.one_dvd _, ?_⟩
  rw [show ((1 : Nat) : Int) * (pF F i : Int) = (pF F i : Int) by omega, hg]
theorem SigOk.skip (C : FgC F N) (S : SigOk F t nr i r w N) (h : i + 1 < F.length → pF F (rowAt t nr).1 ≠ pF F i) : SigOk F t nr (i + 1) r w N := by
  refine ⟨S.r0, S.r1, S.wN, fun j hj => S.p1 j (by omega), fun hi h2 he => ?_⟩
  rcases C.nx i hi with ⟨a, _⟩ | ⟨a, _⟩
  · exact absurd (by rw [he, a]) (h hi)
  · exact .first a (S.p1 _ (by omega) hi a)
theorem SigOk.usual (S : SigOk F t nr i r w N) {us : Nat} (h : 2 ≤ us → i < F.length → pF F (rowAt t us).1 ≠ pF F i) : SigOk F t us i r w N :=
  ⟨S.r0, S.r1, S.wN, S.p1, fun hi h2 he => absurd he (h h2 hi)⟩
/-- a figure told: the class within -/
theorem tell_fig (hF : FgOk F) (C : FgC F N) (S : SigOk F t nr i r w N) (hi : i < F.length) (A : Af F i w) {f : Nat} (hf : f < pF F i) {o : Option Int} (ho : OkLed r w (r % (wt F i : Int) + (f : Int) * (wt F i : Int)) ((wt F i : Int) * (pF F i : Int)) o) :
    ∃ z, o = some z ∧ ledM w ((wt F i : Int) * (pF F i : Int)) = w * (pF F i : Int) ∧ (∀ nr', SigOk F t nr' (i + 1) z (w * (pF F i : Int)) N) ∧ ∀ x : Int, (x - z) % (w * (pF F i : Int)) = 0 ↔ (x - r) % w = 0 ∧ dig F x i = f := by
  have hx : F[i]? = some F[i] := List.getElem?_eq_getElem hi
  obtain ⟨g1, g2, g3, g4⟩ := hF.e _ (List.mem_of_getElem? hx)
  have hp := pF_at hx
  have hw := wt_at hx
  have hd : ∀ x : Int, dig F x i = (x / (wt F i : Int) % (pF F i : Int)).toNat := fun x => by rw [dig_at hx, hw, hp]
  rw [← hp] at g1 g2
  rw [← hw] at g3
  have p0 : (0 : Int) < (pF F i : Int) := by omega
  have t0 : (0 : Int) < (wt F i : Int) := by omega
  have w0 : 0 < w := by have := S.r0; have := S.r1; omega
  have n0 : (0 : Int) < (wt F i : Int) * (pF F i : Int) := Int.mul_pos t0 p0
  have hA1 := A.1
  have hA2 := A.2
  have hM : ledM w ((wt F i : Int) * (pF F i : Int)) = w * (pF F i : Int) := by
    unfold ledM
    rw [hA2]
    obtain ⟨q, hq⟩ := hA1
    rw [hq, Int.mul_ediv_cancel_left _ (by omega), Int.mul_comm (wt F i : Int) q, Int.mul_assoc]
  have hsub : (wt F i : Int) ∣ r % (wt F i : Int) + (f : Int) * (wt F i : Int) - r := by
    have e := Int.mul_ediv_add_emod r (wt F i : Int)
    refine ⟨(f : Int) - r / (wt F i : Int), ?_⟩
    rw [Int.mul_sub, Int.mul_comm (wt F i : Int) (f : Int)]
    omega
  cases o with
  | none =>
    exfalso
    have ho : ¬ (r % (wt F i : Int) + (f : Int) * (wt F i : Int) - r) % (Int.gcd w ((wt F i : Int) * (pF F i : Int)) : Int) = 0 := ho
    rw [hA2] at ho
    exact ho (Int.emod_eq_zero_of_dvd hsub)
  | some z =>
    obtain ⟨_, z0, z1, d1, d2⟩ := ho
    rw [hM] at z1
    have hwp : w * (pF F i : Int) ∣ N := by
      rw [← hM]
      exact led_least w0 n0 S.wN (C.dv i hi)
    refine ⟨z, rfl, hM, fun nr' => ⟨z0, z1, hwp, fun j hj hjl hj1 => ?_, fun hi1 _ he => ?_⟩, fun x => ?_⟩
    · have h1 := S.p1 j (by omega) hjl hj1
      have h2 := C.cp i j (by omega) hjl hj1
      rw [Int.gcd_comm] at h1 h2 ⊢
      exact Int.gcd_mul_right_right_of_gcd_eq_one h1 |>.trans h2
    · rcases C.nx i hi1 with ⟨a, b⟩ | ⟨a, b⟩
      · unfold Af
        rw [a, b]
        refine ⟨?_, ?_⟩
        · rw [Int.natCast_mul]
          exact Int.mul_dvd_mul_right _ hA1
        · rw [Int.natCast_mul, show w * (pF F i : Int) = (pF F i : Int) * w from Int.mul_comm _ _, show (wt F i : Int) * (pF F i : Int) * (pF F i : Int) = (pF F i : Int) * ((wt F i : Int) * (pF F i : Int)) from Int.mul_comm _ _, Int.gcd_mul_left, Int.natCast_mul, hA2, Int.natAbs_natCast]
          exact Int.mul_comm _ _
      · refine .first a ?_
        have h1 := S.p1 (i + 1) (by omega) hi1 a
        have h2 := C.cp i (i + 1) (by omega) hi1 a
        rw [Int.gcd_comm] at h1 h2 ⊢
        exact Int.gcd_mul_right_right_of_gcd_eq_one h1 |>.trans h2
    · -- the class within
      have hz : (x - z) % (w * (pF F i : Int)) = 0 ↔ w ∣ x - z ∧ (wt F i : Int) * (pF F i : Int) ∣ x - z := by
        constructor
        · intro h
          have h := Int.dvd_of_emod_eq_zero h
          refine ⟨Int.dvd_trans ⟨_, rfl⟩ h, Int.dvd_trans ?_ h⟩
          exact Int.mul_dvd_mul_right _ hA1
        · rintro ⟨a, b⟩
          refine Int.emod_eq_zero_of_dvd ?_
          rw [← hM]
          exact led_least w0 n0 a b
      have e1 : w ∣ x - z ↔ (x - r) % w = 0 := by
        constructor
        · intro h
          refine Int.emod_eq_zero_of_dvd ?_
          have := Int.dvd_add h d1
          rwa [show x - z + (z - r) = x - r by omega] at this
        · intro h
          have := Int.dvd_sub (Int.dvd_of_emod_eq_zero h) d1
          rwa [show x - r - (z - r) = x - z by omega] at this
      have e2 : (wt F i : Int) * (pF F i : Int) ∣ x - z ↔ (wt F i : Int) * (pF F i : Int) ∣ x - (r % (wt F i : Int) + (f : Int) * (wt F i : Int)) := by
        constructor
        · intro h
          have := Int.dvd_add h d2
          rwa [show x - z + (z - (r % (wt F i : Int) + (f : Int) * (wt F i : Int))) = x - (r % (wt F i : Int) + (f : Int) * (wt F i : Int)) by omega] at this
        · intro h
          have := Int.dvd_sub h d2
          rwa [show x - (r % (wt F i : Int) + (f : Int) * (wt F i : Int)) - (z - (r % (wt F i : Int) + (f : Int) * (wt F i : Int))) = x - z by omega] at this
      rw [hz, e1, e2]
      refine and_congr_right fun h => ?_
      have hxr : x % (wt F i : Int) = r % (wt F i : Int) := by
        have := Int.dvd_trans hA1 (Int.dvd_of_emod_eq_zero h)
        exact Int.emod_eq_emod_iff_emod_sub_eq_zero.mpr (Int.emod_eq_zero_of_dvd this)
      have ex := Int.mul_ediv_add_emod x (wt F i : Int)
      have e3 : x - (r % (wt F i : Int) + (f : Int) * (wt F i : Int)) = (wt F i : Int) * (x / (wt F i : Int) - (f : Int)) := by
        rw [Int.mul_sub, Int.mul_comm (wt F i : Int) (f : Int)]
        omega
      rw [e3, hd x]
      have b0 := Int.emod_nonneg (x / (wt F i : Int)) (show (pF F i : Int) ≠ 0 by omega)
      have b1 := Int.emod_lt_of_pos (x / (wt F i : Int)) p0
      have ff : (f : Int) % (pF F i : Int) = (f : Int) := Int.emod_eq_of_lt (Int.natCast_nonneg _) (by omega)
      have key : (pF F i : Int) ∣ x / (wt F i : Int) - (f : Int) ↔ x / (wt F i : Int) % (pF F i : Int) = (f : Int) := by
        constructor
        · intro hdv
          have := Int.emod_eq_emod_iff_emod_sub_eq_zero.mpr (Int.emod_eq_zero_of_dvd hdv)
          rwa [ff] at this
        · intro he
          exact Int.dvd_of_emod_eq_zero (Int.emod_eq_emod_iff_emod_sub_eq_zero.mp (by rw [he, ff]))
      rw [show ((wt F i : Int) * (pF F i : Int) ∣ (wt F i : Int) * (x / (wt F i : Int) - (f : Int))) ↔ (pF F i : Int) ∣ x / (wt F i : Int) - (f : Int) from ⟨fun h => Int.dvd_of_mul_dvd_mul_left (by omega) h, fun h => Int.mul_dvd_mul_left _ h⟩, key]
      generalize x / (wt F i : Int) % (pF F i : Int) = Y at *
      omega
end
theorem prcop30 {p q : Int} (hp : Pr p) (hq : Pr q) (h : p < q) : Int.gcd p q = 1 := by
  have := cop_num hp 1 (ps := [(q, 1)]) fun x hx => by
    rw [List.mem_singleton.mp hx]
    exact ⟨h, by show (0 : Int) < 1; decide, hq⟩
  rw [numN_cons, Nat.pow_one] at this
  have e : numN ([] : List (Int × Int)) = 1 := rfl
  rw [e, Nat.mul_one, show q.natAbs ^ ((1 : Int).toNat) = q.natAbs from Nat.pow_one _] at this
  exact this
theorem figs_left {q : Int × Int} {r : List (Int × Int)} {i : Nat} (h : i < q.2.toNat) : (figs30 (q :: r))[i]? = some (q.1.toNat, q.1.toNat ^ i) := by
  unfold figs30
  rw [List.flatMap_cons, List.getElem?_append_left (by rw [List.length_map, List.length_range]; exact h), List.getElem?_map, List.getElem?_range h]
  rfl
theorem figs_right {q : Int × Int} {r : List (Int × Int)} {i : Nat} (h : q.2.toNat ≤ i) : (figs30 (q :: r))[i]? = (figs30 r)[i - q.2.toNat]? := by
  unfold figs30
  rw [List.flatMap_cons, List.getElem?_append_right (by rw [List.length_map, List.length_range]; exact h), List.length_map, List.length_range]
theorem figs_len {q : Int × Int} {r : List (Int × Int)} : (figs30 (q :: r)).length = q.2.toNat + (figs30 r).length := by
  unfold figs30
  rw [List.flatMap_cons, List.length_append, List.length_map, List.length_range]
theorem wt_get {F : List (Nat × Nat)} {i : Nat} {o : Option (Nat × Nat)} (h : F[i]? = o) : wt F i = (o.map (·.2)).getD 0 := by
  unfold wt
  rw [List.getD_eq_getElem?_getD, List.getElem?_map, h]
theorem pF_get {F : List (Nat × Nat)} {i : Nat} {o : Option (Nat × Nat)} (h : F[i]? = o) : pF F i = (o.map (·.1)).getD 0 := by
  unfold pF
  rw [List.getD_eq_getElem?_getD, List.getElem?_map, h]
theorem figs_prime : ∀ {l : Int} {ps : List (Int × Int)}, Asc l ps → ∀ i, i < (figs30 ps).length → ∃ q ∈ ps, l < q.1 ∧ Pr q.1 ∧ pF (figs30 ps) i = q.1.toNat
  | _, [], _, i, h => absurd h (Nat.not_lt_zero _)
  | l, q :: r, ha, i, h => by
    obtain ⟨a1, a2, a3, a4⟩ := ha
    by_cases c : i < q.2.toNat
    · exact ⟨q, List.mem_cons_self, a1, a3, pF_at (figs_left c)⟩
    · rw [figs_len] at h
      obtain ⟨q', h1, h2, h3, h4⟩ := figs_prime a4 (i - q.2.toNat) (by omega)
      refine ⟨q', List.mem_cons_of_mem _ h1, by omega, h3, ?_⟩
      rw [← h4, pF_get (figs_right (by omega)), pF_get rfl]
theorem figs_c : ∀ {l : Int} {ps : List (Int × Int)}, 0 ≤ l → Asc l ps → FgC (figs30 ps) (num ps)
  | _, [], _, _ => ⟨fun i h => absurd h (Nat.not_lt_zero _), fun i h => absurd h (Nat.not_lt_zero _), fun i j _ h => absurd h (Nat.not_lt_zero _), fun h => absurd h (Nat.lt_irrefl _)⟩
  | l, q :: r, hl, ha => by
    obtain ⟨a1, a2, a3, a4⟩ := id ha
    have q0 : 1 < q.1 := a3.1
    have ih := figs_c (l := q.1) (ps := r) (by omega) a4
    have hk : 0 < q.2.toNat := by omega
    have tq : ((q.1.toNat : Nat) : Int) = q.1 := Int.toNat_of_nonneg (by omega)
    have wl : ∀ {i}, i < q.2.toNat → wt (figs30 (q :: r)) i = q.1.toNat ^ i ∧ pF (figs30 (q :: r)) i = q.1.toNat := fun c => ⟨wt_at (figs_left c), pF_at (figs_left c)⟩
    have wr : ∀ {i}, q.2.toNat ≤ i → wt (figs30 (q :: r)) i = wt (figs30 r) (i - q.2.toNat) ∧ pF (figs30 (q :: r)) i = pF (figs30 r) (i - q.2.toNat) := fun c => ⟨by rw [wt_get (figs_right c), wt_get rfl], by rw [pF_get (figs_right c), pF_get rfl]⟩
    refine ⟨fun i h => ?_, fun i h => ?_, fun i j hij h h1 => ?_, fun _ => ?_⟩
    · rw [figs_len] at h
      rw [num_cons]
      by_cases c : i < q.2.toNat
      · obtain ⟨e1, e2⟩ := wl c
        rw [e1, e2, Int.natCast_pow, tq, ← Int.pow_succ]
        refine Int.dvd_trans ?_ (Int.dvd_mul_right _ _)
        exact ⟨q.1 ^ (q.2.toNat - (i + 1)), by rw [← Int.pow_add]; congr 1; omega⟩
      · obtain ⟨e1, e2⟩ := wr (by omega : q.2.toNat ≤ i)
        rw [e1, e2]
        exact Int.dvd_trans (ih.dv _ (by omega)) (Int.dvd_mul_left _ _)
    · rw [figs_len] at h
      by_cases c : i + 1 < q.2.toNat
      · obtain ⟨e1, e2⟩ := wl (by omega : i < q.2.toNat)
        obtain ⟨e3, e4⟩ := wl c
        rw [e1, e2, e3, e4, Nat.pow_succ]
        exact .inl ⟨rfl, rfl⟩
      · by_cases c2 : i < q.2.toNat
        · obtain ⟨e1, e2⟩ := wl c2
          obtain ⟨e3, e4⟩ := wr (by omega : q.2.toNat ≤ i + 1)
          have hz : i + 1 - q.2.toNat = 0 := by omega
          rw [hz] at e3 e4
          rw [e2, e3, e4]
          refine .inr ⟨ih.st (by omega), fun e => ?_⟩
          obtain ⟨q', _, h2, h3, h4⟩ := figs_prime a4 0 (by omega)
          rw [h4] at e
          have := h3.1
          omega
        · obtain ⟨e1, e2⟩ := wr (by omega : q.2.toNat ≤ i)
          obtain ⟨e3, e4⟩ := wr (by omega : q.2.toNat ≤ i + 1)
          rw [e1, e2, e3, e4, show i + 1 - q.2.toNat = i - q.2.toNat + 1 by omega]
          exact ih.nx _ (by omega)
    · rw [figs_len] at h
      by_cases c : j < q.2.toNat
      · exfalso
        obtain ⟨e1, _⟩ := wl c
        rw [e1] at h1
        have : 1 < q.1.toNat ^ j := Nat.one_lt_pow (by omega) (by omega)
        omega
      · obtain ⟨e1, e2⟩ := wr (by omega : q.2.toNat ≤ j)
        rw [e1] at h1
        by_cases c2 : i < q.2.toNat
        · obtain ⟨_, e4⟩ := wl c2
          rw [e2, e4]
          obtain ⟨q', _, h2, h3, h4⟩ := figs_prime a4 (j - q.2.toNat) (by omega)
          rw [h4, tq, Int.toNat_of_nonneg (by have := h3.1; omega)]
          exact prcop30 a3 h3 h2
        · obtain ⟨_, e4⟩ := wr (by omega : q.2.toNat ≤ i)
          rw [e2, e4]
          exact ih.cp _ _ (by omega) (by omega) h1
    · rw [(wl hk).1]
      rfl
noncomputable def inC (r w x : Int) : Bool := decide ((x - r) % w = 0)
structure SgRes (F : List (Nat × Nat)) (t : Tab) (nr : Nat) (r w : Int) (L : List SC) : Prop where
  sg : Sg1 L
  eq : ∀ x : Int, sgS L x = if inC r w x && sem t nr (dig F x) then 1 else 0
noncomputable def sgB (F : List (Nat × Nat)) (i : Nat) : Nat := ((F.drop i).map fun e => 2 * e.1 + 1).prod
theorem sgB_pos (F : List (Nat × Nat)) (i : Nat) : 1 ≤ sgB F i := by
  unfold sgB
  induction F.drop i with
  | nil => exact Nat.le_refl _
  | cons e l ih =>
    rw [List.map_cons, List.prod_cons]
    exact Nat.le_trans ih (Nat.le_mul_of_pos_left _ (by omega))
theorem sgB_at {F : List (Nat × Nat)} {i : Nat} (h : i < F.length) : sgB F i = (2 * pF F i + 1) * sgB F (i + 1) := by
  have hx : F[i]? = some F[i] := List.getElem?_eq_getElem h
  unfold sgB
  rw [List.drop_eq_getElem_cons h, List.map_cons, List.prod_cons, pF_at hx]
theorem inC_iff {r w x : Int} : inC r w x = true ↔ (x - r) % w = 0 := decide_eq_true_iff
/-- all figures at a place, each in its own class -/
theorem sig_figs {F : List (Nat × Nat)} {t : Tab} {i : Nat} {r w : Int} {p : Nat} {z : Nat → Int} {g : Nat → Nat} {L : Nat → List SC} (hz : ∀ f, f < p → ∀ x : Int, (x - z f) % (w * (p : Int)) = 0 ↔ (x - r) % w = 0 ∧ dig F x i = f) (hd : ∀ x, dig F x i < p)
    (hL : ∀ f, f < p → SgRes F t (g f) (z f) (w * (p : Int)) (L f)) : ∀ x, sgS (((List.range p).map L).flatten) x = if inC r w x && sem t (g (dig F x i)) (dig F x) then 1 else 0 := fun x => by
  rw [sgS_flat, List.map_map]
  have e : ((List.range p).map ((fun l => sgS l x) ∘ L)) = (List.range p).map fun f => if f = dig F x i then (if inC r w x && sem t (g f) (dig F x) then (1 : Int) else 0) else 0 := by
    refine List.map_congr_left fun f hf => ?_
    have hf := List.mem_range.mp hf
    show sgS (L f) x = _
    rw [(hL f hf).eq x]
    have h1 := hz f hf x
    by_cases c : f = dig F x i
    · rw [if_pos c]
      have : inC (z f) (w * (p : Int)) x = inC r w x := by
        unfold inC
        exact decide_eq_decide.mpr (h1.trans ⟨fun a => a.1, fun a => ⟨a, c.symm⟩⟩)
      rw [this]
    · rw [if_neg c]
      have : inC (z f) (w * (p : Int)) x = false := by
        unfold inC
        exact decide_eq_false fun a => c (h1.mp a).2.symm
      rw [this, Bool.false_and]
      rfl
  rw [e, sum_fig (hd x)]
theorem Sg1.flat {ls : List (List SC)} (h : ∀ l ∈ ls, Sg1 l) : Sg1 ls.flatten := fun e he => by
  obtain ⟨l, hl, hel⟩ := List.mem_flatten.mp he
  exact h l hl e hel
theorem Sg1.app {L M : List SC} (h : Sg1 L) (k : Sg1 M) : Sg1 (L ++ M) := fun e he => (List.mem_append.mp he).elim (h e) (k e)
theorem Sg1.neg {L : List SC} (h : Sg1 L) : Sg1 (L.map fun e => (e.1, e.2.1, -e.2.2)) := fun e he => by
  obtain ⟨x, hx, rfl⟩ := List.mem_map.mp he
  obtain ⟨a, b, c, d⟩ := h x hx
  exact ⟨a, b, c, d.elim (fun d => .inr (by show -x.2.2 = -1; rw [d])) fun d => .inl (by show -x.2.2 = 1; rw [d]; rfl)⟩
/-- the usual row, and what the exceptions change -/
theorem sig_exc {F : List (Nat × Nat)} {t : Tab} {i us : Nat} {r w : Int} {p : Nat} {z : Nat → Int} {es : List (Nat × Nat)} {L0 : List SC} {Lb Lu : Nat → List SC} (hz : ∀ e ∈ es, ∀ x : Int, (x - z e.1) % (w * (p : Int)) = 0 ↔ (x - r) % w = 0 ∧ dig F x i = e.1) (hn : (es.map (·.1)).Nodup)
    (h0 : SgRes F t us r w L0) (hb : ∀ e ∈ es, SgRes F t e.2 (z e.1) (w * (p : Int)) (Lb e.1)) (hu : ∀ e ∈ es, SgRes F t us (z e.1) (w * (p : Int)) (Lu e.1)) :
    ∀ x, sgS (L0 ++ (es.map fun e => Lb e.1 ++ (Lu e.1).map fun y => (y.1, y.2.1, -y.2.2)).flatten) x = if inC r w x && sem t (belowF (0, us, es) (dig F x i)) (dig F x) then 1 else 0 := fun x => by
  have ez : ∀ e ∈ es, inC (z e.1) (w * (p : Int)) x = (inC r w x && decide (dig F x i = e.1)) := fun e he => by
    unfold inC
    rw [← Bool.decide_and]
    exact decide_eq_decide.mpr (hz e he x)
  rw [sgS_app, h0.eq x, sgS_flat, List.map_map]
  have key : ∀ ls : List (Nat × Nat), (∀ e ∈ ls, e ∈ es) → (ls.map (·.1)).Nodup → (ls.map ((fun l => sgS l x) ∘ fun e => Lb e.1 ++ (Lu e.1).map fun y => (y.1, y.2.1, -y.2.2))).sum = (if inC r w x && sem t (belowF (0, us, ls) (dig F x i)) (dig F x) then (1 : Int) else 0) - if inC r w x && sem t us (dig F x) then 1 else 0 := by
    intro ls
    induction ls with
    | nil =>
      intro _ _
      have : belowF (0, us, []) (dig F x i) = us := rfl
      rw [this]
      simp
    | cons e ls ih =>
      intro hs hnd
      rw [List.map_cons, List.nodup_cons] at hnd
      have he := hs e List.mem_cons_self
      have hi := ih (fun y hy => hs y (List.mem_cons_of_mem _ hy)) hnd.2
      rw [List.map_cons, List.sum_cons, hi]
      show sgS (Lb e.1 ++ (Lu e.1).map fun y => (y.1, y.2.1, -y.2.2)) x + _ = _
      rw [sgS_app, sgS_neg, (hb e he).eq x, (hu e he).eq x, ez e he]
      by_cases c : dig F x i = e.1
      · have b1 : belowF (0, us, e :: ls) (dig F x i) = e.2 := by
          unfold belowF
          show (((e :: ls).find? fun y => decide (y.1 = dig F x i)).map (·.2)).getD us = e.2
          rw [List.find?_cons, decide_eq_true c.symm]
          rfl
        have b2 : belowF (0, us, ls) (dig F x i) = us := by
          unfold belowF
          show ((ls.find? fun y => decide (y.1 = dig F x i)).map (·.2)).getD us = us
          have : ls.find? (fun y => decide (y.1 = dig F x i)) = none := by
            rw [List.find?_eq_none]
            exact fun y hy hz => hnd.1 (List.mem_map.mpr ⟨y, hy, by rw [of_decide_eq_true hz, c]⟩)
          rw [this]
          rfl
        rw [b1, b2, decide_eq_true c, Bool.and_true]
        omega
      · have b1 : belowF (0, us, e :: ls) (dig F x i) = belowF (0, us, ls) (dig F x i) := by
          unfold belowF
          show (((e :: ls).find? fun y => decide (y.1 = dig F x i)).map (·.2)).getD us = _
          rw [List.find?_cons, decide_eq_false (fun z => c z.symm)]
        rw [b1, decide_eq_false c, Bool.and_false, Bool.false_and]
        simp
  rw [key es (fun _ h => h) hn]
  omega
/-- how far signed_classes has to go -/
noncomputable def muS (F : List (Nat × Nat)) (t : Tab) (nr i : Nat) : Nat := 2 * (F.length - i) + if (rowAt t nr).1 = i then 1 else 0
/-- how many classes at most -/
noncomputable def lenS (F : List (Nat × Nat)) (t : Tab) (nr i : Nat) : Nat := if nr < 2 ∨ pF F (rowAt t nr).1 ≠ pF F i then sgB F (i + 1) else sgB F i
theorem sgB_le {F : List (Nat × Nat)} {i : Nat} : sgB F (i + 1) ≤ sgB F i := by
  by_cases h : i < F.length
  · rw [sgB_at h]
    exact Nat.le_mul_of_pos_left _ (by omega)
  · unfold sgB
    rw [List.drop_eq_nil_of_le (by omega), List.drop_eq_nil_of_le (by omega)]
    exact Nat.le_refl _
theorem lenS_le {F : List (Nat × Nat)} {t : Tab} {nr i : Nat} : lenS F t nr i ≤ sgB F i := by
  unfold lenS
  split
  · exact sgB_le
  · exact Nat.le_refl _
noncomputable def spSigN (n : Nat) : Sp := fun vs H Q _ => ∃ (fa ra : Addr) (F : List (Nat × Nat)) (t : Tab) (nr i : Nat) (r w N : Int), vs = [.ref fa, .ref ra, .int (nr : Int), .int (i : Int), .int r, .int w] ∧ FigL H fa F ∧ FgOk F ∧ FgC F N ∧ 0 < N ∧ N < 2 ^ 60 ∧ TabT H ra t ∧ Canon F.length (pF F) t ∧ nr < t.length ∧ i ≤ (rowAt t nr).1 ∧ SigOk F t nr i r w N ∧ sgB F i ≤ 10000000 ∧ muS F t nr i < n ∧
  ∀ H' a L, H a = none → Same H H' → SgL H' a L → SgRes F t nr r w L → L.length ≤ lenS F t nr i → Q (.ref a) H'
noncomputable def spWithFig : Sp := fun vs H Q _ => ∃ (fa : Addr) (F : List (Nat × Nat)) (t : Tab) (nr i f : Nat) (r w N : Int), vs = [.int r, .int w, .ref fa, .int (i : Int), .int (f : Int)] ∧ FigL H fa F ∧ FgOk F ∧ FgC F N ∧ 0 < N ∧ N < 2 ^ 60 ∧ i < F.length ∧ f < pF F i ∧ SigOk F t nr i r w N ∧ Af F i w ∧
  ∀ H' a z, Same H H' → H' a = some (.tup [.int z, .int (w * (pF F i : Int))]) → (∀ nr', SigOk F t nr' (i + 1) z (w * (pF F i : Int)) N) → (∀ x : Int, (x - z) % (w * (pF F i : Int)) = 0 ↔ (x - r) % w = 0 ∧ dig F x i = f) → Q (.ref a) H'
noncomputable def spWithAll (n : Nat) : Sp := fun vs H Q _ => ∃ (fa ra : Addr) (F : List (Nat × Nat)) (t : Tab) (nr i : Nat) (r w N : Int), vs = [.ref fa, .ref ra, .int (nr : Int), .int (i : Int), .int r, .int w] ∧ FigL H fa F ∧ FgOk F ∧ FgC F N ∧ 0 < N ∧ N < 2 ^ 60 ∧ TabT H ra t ∧ Canon F.length (pF F) t ∧ nr < t.length ∧ i < (rowAt t nr).1 ∧ i < F.length ∧ SigOk F t nr i r w N ∧ Af F i w ∧ sgB F i ≤ 10000000 ∧ muS F t nr i < n + 1 ∧
  ∀ H' a L, H a = none → Same H H' → SgL H' a L → SgRes F t nr r w L → L.length ≤ sgB F i → Q (.ref a) H'
noncomputable def spByEach (n : Nat) : Sp := fun vs H Q _ => ∃ (fa ra : Addr) (F : List (Nat × Nat)) (t : Tab) (nr : Nat) (r w N : Int), vs = [.ref fa, .ref ra, .int (nr : Int), .int r, .int w] ∧ FigL H fa F ∧ FgOk F ∧ FgC F N ∧ 0 < N ∧ N < 2 ^ 60 ∧ TabT H ra t ∧ Canon F.length (pF F) t ∧ 2 ≤ nr ∧ nr < t.length ∧ SigOk F t nr (rowAt t nr).1 r w N ∧ Af F (rowAt t nr).1 w ∧ sgB F (rowAt t nr).1 ≤ 10000000 ∧ muS F t nr (rowAt t nr).1 < n + 1 ∧
  ∀ H' a L, H a = none → Same H H' → SgL H' a L → SgRes F t nr r w L → L.length ≤ sgB F (rowAt t nr).1 → Q (.ref a) H'
theorem lt200 {x : Int} (h0 : 0 ≤ x) (h : x < 2 ^ 62) : x.natAbs < 2 ^ 200 := by
  have h1 : x.natAbs < 2 ^ 62 := by omega
  exact Nat.lt_trans h1 (by decide)
/-- the exceptions of a row told: frozen -/
theorem TabT.frz {m : Nat} {P : Nat → Nat} {H : Hp} {a : Addr} {t : Tab} (h : TabT H a t) (hc : Canon m P t) {r : Nat} (r2 : 2 ≤ r) (hr : r < t.length) : ∃ (ts : List Addr) (q e : Addr) (es : List Addr), H a = some (.tup (ts.map V.ref)) ∧ ts[r]? = some q ∧ H q = some (.tup [.int ((rowAt t r).1 : Int), .int ((rowAt t r).2.1 : Int), .ref e]) ∧ TupF30 H e (es.map V.ref) ∧ Paired (ExE H) (rowAt t r).2.2 es := by
  obtain ⟨ts, h1, h2⟩ := h
  have hw : t[r]? = some t[r] := List.getElem?_eq_getElem hr
  obtain ⟨q, hq, e, es, g1, g2, g3⟩ := paired_getL h2 hw
  have er : rowAt t r = t[r] := rowAt_some hw
  rw [← er] at g1 g3
  refine ⟨ts, q, e, es, h1, hq, g1, ?_, g3⟩
  rcases g2 with z | ⟨z1, _⟩
  · exact z
  · exfalso
    subst z1
    have hx : (rowAt t r).2.2 = [] := List.eq_nil_of_length_eq_zero (by rw [g3.length]; rfl)
    obtain ⟨f, hf, hn⟩ := hc.ne r r2 hr
    rw [hc.ex r r2 hr] at hx
    have : (f, belowF (rowAt t r) f) ∈ excOf (P (rowAt t r).1) (belowF (rowAt t r)) (rowAt t r).2.1 := by
      unfold excOf
      exact List.mem_map.mpr ⟨f, List.mem_filter.mpr ⟨List.mem_range.mpr hf, decide_eq_true hn⟩, rfl⟩
    rw [hx] at this
    cases this
noncomputable def ScE (H : Hp) (e : SC) (p : Addr) : Prop := H p = some (.tup [.int e.1, .int e.2.1, .int e.2.2])
/-- a list of signed classes that grows -/
structure GSg (H0 : Hp) (fl : Addr) (L : List SC) (H' : Hp) : Prop where
  sm : Same H0 (rm fl H')
  li : ∃ ts : List Addr, H' fl = some (.lst (ts.map V.ref)) ∧ Paired (ScE (rm fl H')) L ts
theorem GSg.same {H0 H' H2 : Hp} {fl : Addr} {L : List SC} (G : GSg H0 fl L H') (s : Same H' H2) : GSg H0 fl L H2 := by
  obtain ⟨h1, ts, h2, h3⟩ := G
  exact ⟨h1.trans s.rm, ts, s _ _ h2, paired_imp (fun _ _ z => s.rm _ _ z) h3⟩
theorem GSg.start {H0 H1 : Hp} {fl : Addr} (n : H0 fl = none) (s : Same H0 H1) (k : H1 fl = some (.lst [])) : GSg H0 fl [] H1 :=
  ⟨fun b o e => rm_of (fun z => by rw [z, n] at e; cases e) (s _ _ e), [], k, .nil⟩
theorem GSg.all {H0 H' : Hp} {fl : Addr} {L : List SC} (G : GSg H0 fl L H') : SgL H' fl L := by
  obtain ⟨_, ts, h2, h3⟩ := G
  exact ⟨ts, h2, paired_imp (fun _ _ z => rm_le _ _ z) h3⟩
theorem ScE.rm {H : Hp} {e : SC} {p fl : Addr} {xs : List V} (h : ScE H e p) (k : H fl = some (.lst xs)) : ScE (Bc.rm fl H) e p :=
  rm_of (fun z => by have h : H p = some _ := h; rw [z, k] at h; cases h) h
/-- xs += ys -/
theorem GSg.ext {H0 H' : Hp} {fl : Addr} {L M : List SC} {ts us : List Addr} (G : GSg H0 fl L H') (k : H' fl = some (.lst (ts.map V.ref))) (hp : Paired (ScE (Bc.rm fl H')) L ts) (hM : Paired (ScE H') M us) : GSg H0 fl (L ++ M) (L2.upd H' fl (.lst (ts.map V.ref ++ us.map V.ref))) := by
  refine ⟨by rw [rm_updS]; exact G.sm, ts ++ us, by rw [L2.upd_same, List.map_append], ?_⟩
  rw [rm_updS]
  exact paired_app hp (paired_imp (fun _ _ z => ScE.rm z k) hM)
theorem get_snoc30 {α : Type} {l : List α} {x y : α} {f : Nat} (h : (l ++ [x])[f]? = some y) : (l[f]? = some y) ∨ (f = l.length ∧ y = x) := by
  by_cases c : f < l.length
  · rw [List.getElem?_append_left c] at h
    exact .inl h
  · rw [List.getElem?_append_right (by omega)] at h
    have hl := (List.getElem?_eq_some_iff.mp h).1
    simp only [List.length_cons, List.length_nil] at hl
    have : f - l.length = 0 := by omega
    rw [this] at h
    exact .inr ⟨by omega, (Option.some.inj h).symm⟩
theorem lists_fun {α : Type} {ls : List α} {p : Nat} (h : ls.length = p) (d : α) : ls = (List.range p).map fun f => ls.getD f d := by
  refine List.ext_getElem? fun i => ?_
  rw [List.getElem?_map]
  by_cases c : i < p
  · rw [List.getElem?_range c]
    show ls[i]? = some (ls.getD i d)
    rw [List.getD_eq_getElem?_getD, List.getElem?_eq_getElem (show i < ls.length by omega)]
    rfl
  · have e1 : ls[i]? = none := List.getElem?_eq_none (by omega)
    have e2 : (List.range p)[i]? = none := List.getElem?_eq_none (by rw [List.length_range]; omega)
    rw [e1, e2]
    rfl
theorem getD_some30 {α : Type} {ls : List α} {p f : Nat} (h : ls.length = p) (hf : f < p) (d : α) : ls[f]? = some (ls.getD f d) := by
  rw [List.getD_eq_getElem?_getD, List.getElem?_eq_getElem (by omega)]
  rfl
noncomputable def negS (y : SC) : SC := (y.1, y.2.1, -y.2.2)
noncomputable def updF {α : Type} (g : Nat → α) (k : Nat) (v : α) : Nat → α := fun f => if f = k then v else g f
theorem updF_same {α : Type} {g : Nat → α} {k : Nat} {v : α} : updF g k v k = v := if_pos rfl
theorem updF_ne {α : Type} {g : Nat → α} {k f : Nat} {v : α} (h : f ≠ k) : updF g k v f = g f := if_neg h
noncomputable def excL (L0 : List SC) (es : List (Nat × Nat)) (Lb Lu : Nat → List SC) : List SC := L0 ++ (es.map fun e => Lb e.1 ++ (Lu e.1).map negS).flatten
theorem take_ne {es : List (Nat × Nat)} (hn : (es.map (·.1)).Nodup) {j : Nat} {e : Nat × Nat} (he : es[j]? = some e) {e' : Nat × Nat} (h : e' ∈ es.take j) : e'.1 ≠ e.1 := by
  obtain ⟨hj, rfl⟩ := List.getElem?_eq_some_iff.mp he
  have e1 : es = es.take j ++ es[j] :: es.drop (j + 1) := by
    rw [← List.drop_eq_getElem_cons hj, List.take_append_drop]
  rw [e1, List.map_append, List.map_cons, List.nodup_append] at hn
  exact hn.2.2 _ (List.mem_map.mpr ⟨e', h, rfl⟩) _ List.mem_cons_self
theorem excL_step {L0 : List SC} {es : List (Nat × Nat)} {Lb Lu : Nat → List SC} (hn : (es.map (·.1)).Nodup) {j : Nat} {e : Nat × Nat} (he : es[j]? = some e) (lb lu : List SC) : excL L0 (es.take (j + 1)) (updF Lb e.1 lb) (updF Lu e.1 lu) = excL L0 (es.take j) Lb Lu ++ lb ++ lu.map negS := by
  unfold excL
  rw [List.take_add_one, he, List.map_append, List.flatten_append]
  have e1 : ((es.take j).map fun e' => updF Lb e.1 lb e'.1 ++ (updF Lu e.1 lu e'.1).map negS) = (es.take j).map fun e => Lb e.1 ++ (Lu e.1).map negS := by
    refine List.map_congr_left fun e' h => ?_
    have := take_ne hn he h
    rw [updF_ne this, updF_ne this]
  rw [e1, show ((some e).toList.map fun e' => updF Lb e.1 lb e'.1 ++ (updF Lu e.1 lu e'.1).map negS).flatten = lb ++ lu.map negS by
    show (updF Lb e.1 lb e.1 ++ (updF Lu e.1 lu e.1).map negS) ++ [] = _
    rw [updF_same, updF_same, List.append_nil]]
  simp only [List.append_assoc]
end Bc
namespace Bc
open PySem PySem.Spec PyProof.Rows L2
section
variable {K : PySem.W.Frag} {H : Hp}
noncomputable def exD (e : Nat × Nat) : PyData := .tuple ([(e.1 : Int), (e.2 : Int)].map PyData.int)
noncomputable def rwD (w : Row) : PyData := .tuple [.int (w.1 : Int), .int (w.2.1 : Int), .tuple (w.2.2.map exD)]
noncomputable def tabD (t : Tab) : PyData := .tuple (t.map rwD)
theorem dp_exs : ∀ {es : List (Nat × Nat)} {ts : List Addr}, Paired (ExE H) es ts → DpAll K H (ts.map V.ref) (es.map exD)
  | _, _, .nil => .nil
  | _, _, .cons h r => .cons (.tup (.inl (.inl h)) (dp_ints [_, _])) (dp_exs r)
theorem dp_row {w : Row} {q : Addr} (h : RowF H w q) : Dp K H (.ref q) (rwD w) := by
  obtain ⟨e, es, h1, h2, h3⟩ := h
  refine .tup (.inl (.inl h1)) (.cons (.int _) (.cons (.int _) (.cons ?_ .nil)))
  refine .tup ?_ (dp_exs h3)
  rcases h2 with ⟨o, _, z⟩ | ⟨z1, z2⟩
  · exact .inl (.inr ⟨o, z⟩)
  · subst z1
    exact .inl (.inl z2)
theorem dp_rows : ∀ {t : Tab} {ts : List Addr}, Paired (RowF H) t ts → DpAll K H (ts.map V.ref) (t.map rwD)
  | _, _, .nil => .nil
  | _, _, .cons h r => .cons (dp_row h) (dp_rows r)
theorem dp_tab {a : Addr} {t : Tab} (h : TabT H a t) : Dp K H (.ref a) (tabD t) := by
  obtain ⟨ts, h1, h2⟩ := h
  exact .tup (.inl (.inl h1)) (dp_rows h2)
end
theorem eqv_all30 {α : Type} [DecidableEq α] {f : α → PyData} (h : ∀ a b, PyData.eqv (f a) (f b) = decide (a = b)) : ∀ l m : List α, PyData.eqvAll (l.map f) (m.map f) = decide (l = m)
  | [], [] => by simp [PyData.eqvAll]
  | [], _ :: _ => by simp [PyData.eqvAll]
  | _ :: _, [] => by simp [PyData.eqvAll]
  | i :: r, j :: t => by
    rw [List.map_cons, List.map_cons, PyData.eqvAll, eqv_all30 h r t, h]
    simp only [List.cons.injEq, Bool.decide_and]
theorem eqv_ex (a b : Nat × Nat) : PyData.eqv (exD a) (exD b) = decide (a = b) := by
  unfold exD
  rw [PyData.eqv, eqv_ints]
  refine decide_eq_decide.mpr ⟨fun h => ?_, fun h => by rw [h]⟩
  injection h with h1 h2
  injection h2 with h2 _
  exact Prod.ext (by omega) (by omega)
theorem eqv_int30 (a b : Nat) : PyData.eqv (.int (a : Int)) (.int (b : Int)) = decide (a = b) := by
  have := eqv_ints [(a : Int)] [(b : Int)]
  simp only [List.map_cons, List.map_nil, PyData.eqvAll, Bool.and_true] at this
  rw [this]
  refine decide_eq_decide.mpr ⟨fun h => ?_, fun h => by rw [h]⟩
  injection h with h1 h2
  omega
theorem eqv_row (a b : Row) : PyData.eqv (rwD a) (rwD b) = decide (a = b) := by
  unfold rwD
  rw [PyData.eqv, PyData.eqvAll, PyData.eqvAll, PyData.eqvAll, PyData.eqvAll, eqv_int30, eqv_int30, PyData.eqv, eqv_all30 eqv_ex, Bool.and_true, ← Bool.decide_and, ← Bool.decide_and]
  refine decide_eq_decide.mpr ⟨fun h => ?_, fun h => by rw [h]; exact ⟨rfl, rfl, rfl⟩⟩
  exact Prod.ext h.1 (Prod.ext h.2.1 h.2.2)
theorem eqv_tab (t u : Tab) : PyData.eqv (tabD t) (tabD u) = decide (t = u) := by
  unfold tabD
  rw [PyData.eqv, eqv_all30 eqv_row]
theorem all_lay {α : Type} {f : α → PyData} (h : ∀ a, (f a).canLay0 = true) : ∀ l : List α, PyData.canLayAll0 (l.map f) = true
  | [] => rfl
  | i :: r => by rw [List.map_cons, PyData.canLayAll0, all_lay h r, h]; rfl
theorem all_deep {α : Type} {f : α → PyData} {n : Nat} (h : ∀ a, (f a).depth ≤ n) : ∀ l : List α, PyData.depthAll (l.map f) ≤ n
  | [] => Nat.zero_le _
  | i :: r => by rw [List.map_cons, PyData.depthAll]; exact Nat.max_le.mpr ⟨h i, all_deep h r⟩
theorem shaped_tab (t : Tab) : SeqAt.shaped (tabD t) = true := by
  have l1 : ∀ e, (exD e).canLay0 = true := fun e => by unfold exD; rw [PyData.canLay0, lay_ints]
  have d1 : ∀ e, (exD e).depth ≤ 1 := fun e => by unfold exD; rw [PyData.depth, depth_ints]; exact Nat.le_refl _
  have l2 : ∀ w, (rwD w).canLay0 = true := fun w => by
    unfold rwD
    rw [PyData.canLay0, PyData.canLayAll0, PyData.canLayAll0, PyData.canLayAll0, PyData.canLayAll0, PyData.canLay0, PyData.canLay0, PyData.canLay0, all_lay l1]
    rfl
  have d2 : ∀ w, (rwD w).depth ≤ 3 := fun w => by
    unfold rwD
    rw [PyData.depth, PyData.depthAll, PyData.depthAll, PyData.depthAll, PyData.depthAll]
    have := all_deep d1 w.2.2
    show max 0 (max 0 (max (PyData.depth (.tuple (w.2.2.map exD))) 0)) + 1 ≤ 3
    rw [PyData.depth]
    omega
  have d3 := all_deep d2 t
  unfold SeqAt.shaped tabD
  rw [PyData.canLay0, all_lay l2, PyData.depth, Bool.true_and]
  exact decide_eq_true (by omega)
theorem w_eqTab {K : PySem.W.Frag} {H : Hp} {a b : Addr} {t u : Tab} {Q : VK} (h1 : TabT H a t) (h2 : TabT H b u) (q : Q (.bl (decide (t = u))) H) : rEqD K (.ref a) (.ref b) H Q :=
  ⟨_, _, dp_tab h1, dp_tab h2, shaped_tab _, shaped_tab _, by rw [eqv_tab]; exact q⟩
structure KBs (K : PySem.W.Frag) (mg : Str → Option Value) (Cb Cr : Addr) : Prop where
  cl : ClsF K Cb
  mgB : mg "Bases" = some (.ref Cb)
  fm : NoAttr K Cb "modulus"
  ff : NoAttr K Cb "figures"
  fr : NoAttr K Cb "rows"
  ft : NoAttr K Cb "root"
  fs : NoAttr K Cb "size"
  kl : PySem.W.kitOne K (.type "list") (.ref Cr) = some false
  kt : PySem.W.kitOne K (.type "tuple") (.ref Cr) = some false
noncomputable def bsF (m fa ta : Addr) (n sz : Nat) : List (Str × V) := [("modulus", .ref m), ("figures", .ref fa), ("rows", .ref ta), ("root", .int (n : Int)), ("size", .int (sz : Int))]
theorem bs_m {m fa ta : Addr} {n sz : Nat} : (bsF m fa ta n sz).lookup ("modulus" : Str) = some (.ref m) := lk0
theorem bs_f {m fa ta : Addr} {n sz : Nat} : (bsF m fa ta n sz).lookup ("figures" : Str) = some (.ref fa) := (lkS (by decide +kernel)).trans lk0
theorem bs_r {m fa ta : Addr} {n sz : Nat} : (bsF m fa ta n sz).lookup ("rows" : Str) = some (.ref ta) := (lkS (by decide +kernel)).trans ((lkS (by decide +kernel)).trans lk0)
theorem bs_t {m fa ta : Addr} {n sz : Nat} : (bsF m fa ta n sz).lookup ("root" : Str) = some (.int (n : Int)) := (lkS (by decide +kernel)).trans ((lkS (by decide +kernel)).trans ((lkS (by decide +kernel)).trans lk0))
theorem bs_s {m fa ta : Addr} {n sz : Nat} : (bsF m fa ta n sz).lookup ("size" : Str) = some (.int (sz : Int)) := (lkS (by decide +kernel)).trans ((lkS (by decide +kernel)).trans ((lkS (by decide +kernel)).trans ((lkS (by decide +kernel)).trans lk0)))
theorem bs_no {m fa ta : Addr} {n sz : Nat} {x : Str} (h1 : x ≠ ("modulus" : Str)) (h2 : x ≠ ("figures" : Str)) (h3 : x ≠ ("rows" : Str)) (h4 : x ≠ ("root" : Str)) (h5 : x ≠ ("size" : Str)) : (bsF m fa ta n sz).lookup x = none := (lkS h1).trans ((lkS h2).trans ((lkS h3).trans ((lkS h4).trans ((lkS h5).trans rfl))))
/-- how many members below the number of the modulus -/
noncomputable def szB (ps : List (Int × Int)) (u : Tab) (n : Nat) : Nat := cntT30 u ((figs30 ps).map (·.1)) 0 n
/-- what is asked of the modulus of a set -/
structure MdB (ps : List (Int × Int)) : Prop where
  asc : Asc 0 ps
  fg : FgOk (figs30 ps)
  nm : num ps < 2 ^ 60
  np : npx ((figs30 ps).map (·.1)) ≤ 40000
  sg : sgB (figs30 ps) 0 ≤ 10000000
  len : (figs30 ps).length ≤ 29
noncomputable def BsAt (c : CA) (Cb : Addr) (H : Hp) (o : Addr) (ps : List (Int × Int)) (u : Tab) (n : Nat) : Prop := MdB ps ∧ SetF (figs30 ps) (npx ((figs30 ps).map (·.1))) u n ∧ ∃ dx m fa ta, H o = some (.ins Cb dx (bsF m fa ta n (szB ps u n))) ∧ ModAt c H m ps ∧ FigL H fa (figs30 ps) ∧ TabT H ta u
theorem BsAt.same {c : CA} {Cb : Addr} {H H' : Hp} {o : Addr} {ps : List (Int × Int)} {u : Tab} {n : Nat} (h : BsAt c Cb H o ps u n) (s : Same H H') : BsAt c Cb H' o ps u n := by
  obtain ⟨a, b, dx, m, fa, ta, h1, h2, h3, h4⟩ := h
  exact ⟨a, b, dx, m, fa, ta, s _ _ h1, h2.same s, h3.same s, h4.same s⟩
noncomputable def spBsInit (K : PySem.W.Frag) (c : CA) (Cb Cr : Addr) : Sp := fun vs H Q _ => ∃ (o dx m l : Addr) (ps : List (Int × Int)), vs = [.ref o, .ref m, .ref l] ∧ H o = some (.ins Cb dx []) ∧ MdB ps ∧ ModAt c H m ps ∧
  ((∃ cs, ClsL K H l cs ∧ cs.length ≤ 100000 ∧ (∀ c ∈ cs, 0 < c.2 ∧ num ps % c.2 = 0) ∧ ∀ H' u n, (∀ b o', b ≠ o → H b = some o' → H' b = some o') → BsAt c Cb H' o ps u n → (∀ xs, H l = some (.lst xs) → BsAt c Cb (rm l H') o ps u n) → (∀ d, Val (figs30 ps).length (pF (figs30 ps)) d → (sem u n d = true ↔ InCls (figs30 ps) cs d)) → Q .non H') ∨
   (∃ u n, RwAt Cr H l u n ∧ SetF (figs30 ps) (npx ((figs30 ps).map (·.1))) u n ∧ ∀ H', (∀ b o', b ≠ o → H b = some o' → H' b = some o') → BsAt c Cb H' o ps u n → Q .non H'))
noncomputable def memB (ps : List (Int × Int)) (u : Tab) (n : Nat) (x : Int) : Bool := sem u n (dig (figs30 ps) x)
noncomputable def spSigd (c : CA) (Cb : Addr) : Sp := fun vs H Q _ => ∃ (o : Addr) (ps : List (Int × Int)) (u : Tab) (n : Nat), vs = [.ref o] ∧ BsAt c Cb H o ps u n ∧ ∀ H' a L, H a = none → Same H H' → SgL H' a L → Sg1 L → (∀ x : Int, sgS L x = if memB ps u n x = true then 1 else 0) → Q (.ref a) H'
/-- members counted from 0 on -/
noncomputable def cmB (ps : List (Int × Int)) (u : Tab) (n : Nat) (k : Nat) : Nat := cm30 (fun x : Nat => memB ps u n (x : Int)) k
noncomputable def spBelw (c : CA) (Cb : Addr) : Sp := fun vs H Q _ => ∃ (o : Addr) (ps : List (Int × Int)) (u : Tab) (n k : Nat), vs = [.ref o, .int (k : Int)] ∧ BsAt c Cb H o ps u n ∧ ∀ H', Same H H' → Q (.int (cmB ps u n k : Nat)) H'
noncomputable def spNth (c : CA) (Cb : Addr) : Sp := fun vs H Q _ => ∃ (o : Addr) (ps : List (Int × Int)) (u : Tab) (n k : Nat), vs = [.ref o, .int (k : Int)] ∧ BsAt c Cb H o ps u n ∧ ((szB ps u n = 0 ∧ ∀ H', Same H H' → Q .non H') ∨ (0 < szB ps u n ∧ ∀ H' (x : Nat), Same H H' → (x : Int) < num ps → memB ps u n (x : Int) = true → cmB ps u n x = k % szB ps u n → Q (.int ((k : Int) / (szB ps u n : Nat) * num ps + (x : Int))) H'))
noncomputable def spFrm (c : CA) (Cb : Addr) : Sp := fun vs H Q _ => ∃ (o : Addr) (ps : List (Int × Int)) (u : Tab) (n : Nat) (k : Int), vs = [.ref o, .int k] ∧ BsAt c Cb H o ps u n ∧ ((szB ps u n = 0 ∧ ∀ H', Same H H' → Q .non H') ∨ (0 < szB ps u n ∧ ∀ H' (x : Nat), Same H H' → (x : Int) < num ps → memB ps u n (x : Int) = true → cmB ps u n x = cmB ps u n (k % num ps).toNat % szB ps u n → Q (.int ((k / num ps + ((cmB ps u n (k % num ps).toNat : Nat) : Int) / ((szB ps u n : Nat) : Int)) * num ps + (x : Int))) H'))
noncomputable def spHas (K : PySem.W.Frag) (c : CA) (Cb : Addr) : Sp := fun vs H Q _ => ∃ (o : Addr) (ps : List (Int × Int)) (u : Tab) (n : Nat) (v : V), vs = [.ref o, v] ∧ BsAt c Cb H o ps u n ∧ ((∃ (t : Value) (b1 b2 : Bool), TyX K H v t ∧ PySem.W.kitOne K t (.type "int") = some b1 ∧ PySem.W.kitOne K t (.type "bool") = some b2 ∧ (b1 && !b2) = false ∧ Q (.bl false) H) ∨ (∃ x : Int, v = .int x ∧ ∀ H', Same H H' → Q (.bl (memB ps u n x)) H'))
noncomputable def spEqBs (K : PySem.W.Frag) (c : CA) (Cb : Addr) : Sp := fun vs H Q _ => ∃ (a : Addr) (v : V) (ps : List (Int × Int)) (u : Tab) (n : Nat), vs = [.ref a, v] ∧ BsAt c Cb H a ps u n ∧ ((∃ t, TyE K H v t ∧ PySem.W.kitOne K t (.ref Cb) = some false ∧ Q (.bl false) H) ∨ ∃ (b : Addr) (ps' : List (Int × Int)) (u' : Tab) (n' : Nat), v = .ref b ∧ BsAt c Cb H b ps' u' n' ∧ Q (.bl (decide (num ps = num ps' ∧ u = u' ∧ n = n'))) H)
theorem eqBs {K : PySem.W.Frag} {mg : Str → Option Value} {c : CA} {Cb Cr : Addr} {H : Hp} {a b : Addr} {ps ps' : List (Int × Int)} {u u' : Tab} {n n' : Nat} {Q : VK} (X : KBs K mg Cb Cr) (h1 : BsAt c Cb H a ps u n) (h2 : BsAt c Cb H b ps' u' n') (q : Q (.bl (decide (num ps = num ps' ∧ u = u' ∧ n = n'))) H) : rEqO K Cb (spEqBs K c Cb) (.ref a) (.ref b) H Q := by
  obtain ⟨_, _, dx, m, fa, ta, hx, _⟩ := id h1
  obtain ⟨_, _, dx', m', fa', ta', hx', _⟩ := id h2
  exact ⟨a, dx, _, _, rfl, hx, .x (X.cl.ty hx'), notF, a, .ref b, ps, u, n, rfl, h1, .inr ⟨b, ps', u', n', rfl, h2, _, rfl, q⟩⟩
theorem neBs {K : PySem.W.Frag} {mg : Str → Option Value} {c : CA} {Cb Cr : Addr} {H : Hp} {a b : Addr} {ps ps' : List (Int × Int)} {u u' : Tab} {n n' : Nat} {Q : VK} (X : KBs K mg Cb Cr) (h1 : BsAt c Cb H a ps u n) (h2 : BsAt c Cb H b ps' u' n') (q : Q (.bl (!decide (num ps = num ps' ∧ u = u' ∧ n = n'))) H) : rNeO K Cb (spEqBs K c Cb) (.ref a) (.ref b) H Q := by
  obtain ⟨_, _, dx, m, fa, ta, hx, _⟩ := id h1
  obtain ⟨_, _, dx', m', fa', ta', hx', _⟩ := id h2
  exact ⟨a, dx, _, _, rfl, hx, .x (X.cl.ty hx'), notF, a, .ref b, ps, u, n, rfl, h1, .inr ⟨b, ps', u', n', rfl, h2, _, rfl, q⟩⟩
theorem sig_start {ps : List (Int × Int)} (C : FgC (figs30 ps) (num ps)) {t : Tab} {nr : Nat} : SigOk (figs30 ps) t nr 0 0 1 (num ps) :=
  ⟨Int.le_refl _, by decide, Int.one_dvd _, fun _ _ _ _ => Int.one_gcd, fun h _ _ => .first (C.st h) Int.one_gcd⟩
theorem inC_01 (x : Int) : inC 0 1 x = true := inC_iff.mpr (by omega)
end Bc
namespace Bc
open PySem PySem.Spec PyProof.Rows L2
section
variable {H : Hp} {o C d : Addr} {fs : List (Str × V)}
theorem FigL.rmI (ho : H o = some (.ins C d fs)) {a : Addr} {F : List (Nat × Nat)} (h : FigL H a F) : FigL (Bc.rm o H) a F := by
  obtain ⟨ts, h1, h2⟩ := h
  refine ⟨ts, rm_of (fun z => by rw [z, ho] at h1; cases h1) h1, paired_imp (fun _ _ z => ?_) h2⟩
  exact rm_of (fun e => by have z : H _ = some _ := z; rw [e, ho] at z; cases z) z
theorem RowF.rmI (ho : H o = some (.ins C d fs)) {w : Row} {q : Addr} (h : RowF H w q) : RowF (Bc.rm o H) w q := by
  obtain ⟨e, es, h1, h2, h3⟩ := h
  refine ⟨e, es, rm_of (fun z => by rw [z, ho] at h1; cases h1) h1, ?_, paired_imp (fun _ _ z => rm_of (fun e => by have z : H _ = some _ := z; rw [e, ho] at z; cases z) z) h3⟩
  rcases h2 with ⟨x, y, z⟩ | ⟨y, z⟩
  · exact .inl ⟨x, y, rm_of (fun e => by rw [e, ho] at z; cases z) z⟩
  · exact .inr ⟨y, rm_of (fun e => by rw [e, ho] at z; cases z) z⟩
theorem TabT.rmI (ho : H o = some (.ins C d fs)) {a : Addr} {t : Tab} (h : TabT H a t) : TabT (Bc.rm o H) a t := by
  obtain ⟨ts, h1, h2⟩ := h
  exact ⟨ts, rm_of (fun z => by rw [z, ho] at h1; cases h1) h1, paired_imp (fun _ _ z => z.rmI ho) h2⟩
theorem ClsL.rmI {K : PySem.W.Frag} (ho : H o = some (.ins C d fs)) {l : Addr} {cs : List (Int × Int)} (h : ClsL K H l cs) : ClsL K (Bc.rm o H) l cs := by
  obtain ⟨ts, h1, h2⟩ := h
  refine ⟨ts, ?_, paired_imp (fun _ _ z => rm_of (fun e => by have z : H _ = some _ := z; rw [e, ho] at z; cases z) z) h2⟩
  rcases h1 with h1 | h1
  · exact .inl (rm_of (fun z => by rw [z, ho] at h1; cases h1) h1)
  · exact .inr (rm_of (fun z => by rw [z, ho] at h1; cases h1) h1)
theorem ModAt.rmI {c : CA} (ho : H o = some (.ins C d fs)) {m : Addr} {ps : List (Int × Int)} (ne : m ≠ o) (h : ModAt c H m ps) : ModAt c (Bc.rm o H) m ps := by
  obtain ⟨dx, t, ts, h1, h2, h3, h4⟩ := h
  refine ⟨dx, t, ts, rm_of ne h1, rm_of (fun z => by rw [z, ho] at h2; cases h2) h2, paired_imp (fun _ _ z => rm_of (fun e => by have z : H _ = some _ := z; rw [e, ho] at z; cases z) z) h3, h4⟩
theorem RwAt.rmI {Cr : Addr} (ho : H o = some (.ins C d fs)) {r : Addr} {u : Tab} {n : Nat} (ne : r ≠ o) (h : RwAt Cr H r u n) : RwAt Cr (Bc.rm o H) r u n := by
  obtain ⟨dx, ta, h1, h2⟩ := h
  exact ⟨dx, ta, rm_of ne h1, h2.rmI ho⟩
theorem mod_ne {c : CA} {m : Addr} {ps : List (Int × Int)} (ho : H o = some (.ins C d [])) (h : ModAt c H m ps) : m ≠ o := fun z => by
  obtain ⟨dx, t, ts, h1, _⟩ := h
  rw [z, ho] at h1
  injection h1 with h1
  injection h1 with _ _ e
  cases e
theorem rw_ne {Cr : Addr} {r : Addr} {u : Tab} {n : Nat} (ho : H o = some (.ins C d [])) (h : RwAt Cr H r u n) : r ≠ o := fun z => by
  obtain ⟨dx, ta, h1, _⟩ := h
  rw [z, ho] at h1
  injection h1 with h1
  injection h1 with _ _ e
  cases e
end
/-- what an instance is while its fields are set -/
structure Mk30 (H : Hp) (o C dx : Addr) (fs : List (Str × V)) (H' : Hp) : Prop where
  ob : H' o = some (.ins C dx fs)
  sm : Same (Bc.rm o H) (Bc.rm o H')
theorem Mk30.set {H H' : Hp} {o C dx : Addr} {fs fs' : List (Str × V)} (h : Mk30 H o C dx fs H') : Mk30 H o C dx fs' (L2.upd H' o (.ins C dx fs')) := ⟨L2.upd_same, by rw [rm_updS]; exact h.sm⟩
theorem Mk30.same {H H' H2 : Hp} {o C dx : Addr} {fs : List (Str × V)} (h : Mk30 H o C dx fs H') (s : Same H' H2) : Mk30 H o C dx fs H2 := ⟨s _ _ h.ob, h.sm.trans s.rm⟩
theorem Mk30.keep {H H' : Hp} {o C dx : Addr} {fs : List (Str × V)} (h : Mk30 H o C dx fs H') : ∀ b o', b ≠ o → H b = some o' → H' b = some o' := fun b o' nb hb => rm_le _ _ (h.sm _ _ (rm_of nb hb))
theorem MdB.pos {ps : List (Int × Int)} (md : MdB ps) : ∀ q ∈ ps, 0 < q.1 := fun q hq => by have := (md.asc.prs q hq).1.1; omega
theorem MdB.num {ps : List (Int × Int)} (md : MdB ps) : 0 < num ps := by
  rw [← figs_prod md.pos]
  have : ∀ l : List Nat, (∀ x ∈ l, 0 < x) → 0 < l.prod := fun l => by
    induction l with
    | nil => exact fun _ => Nat.one_pos
    | cons a r ih => exact fun h => by rw [List.prod_cons]; exact Nat.mul_pos (h a List.mem_cons_self) (ih fun x hx => h x (List.mem_cons_of_mem _ hx))
  have h := this ((figs30 ps).map (·.1)) fun x hx => by
    obtain ⟨e, he, rfl⟩ := List.mem_map.mp hx
    exact (figs_pos md.pos he).1
  omega
theorem MdB.e60 {ps : List (Int × Int)} (md : MdB ps) : ∀ e ∈ figs30 ps, 0 < e.1 ∧ 0 < e.2 ∧ e.1 < 2 ^ 60 ∧ e.2 < 2 ^ 60 := fun e he => by
  obtain ⟨h1, h2, h3, _⟩ := md.fg.e e he
  have C := figs_c (Int.le_refl 0) md.asc
  obtain ⟨i, hi, ei⟩ := List.getElem_of_mem he
  have hx : (figs30 ps)[i]? = some e := by rw [← ei]; exact List.getElem?_eq_getElem hi
  have hd := Int.le_of_dvd md.num (C.dv i hi)
  rw [wt_at hx, pF_at hx] at hd
  have hm := md.nm
  have : (e.2 : Int) * 1 ≤ (e.2 : Int) * (e.1 : Int) := Int.mul_le_mul_of_nonneg_left (by omega) (by omega)
  exact ⟨by omega, h3, by omega, by omega⟩
theorem szB_eq {ps : List (Int × Int)} {u : Tab} {n N : Nat} (md : MdB ps) (st : SetF (figs30 ps) N u n) : szB ps u n = cmB ps u n (num ps).toNat := (members_cnt md.asc st.can.wf rfl st.lt).symm
theorem szB_le {ps : List (Int × Int)} {u : Tab} {n N : Nat} (md : MdB ps) (st : SetF (figs30 ps) N u n) : (szB ps u n : Int) ≤ num ps := by
  rw [szB_eq md st]
  have h : cmB ps u n (num ps).toNat ≤ (num ps).toNat := by
    unfold cmB cm30
    exact Nat.le_trans (List.length_filter_le _ _) (by rw [List.length_range]; exact Nat.le_refl _)
  have := md.num
  omega
theorem npx_len : ∀ l : List Nat, l.length ≤ npx l
  | [] => Nat.zero_le _
  | p :: l => by
    have := npx_len l
    have h : npx (p :: l) = 1 + (p + 1) * npx l := rfl
    rw [h, List.length_cons]
    have : 1 * npx l ≤ (p + 1) * npx l := Nat.mul_le_mul_right _ (by omega)
    omega
theorem MdB.prod {ps : List (Int × Int)} (md : MdB ps) : ((figs30 ps).map (·.1)).prod < 2 ^ 60 := by
  have h1 := figs_prod md.pos
  have h2 := md.nm
  omega
section
variable {H : Hp} {l : Addr} {xs : List V}
theorem FigL.rmL (hl : H l = some (.lst xs)) {a : Addr} {F : List (Nat × Nat)} (ne : a ≠ l) (h : FigL H a F) : FigL (Bc.rm l H) a F := by
  obtain ⟨ts, h1, h2⟩ := h
  exact ⟨ts, rm_of ne h1, paired_imp (fun _ _ z => rm_of (fun e => by have z : H _ = some _ := z; rw [e, hl] at z; cases z) z) h2⟩
theorem TabT.rmL (hl : H l = some (.lst xs)) {a : Addr} {t : Tab} (h : TabT H a t) : TabT (Bc.rm l H) a t := by
  obtain ⟨ts, h1, h2⟩ := h
  refine ⟨ts, rm_of (fun z => by rw [z, hl] at h1; cases h1) h1, paired_imp (fun _ _ z => ?_) h2⟩
  obtain ⟨e, es, g1, g2, g3⟩ := z
  refine ⟨e, es, rm_of (fun z => by rw [z, hl] at g1; cases g1) g1, ?_, paired_imp (fun _ _ z => rm_of (fun e => by have z : H _ = some _ := z; rw [e, hl] at z; cases z) z) g3⟩
  rcases g2 with ⟨x, y, z⟩ | ⟨y, z⟩
  · exact .inl ⟨x, y, rm_of (fun e => by rw [e, hl] at z; cases z) z⟩
  · exact .inr ⟨y, rm_of (fun e => by rw [e, hl] at z; cases z) z⟩
theorem ModAt.rmL (hl : H l = some (.lst xs)) {c : CA} {m : Addr} {ps : List (Int × Int)} (h : ModAt c H m ps) : ModAt c (Bc.rm l H) m ps := by
  obtain ⟨dx, t, ts, h1, h2, h3, h4⟩ := h
  exact ⟨dx, t, ts, rm_of (fun z => by rw [z, hl] at h1; cases h1) h1, rm_of (fun z => by rw [z, hl] at h2; cases h2) h2, paired_imp (fun _ _ z => rm_of (fun e => by have z : H _ = some _ := z; rw [e, hl] at z; cases z) z) h3, h4⟩
theorem BsAt.rmL (hl : H l = some (.lst xs)) {c : CA} {Cb o dx m fa ta : Addr} {ps : List (Int × Int)} {u : Tab} {n : Nat} (md : MdB ps) (st : SetF (figs30 ps) (npx ((figs30 ps).map (·.1))) u n) (ho : H o = some (.ins Cb dx (bsF m fa ta n (szB ps u n)))) (hm : ModAt c H m ps) (hf : FigL H fa (figs30 ps)) (ht : TabT H ta u) (ne : fa ≠ l) : BsAt c Cb (Bc.rm l H) o ps u n :=
  ⟨md, st, dx, m, fa, ta, rm_of (fun z => by rw [z, hl] at ho; cases ho) ho, hm.rmL hl, hf.rmL hl ne, ht.rmL hl⟩
end
end Bc
namespace Bc
open PySem PySem.Spec PyProof.Rows L2
section
variable {J : It} {G : Hp → Prop} {K : PySem.W.Frag} {tt : TT} {te : TE} {vs : List Nat} {σ : L2.St} {H : Hp} {D : Addr} {Qd : Hp → Prop} {i j : Nat}
theorem lc_pairs (us : List (V × V)) (ts : List Addr) (p : V × V → Bool) (f : V × V → V) (w : Walk J (ts.map V.ref).length G (YAt (ts.map V.ref))) (hp : Paired (fun q t => H t = some (.tup [q.1, q.2])) us ts) (hD : H D = none) (hG : ∀ H', Same H H' → G H') (sz : us.length ≤ 100000)
    (wp : ∀ u v, wipe (((wipe σ vs).set i u).set j v) vs = wipe σ vs)
    (tst : ∀ (n : Nat) (q : V × V) (H' : Hp), us[n]? = some q → Same H H' → ∀ Q' : Bool → Hp → Prop, (∀ H'', Same H' H'' → Q' (p q) H'') → tt (((wipe σ vs).set i (some q.1)).set j (some q.2)) H' Q')
    (step : ∀ (n : Nat) (q : V × V) (H' : Hp), us[n]? = some q → p q = true → Same H H' → ∀ Q' : VK, (∀ H'', Same H' H'' → Q' (f q) H'') → te (((wipe σ vs).set i (some q.1)).set j (some q.2)) H' Q')
    (q : ∀ H', Same H H' → H' D = some (.lst ((us.filter p).map f)) → Qd H') :
    ∃ W : Nat → Nat → Hp → Prop, (∃ m, W 0 m (upd H D (.lst []))) ∧ ∀ n m H, W n m H →
      (J.stop n H ∧ Qd H) ∨ (J.go n H ∧ ∃ Nx : Hp → Prop, (∀ H', Nx H' → ∃ m', m' < m ∧ W (n + 1) m' H') ∧ ∀ x H', J.yld n H x H' → gTup K 2 (gCons (gName i) (gCons (gName j) gNil)) x (wipe σ vs) H' fun σ2 H2 => wipe σ2 vs = wipe σ vs ∧ tt σ2 H2 fun b H3 =>
        if b = true then te σ2 H3 fun y H4 => ∃ acc, H4 D = some (.lst acc) ∧ acc.length < sizeLine ∧ Nx (upd H4 D (.lst (acc ++ [y]))) else Nx H3) := by
  have hl := hp.length
  refine lc_it w (fun n H' => H' D = some (.lst (((us.take n).filter p).map f)) ∧ Same H H') ⟨upd_same, Same.new hD⟩ (fun n H' _ h => hG H' h.2) ?_ ?_
  · rintro n x H1 H' hn ⟨h1, h2⟩ ⟨rfl, hx⟩
    obtain ⟨t, ht, rfl⟩ := get_map hx
    obtain ⟨pr, hpr, htp⟩ := paired_get hp ht
    have hn' : n < us.length := (List.getElem?_eq_some_iff.mp hpr).1
    have e : us[n] = pr := by rw [List.getElem?_eq_getElem hn'] at hpr; exact Option.some.inj hpr
    have tk : us.take (n + 1) = us.take n ++ [pr] := by rw [List.take_succ_eq_append_getElem hn', e]
    refine w_gtup (sqt (h2 _ _ htp)) rfl (w_gcons (w_name (w_gcons (w_name (w_gnil ⟨wp _ _, ?_⟩)))))
    refine tst n pr H' hpr h2 _ fun H2 s2 => ?_
    by_cases hq : p pr = true
    · rw [hq]
      refine iteT ?_
      refine step n pr H2 hpr hq (h2.trans s2) _ fun H3 s3 => ?_
      refine ⟨_, s3 _ _ (s2 _ _ h1), ?_, ?_, ?_⟩
      · rw [List.length_map]
        have h5 := List.length_filter_le p (us.take n)
        rw [List.length_take] at h5
        have : (100000 : Nat) < sizeLine := by decide
        omega
      · rw [upd_same, tk, List.filter_append, List.map_append, List.filter_cons, if_pos hq]
        rfl
      · exact fun b o e => by
          rw [upd_ne (ne_of_none e hD)]
          exact s3 _ _ (s2 _ _ (h2 _ _ e))
    · have hq' : p pr = false := by simpa using hq
      rw [hq']
      refine iteF ?_
      refine ⟨?_, h2.trans s2⟩
      rw [s2 _ _ h1, tk, List.filter_append, List.map_append, List.filter_cons, if_neg hq]
      simp
  · rintro H' ⟨h1, h2⟩
    refine q H' h2 ?_
    rw [h1]
    rw [List.length_map, ← hl, List.take_length]
end
section
variable {J : It} {G : Hp → Prop} {tt : TT} {te : TE} {vs : List Nat} {σ : L2.St} {H : Hp} {D : Addr} {Qd : Hp → Prop} {j : Nat}
theorem lc_filtI (xs : List Int) (p : Int → Bool) (w : Walk J (xs.map V.int).length G (YAt (xs.map V.int))) (hD : H D = none) (hG : ∀ H', Same H H' → G H') (sz : xs.length ≤ 100000)
    (wp : ∀ v, wipe ((wipe σ vs).set j v) vs = wipe σ vs)
    (tst : ∀ (i : Nat) (x : Int) (H' : Hp), xs[i]? = some x → Same H H' → ∀ Q' : Bool → Hp → Prop, (∀ H'', Same H' H'' → Q' (p x) H'') → tt ((wipe σ vs).set j (some (.int x))) H' Q')
    (step : ∀ (x : Int) (H' : Hp), Same H H' → ∀ Q' : VK, (∀ H'', Same H' H'' → Q' (.int x) H'') → te ((wipe σ vs).set j (some (.int x))) H' Q')
    (q : ∀ H', Same H H' → H' D = some (.lst ((xs.filter p).map V.int)) → Qd H') :
    ∃ W : Nat → Nat → Hp → Prop, (∃ m, W 0 m (upd H D (.lst []))) ∧ ∀ i m H, W i m H →
      (J.stop i H ∧ Qd H) ∨ (J.go i H ∧ ∃ Nx : Hp → Prop, (∀ H', Nx H' → ∃ m', m' < m ∧ W (i + 1) m' H') ∧ ∀ x H', J.yld i H x H' → gName j x (wipe σ vs) H' fun σ2 H2 => wipe σ2 vs = wipe σ vs ∧ tt σ2 H2 fun b H3 =>
        if b = true then te σ2 H3 fun y H4 => ∃ acc, H4 D = some (.lst acc) ∧ acc.length < sizeLine ∧ Nx (upd H4 D (.lst (acc ++ [y]))) else Nx H3) := by
  refine lc_filt (xs.map V.int) (fun v => match v with | .int z => p z | _ => false) id w hD hG (by rw [List.length_map]; exact sz) wp (fun i x H' hx sm Q' q' => ?_) (fun i x H' hx hp sm Q' q' => ?_) fun H' sm h => q H' sm ?_
  · obtain ⟨z, hz, rfl⟩ := get_map hx
    exact tst i z H' hz sm Q' q'
  · obtain ⟨z, hz, rfl⟩ := get_map hx
    exact step z H' sm Q' q'
  · rw [h, List.map_id, List.filter_map]
    rfl
end
theorem paired_map {H : Hp} : ∀ {ps : List (Int × Int)} {ts : List Addr}, Paired (Tp H) ps ts → Paired (fun q t => H t = some (.tup [q.1, q.2])) (ps.map fun q => ((V.int q.1, V.int q.2) : V × V)) ts
  | _, _, .nil => .nil
  | _, _, .cons r t => .cons r (paired_map t)
end Bc
namespace Bc
open PySem PySem.Spec PyProof.Rows L2
theorem rgC30 {i j c : Int} (c1 : 0 < c) (c2 : c < 1000) (i0 : -1000 ≤ i) (hij : i < j) (j1 : j ≤ 1000) : ∃ n : Nat, RgC i j c n := by
  have l := Int.emod_nonneg (j - i - 1) (show c ≠ 0 by omega)
  have u := Int.emod_lt_of_pos (j - i - 1) c1
  have e := Int.emod_add_mul_ediv (j - i - 1) c
  have d0 : 0 ≤ (j - i - 1) / c := Int.ediv_nonneg (by omega) (by omega)
  obtain ⟨n, hn0⟩ : ∃ n : Nat, (j - i - 1) / c = (n : Int) - 1 := ⟨((j - i - 1) / c + 1).toNat, by omega⟩
  have hsz : Builtin.Range.rangeSize i j c = n := by
    unfold Builtin.Range.rangeSize
    rw [if_pos (by omega), if_pos hij, hn0]
    omega
  rw [hn0, Int.mul_sub, Int.mul_one] at e
  refine ⟨n, by omega, by omega, ?_, hsz⟩
  have hn : (n : Int) ≤ 2001 := by
    have h1 := Int.mul_le_mul_of_nonneg_right (show (1 : Int) ≤ c by omega) (show (0 : Int) ≤ (n : Int) - 1 by omega)
    rw [Int.one_mul, Int.mul_sub, Int.mul_one] at h1
    omega
  have hm : c * (n : Int) < 3000000 := by
    have := Int.mul_le_mul (show c ≤ 999 by omega) hn (by omega) (by decide)
    omega
  have hm0 : 0 ≤ c * (n : Int) := Int.mul_nonneg (by omega) (by omega)
  unfold Builtin.Range.small
  rw [hsz]
  simp only [Builtin.Range.rangeFitsLong, Bool.and_eq_true, Bool.or_eq_true, decide_eq_true_eq, beq_iff_eq]
  simp only [show c > 0 from c1, if_true]
  refine ⟨⟨⟨⟨⟨by omega, by omega⟩, by omega, by omega⟩, by omega, by omega⟩, by omega, by omega⟩, .inr ?_⟩
  rw [Bool.and_eq_true, decide_eq_true_eq, decide_eq_true_eq]
  omega
end Bc
namespace Bc
open PySem PySem.Spec PyProof.Rows L2
theorem wN_snoc {q : Int × Int} {j : Nat} : ∀ {ps : List (Int × Int)} {js : List Nat}, Jok ps js → wN (ps ++ [q]) (js ++ [j]) = wN ps js * q.1.natAbs ^ j
  | _, _, .nil => by
    show q.1.natAbs ^ j * 1 = 1 * q.1.natAbs ^ j
    omega
  | _, _, .cons (a := p) (b := k) (l₁ := l1) (l₂ := l2) h r => by
    show p.1.natAbs ^ k * wN (l1 ++ [q]) (l2 ++ [j]) = p.1.natAbs ^ k * wN l1 l2 * q.1.natAbs ^ j
    rw [wN_snoc r, Nat.mul_assoc]
theorem numN_app : ∀ ps qs : List (Int × Int), numN (ps ++ qs) = numN ps * numN qs
  | [], qs => by
    have : numN ([] : List (Int × Int)) = 1 := rfl
    rw [this, Nat.one_mul, List.nil_append]
  | p :: ps, qs => by rw [List.cons_append, numN_cons, numN_cons, numN_app ps qs, Nat.mul_assoc]
theorem numN_pos : ∀ {ps : List (Int × Int)}, (∀ q ∈ ps, 0 < q.1) → 0 < numN ps
  | [], _ => Nat.one_pos
  | p :: ps, h => by
    rw [numN_cons]
    have := h p List.mem_cons_self
    exact Nat.mul_pos (Nat.pow_pos (by omega)) (numN_pos fun q hq => h q (List.mem_cons_of_mem _ hq))
theorem wN_take {ps : List (Int × Int)} {i : Nat} {js : List Nat} (h : Jok (ps.take i) js) (hp : ∀ q ∈ ps, 0 < q.1) : wN (ps.take i) js ≤ numN ps := by
  have e : numN ps = numN (ps.take i) * numN (ps.drop i) := by rw [← numN_app, List.take_append_drop]
  rw [e]
  have h1 := numN_pos (ps := ps.take i) fun q hq => hp q (List.mem_of_mem_take hq)
  have h2 := numN_pos (ps := ps.drop i) fun q hq => hp q (List.mem_of_mem_drop hq)
  exact Nat.le_trans (Nat.le_of_dvd h1 (wN_dvd h)) (Nat.le_mul_of_pos_right _ h2)
theorem wN_pos : ∀ {ps : List (Int × Int)} {js : List Nat}, Jok ps js → (∀ q ∈ ps, 0 < q.1) → 0 < wN ps js
  | _, _, .nil, _ => Nat.one_pos
  | _, _, .cons (a := p) h r, hp => by
    have := hp p List.mem_cons_self
    exact Nat.mul_pos (Nat.pow_pos (by omega)) (wN_pos r fun q hq => hp q (List.mem_cons_of_mem _ hq))
/-- a modulus of the law -/
structure Pl30 (ps : List (Int × Int)) : Prop where
  asc : Asc 0 ps
  md : MdB ps
  sm : Small ps
  nm : num ps ≤ 400
  ln : ps.length ≤ 4
  pw : ∀ q ∈ ps, q.2 ≤ 12
/-- classes as the law draws them -/
structure Cl30 (ps cs : List (Int × Int)) : Prop where
  ln : cs.length ≤ 6
  js : ∀ x ∈ cs, ∃ js, Jok ps js ∧ x.2 = (wN ps js : Nat)
  lo : ∀ x ∈ cs, x.1.natAbs ≤ 3000
noncomputable def spBalls : Sp := fun vs H Q _ => ∃ (a l : Addr) (ps : List (Int × Int)) (n : Nat) (c : Int), vs = [.ref a, .ref l, .int (n : Int)] ∧ Purse H a c ∧ PrL (rm a H) l ps ∧ Pl30 ps ∧ n ≤ 6 ∧ c < 2 ^ 48 ∧
  ∀ b H' cs, H b = none → Same (rm a H) (rm a H') → Purse H' a (c + 40) → PrL (rm a H') b cs → Cl30 ps cs → Q (.ref b) H'
noncomputable def inB (cs : List (Int × Int)) (x : Int) : Bool := cs.any fun c => decide ((x - c.1) % c.2 = 0)
noncomputable def spMembers : Sp := fun vs H Q _ => ∃ (l : Addr) (cs : List (Int × Int)) (N : Nat), vs = [.ref l, .int (N : Int)] ∧ PrL H l cs ∧ (∀ c ∈ cs, 0 < c.2 ∧ c.2 < 2 ^ 60) ∧ cs.length ≤ 1000 ∧ N ≤ 1000 ∧
  ∀ b H', H b = none → Same H H' → H' b = some (.lst (((List.range N).filter fun x : Nat => inB cs (x : Int)).map fun x : Nat => V.int (x : Int))) → Q (.ref b) H'
/-- a list of pairs that grows while the purse is drawn from -/
structure GPr (R0 : Hp) (a fl : Addr) (cs : List (Int × Int)) (H' : Hp) : Prop where
  ne : fl ≠ a
  sm : Same R0 (rm fl (rm a H'))
  li : ∃ ts : List Addr, H' fl = some (.lst (ts.map V.ref)) ∧ Paired (Tp (rm fl (rm a H'))) cs ts
theorem GPr.mono {R0 H' H2 : Hp} {a fl : Addr} {cs : List (Int × Int)} (G : GPr R0 a fl cs H') (s : Same (rm a H') (rm a H2)) : GPr R0 a fl cs H2 := by
  obtain ⟨n, h1, ts, h2, h3⟩ := G
  exact ⟨n, h1.trans s.rm, ts, rm_le _ _ (s _ _ (rm_of n h2)), paired_imp (fun _ _ z => s.rm _ _ z) h3⟩
theorem GPr.start {R0 H1 : Hp} {a fl : Addr} (ne : fl ≠ a) (n : R0 fl = none) (s : Same R0 (rm a H1)) (k : H1 fl = some (.lst [])) : GPr R0 a fl [] H1 :=
  ⟨ne, fun b o e => rm_of (fun z => by rw [z, n] at e; cases e) (s _ _ e), [], k, .nil⟩
theorem GPr.push {R0 H' : Hp} {a fl p : Addr} {cs : List (Int × Int)} {x : Int × Int} {ts : List Addr} (G : GPr R0 a fl cs H') (k : H' fl = some (.lst (ts.map V.ref))) (hp : Paired (Tp (rm fl (rm a H'))) cs ts) (pa : p ≠ a) (hx : H' p = some (.tup [.int x.1, .int x.2])) : GPr R0 a fl (cs ++ [x]) (L2.upd H' fl (.lst (ts.map V.ref ++ [.ref p]))) := by
  have e : rm fl (rm a (L2.upd H' fl (.lst (ts.map V.ref ++ [.ref p])))) = rm fl (rm a H') := by rw [rm_upd G.ne, rm_updS]
  refine ⟨G.ne, by rw [e]; exact G.sm, ts ++ [p], by rw [L2.upd_same, List.map_append]; rfl, ?_⟩
  rw [e]
  refine paired_app hp (.cons ?_ .nil)
  exact rm_of (fun z => by rw [z, k] at hx; cases hx) (rm_of pa hx)
theorem GPr.all {R0 H' : Hp} {a fl : Addr} {cs : List (Int × Int)} (G : GPr R0 a fl cs H') : PrL (rm a H') fl cs := by
  obtain ⟨n, _, ts, h2, h3⟩ := G
  exact ⟨ts, rm_of n h2, paired_imp (fun _ _ z => rm_le _ _ z) h3⟩
theorem Purse.upd30 {H' : Hp} {a fl : Addr} {c : Int} {o : HO} (p : Purse H' a c) (ne : fl ≠ a) : Purse (L2.upd H' fl o) a c := by
  obtain ⟨x, y, z, e, r⟩ := p
  exact ⟨x, y, z, by rw [L2.upd_ne ne.symm]; exact e, r⟩
noncomputable def bal (r : Int) (q : V × V) : Bool := match q with
  | (.int a, .int b) => decide ((r - a) % b = 0)
  | _ => false
theorem bal_any {cs : List (Int × Int)} {r : Int} : (!decide ((((cs.map fun c => ((V.int c.1, V.int c.2) : V × V)).filter (bal r)).map fun _ => (1 : Int)) = [])) = inB cs r := by
  rw [List.filter_map, List.map_map]
  unfold inB
  have : (bal r ∘ fun c : Int × Int => ((V.int c.1, V.int c.2) : V × V)) = fun c => decide ((r - c.1) % c.2 = 0) := rfl
  rw [this]
  induction cs with
  | nil => rfl
  | cons c cs ih =>
    rw [List.filter_cons, List.any_cons]
    by_cases h : decide ((r - c.1) % c.2 = 0) = true
    · rw [if_pos h, h]
      rfl
    · rw [if_neg h, Bool.not_eq_true _ |>.mp h, Bool.false_or]
      exact ih
noncomputable def isB (cs : List (Int × Int)) (v : V) : Bool := match v with
  | .int x => inB cs x
  | _ => false
theorem mem_filt {cs : List (Int × Int)} {N : Nat} : ((((List.range N).map fun i : Nat => V.int (0 + (i : Int))).filter (isB cs)).map fun v => v) = ((List.range N).filter fun x : Nat => inB cs (x : Int)).map fun x : Nat => V.int (x : Int) := by
  rw [List.map_id', List.filter_map]
  have e1 : (fun i : Nat => V.int (0 + (i : Int))) = fun x : Nat => V.int (x : Int) := funext fun i => by rw [Int.zero_add]
  rw [e1]
  rfl
end Bc
namespace Bc
open PySem PySem.Spec PyProof.Rows L2
section
variable {memI : Int → Bool} {N : Nat}
noncomputable def mN (memI : Int → Bool) (x : Nat) : Bool := memI (x : Int)
noncomputable def Per30 (memI : Int → Bool) (N : Nat) : Prop := 0 < N ∧ ∀ x : Int, memI (x % (N : Int)) = memI x
theorem cm_add {mem : Nat → Bool} {a b : Nat} : cm30 mem (a + b) = cm30 mem a + cm30 (fun x => mem (a + x)) b := by
  induction b with
  | zero => rfl
  | succ b ih =>
    rw [← Nat.add_assoc, cm_succ, ih, cm_succ]
    omega
theorem cm_congr {m1 m2 : Nat → Bool} {n : Nat} (h : ∀ x, x < n → m1 x = m2 x) : cm30 m1 n = cm30 m2 n := by
  unfold cm30
  exact congrArg List.length (List.filter_congr fun x hx => h x (List.mem_range.mp hx))
theorem per_add (P : Per30 memI N) (q x : Nat) : mN memI (q * N + x) = mN memI x := by
  unfold mN
  rw [← P.2 ((q * N + x : Nat) : Int), ← P.2 (x : Int)]
  congr 1
  rw [Int.natCast_add, Int.natCast_mul, Int.add_comm, Int.add_mul_emod_self_right]
theorem cm_per (P : Per30 memI N) (r : Nat) : ∀ q : Nat, cm30 (mN memI) (q * N + r) = q * cm30 (mN memI) N + cm30 (mN memI) r
  | 0 => by rw [Nat.zero_mul, Nat.zero_mul, Nat.zero_add, Nat.zero_add]
  | q + 1 => by
    have e : (q + 1) * N + r = N + (q * N + r) := by rw [Nat.succ_mul]; omega
    have h1 : cm30 (fun x => mN memI (N + x)) (q * N + r) = cm30 (mN memI) (q * N + r) := cm_congr fun x _ => by
      have := per_add P 1 x
      rwa [Nat.one_mul] at this
    rw [e, cm_add, h1, cm_per P r q, Nat.succ_mul]
    omega
theorem cm_mod (P : Per30 memI N) (k : Nat) : cm30 (mN memI) k = k / N * cm30 (mN memI) N + cm30 (mN memI) (k % N) := by
  have := cm_per P (k % N) (k / N)
  rwa [Nat.mul_comm, Nat.div_add_mod] at this
noncomputable def mL (memI : Int → Bool) (N : Nat) : List Nat := (List.range N).filter (mN memI)
theorem mL_len : (mL memI N).length = cm30 (mN memI) N := rfl
theorem mL_at {x : Nat} (hx : x < N) (h : mN memI x = true) : (mL memI N)[cm30 (mN memI) x]? = some x := member_nth h N hx
theorem mL_less {r : Nat} (h : r ≤ N) : ((mL memI N).filter fun x => decide (x < r)).length = cm30 (mN memI) r := by
  unfold mL cm30
  rw [List.filter_filter]
  obtain ⟨k, rfl⟩ : ∃ k, N = r + k := ⟨N - r, by omega⟩
  rw [List.range_add, List.filter_append, List.length_append]
  have e1 : (List.range r).filter (fun a => decide (a < r) && mN memI a) = (List.range r).filter (mN memI) := List.filter_congr fun x hx => by rw [decide_eq_true (List.mem_range.mp hx), Bool.true_and]
  have e2 : ((List.range k).map fun x => r + x).filter (fun a => decide (a < r) && mN memI a) = [] := List.filter_eq_nil_iff.mpr fun x hx hz => by
    obtain ⟨y, _, rfl⟩ := List.mem_map.mp hx
    rw [Bool.and_eq_true] at hz
    have := of_decide_eq_true hz.1
    omega
  rw [e1, e2]
  rfl
/-- the least member from an integer on -/
structure Lst30 (memI : Int → Bool) (s v : Int) : Prop where
  le : s ≤ v
  mm : memI v = true
  lt : ∀ y, s ≤ y → y < v → memI y = false
theorem Lst30.uniq {s v w : Int} (h : Lst30 memI s v) (k : Lst30 memI s w) : v = w := by
  rcases Int.lt_trichotomy v w with c | c | c
  · have := k.lt v h.le c
    rw [h.mm] at this
    cases this
  · exact c
  · have := h.lt w k.le c
    rw [k.mm] at this
    cases this
theorem Lst30.self {v : Int} (h : memI v = true) : Lst30 memI v v := ⟨Int.le_refl _, h, fun y a b => by omega⟩
theorem cm_lt {mem : Nat → Bool} {a b : Nat} (h : a < b) (hm : mem a = true) : cm30 mem a < cm30 mem b := by
  have h1 := cm_mono (mem := mem) (show a + 1 ≤ b from h)
  rw [cm_succ, if_pos hm] at h1
  omega
theorem frm_least (P : Per30 memI N) {s : Int} {x o : Nat} (hx : x < N) (hm : mN memI x = true) (ho : o = cm30 (mN memI) (s % (N : Int)).toNat) (hc : cm30 (mN memI) x = o % cm30 (mN memI) N) (hz : 0 < cm30 (mN memI) N) :
    Lst30 memI s ((s / (N : Int) + (o : Int) / ((cm30 (mN memI) N : Nat) : Int)) * (N : Int) + (x : Int)) ∧ (s / (N : Int) + (o : Int) / ((cm30 (mN memI) N : Nat) : Int)) * (N : Int) + (x : Int) < s + (N : Int) := by
  have N0 := P.1
  obtain ⟨t, ht⟩ : ∃ t, t = s / (N : Int) := ⟨_, rfl⟩
  obtain ⟨r, hr⟩ : ∃ r : Nat, r = (s % (N : Int)).toNat := ⟨_, rfl⟩
  have m0 := Int.emod_nonneg s (show (N : Int) ≠ 0 by omega)
  have m1 := Int.emod_lt_of_pos s (show (0 : Int) < (N : Int) by omega)
  have hs := Int.mul_ediv_add_emod s (N : Int)
  have hr1 : (r : Int) = s % (N : Int) := by omega
  rw [← ht, ← hr1, Int.mul_comm] at hs
  rw [← hr] at ho
  rw [← ht]
  have hrN : r < N := by omega
  -- a member y of the integers by its rest
  have rep : ∀ (q : Int) (z : Nat), memI (q * (N : Int) + (z : Int)) = mN memI z := fun q z => by
    unfold mN
    rw [← P.2 (q * (N : Int) + (z : Int)), ← P.2 (z : Int), Int.add_comm, Int.add_mul_emod_self_right]
  have hoz : o ≤ cm30 (mN memI) N := by rw [ho]; exact cm_mono (Nat.le_of_lt hrN)
  by_cases c : o < cm30 (mN memI) N
  · have e0 : (o : Int) / ((cm30 (mN memI) N : Nat) : Int) = 0 := Int.ediv_eq_zero_of_lt (by omega) (by omega)
    rw [e0, Int.add_zero]
    rw [Nat.mod_eq_of_lt c, ho] at hc
    have hrx : r ≤ x := by
      rcases Nat.lt_or_ge x r with h | h
      · have := cm_lt h hm
        omega
      · exact h
    refine ⟨⟨by omega, by rw [rep]; exact hm, fun y h1 h2 => ?_⟩, by omega⟩
    obtain ⟨z, hz'⟩ : ∃ z : Nat, y = t * (N : Int) + (z : Int) := ⟨(y - t * (N : Int)).toNat, by omega⟩
    rw [hz', rep]
    cases hmz : mN memI z with
    | false => rfl
    | true =>
      exfalso
      have h3 := cm_lt (mem := mN memI) (show z < x by omega) hmz
      have h4 := cm_mono (mem := mN memI) (show r ≤ z by omega)
      omega
  · have eo : o = cm30 (mN memI) N := by omega
    have e1 : (o : Int) / ((cm30 (mN memI) N : Nat) : Int) = 1 := by rw [eo]; exact Int.ediv_self (by omega)
    rw [e1, Int.add_mul, Int.one_mul]
    rw [eo, Nat.mod_self] at hc
    have hxr : x < r := by
      rcases Nat.lt_or_ge x r with h | h
      · exact h
      · have h1 := cm_mono (mem := mN memI) h
        omega
    refine ⟨⟨by omega, ?_, fun y h1 h2 => ?_⟩, by omega⟩
    · have := rep (t + 1) x
      rw [Int.add_mul, Int.one_mul] at this
      rw [this]
      exact hm
    · obtain ⟨z, hz'⟩ : ∃ z : Nat, y = t * (N : Int) + (z : Int) := ⟨(y - t * (N : Int)).toNat, by omega⟩
      by_cases cz : z < N
      · rw [hz', rep]
        cases hmz : mN memI z with
        | false => rfl
        | true =>
          exfalso
          have h3 := cm_lt (mem := mN memI) cz hmz
          have h4 := cm_mono (mem := mN memI) (show r ≤ z by omega)
          omega
      · obtain ⟨w, hw⟩ : ∃ w : Nat, z = N + w := ⟨z - N, by omega⟩
        have e2 : y = (t + 1) * (N : Int) + (w : Int) := by rw [Int.add_mul, Int.one_mul]; omega
        rw [e2, rep]
        cases hmw : mN memI w with
        | false => rfl
        | true =>
          exfalso
          have h3 := cm_lt (mem := mN memI) (show w < x by omega) hmw
          omega
/-- the first of the later ones -/
theorem later_first {s v : Int} (h : Lst30 memI s v) (hl : v < s + (N : Int)) {l : List Int} (hl' : l = ((List.range N).map fun i : Nat => s + (i : Int)).filter memI) : l[0]? = some v := by
  subst hl'
  obtain ⟨k, hk⟩ : ∃ k : Nat, v = s + (k : Int) := ⟨(v - s).toNat, by have := h.le; omega⟩
  obtain ⟨m, hm⟩ : ∃ m, N = k + (m + 1) := ⟨N - k - 1, by omega⟩
  rw [hm, List.range_add, List.map_append, List.filter_append]
  have e1 : ((List.range k).map fun i : Nat => s + (i : Int)).filter memI = [] := List.filter_eq_nil_iff.mpr fun y hy hz => by
    obtain ⟨i, hi, rfl⟩ := List.mem_map.mp hy
    have := h.lt (s + (i : Int)) (by omega) (by have := List.mem_range.mp hi; omega)
    rw [this] at hz
    cases hz
  rw [e1, List.nil_append, List.range_succ_eq_map, List.map_cons, List.map_cons, List.filter_cons, if_pos (by
    have := h.mm
    rw [hk] at this
    exact this)]
  rw [hk]
  rfl
end
end Bc
namespace Bc
open PySem PySem.Spec PyProof.Rows L2
theorem figs_hit {ps : List (Int × Int)} (ha : Asc 0 ps) {d : Nat → Nat} (hd : Val (figs30 ps).length (pF (figs30 ps)) d) : ∃ x : Nat, (x : Int) < num ps ∧ ∀ i, i < (figs30 ps).length → dig (figs30 ps) (x : Int) i = d i := by
  obtain ⟨m, hm⟩ : ∃ m, m = (figs30 ps).length := ⟨_, rfl⟩
  have hpos : ∀ q ∈ ps, 0 < q.1 := fun q hq => by have := (ha.prs q hq).1.1; omega
  have hF : ∀ e ∈ figs30 ps, 0 < e.1 := fun e he => (figs_pos hpos he).1
  have hnum := figs_prod hpos
  have hc : (((List.range (num ps).toNat).map fun x : Nat => (List.range m).map (dig (figs30 ps) (x : Int))).filter fun ds => decide (ds = (List.range m).map d)).length = ((prodL ((figs30 ps).map (·.1))).filter fun ds => decide (ds = (List.range m).map d)).length := by
    refine count_sub _ ?_ (fun ds hds => ?_) (by rw [prodL_len, List.length_map, List.length_range]; omega)
    · refine List.Pairwise.map _ (fun a b (hab : a ≠ b ∧ a < (num ps).toNat ∧ b < (num ps).toNat) e => hab.1 ?_) (List.Pairwise.and_mem.mp List.nodup_range |>.imp fun {a b} hab => ⟨hab.2.2, List.mem_range.mp hab.1, List.mem_range.mp hab.2.1⟩)
      refine figs_inj ha (by omega) (by omega) fun f hf => ?_
      obtain ⟨i, hi, ef⟩ := List.getElem_of_mem hf
      have hfi : (figs30 ps)[i]? = some f := List.getElem?_eq_some_iff.mpr ⟨hi, ef⟩
      have := congrArg (fun l : List Nat => l[i]?) e
      simp only [List.getElem?_map, List.getElem?_range (show i < m by omega), Option.map_some, Option.some.injEq] at this
      rw [dig_at hfi, dig_at hfi] at this
      have hp := hF f hf
      have a1 := Int.emod_nonneg ((a : Int) / (f.2 : Int)) (show ((f.1 : Nat) : Int) ≠ 0 by omega)
      have b1 := Int.emod_nonneg ((b : Int) / (f.2 : Int)) (show ((f.1 : Nat) : Int) ≠ 0 by omega)
      omega
    · obtain ⟨x, _, rfl⟩ := List.mem_map.mp hds
      refine prodL_mem (by rw [List.length_map, List.length_range, List.length_map, hm]) fun i hi => ?_
      rw [List.length_map, ← hm] at hi
      have := dig_val hF (b := (x : Int)) i (by omega)
      rw [List.getD_eq_getElem?_getD, List.getElem?_map, List.getElem?_range hi]
      exact this
  have hin : (List.range m).map d ∈ prodL ((figs30 ps).map (·.1)) := prodL_mem (by rw [List.length_map, List.length_range, List.length_map, hm]) fun i hi => by
    rw [List.length_map, ← hm] at hi
    have := hd i (by omega)
    rw [List.getD_eq_getElem?_getD, List.getElem?_map, List.getElem?_range hi]
    exact this
  have h1 : 0 < ((prodL ((figs30 ps).map (·.1))).filter fun ds => decide (ds = (List.range m).map d)).length := List.length_pos_of_mem (List.mem_filter.mpr ⟨hin, decide_eq_true rfl⟩)
  rw [← hc] at h1
  obtain ⟨ds, hds⟩ := List.exists_mem_of_length_pos h1
  obtain ⟨h2, h3⟩ := List.mem_filter.mp hds
  obtain ⟨x, hx, rfl⟩ := List.mem_map.mp h2
  have h3 := of_decide_eq_true h3
  refine ⟨x, by have := List.mem_range.mp hx; omega, fun i hi => ?_⟩
  have := congrArg (fun l : List Nat => l[i]?) h3
  simp only [List.getElem?_map, List.getElem?_range (show i < m by omega), Option.map_some, Option.some.injEq] at this
  exact this
theorem dig_per {ps : List (Int × Int)} (md : MdB ps) (x : Int) : dig (figs30 ps) (x % num ps) = dig (figs30 ps) x := by
  funext i
  have C := figs_c (Int.le_refl 0) md.asc
  unfold dig
  cases h : (figs30 ps)[i]? with
  | none => rfl
  | some e =>
    obtain ⟨hi, _⟩ := List.getElem?_eq_some_iff.mp h
    obtain ⟨h1, h2, h3, _⟩ := md.fg.e e (List.mem_of_getElem? h)
    have hd := C.dv i hi
    rw [wt_at h, pF_at h] at hd
    show (x % num ps / (e.2 : Int) % (e.1 : Int)).toNat = (x / (e.2 : Int) % (e.1 : Int)).toNat
    obtain ⟨k, hk⟩ := hd
    have e1 : x % num ps = x + (e.2 : Int) * ((e.1 : Int) * (-(k * (x / num ps)))) := by
      have := Int.mul_ediv_add_emod x (num ps)
      have e2 : num ps * (x / num ps) = (e.2 : Int) * ((e.1 : Int) * (k * (x / num ps))) := by
        generalize x / num ps = Q
        rw [hk]
        simp only [Int.mul_assoc]
      rw [Int.mul_neg, Int.mul_neg]
      omega
    rw [e1, Int.add_mul_ediv_left _ _ (by omega), Int.add_mul_emod_self_left]
theorem memB_per {ps : List (Int × Int)} (md : MdB ps) {u : Tab} {n : Nat} : Per30 (memB ps u n) (num ps).toNat := by
  have := md.num
  refine ⟨by omega, fun x => ?_⟩
  unfold memB
  rw [Int.toNat_of_nonneg (by omega), dig_per md]
theorem inCls_iff {ps cs : List (Int × Int)} (ha : Asc 0 ps) (hj : ∀ x ∈ cs, ∃ js, Jok ps js ∧ x.2 = (wN ps js : Nat)) (x : Int) : InCls (figs30 ps) cs (dig (figs30 ps) x) ↔ inB cs x = true := by
  have hpos : ∀ q ∈ ps, 0 < q.1 := fun q hq => by have := (ha.prs q hq).1.1; omega
  have one : ∀ c ∈ cs, (∀ j, j < (figs30 ps).length → onW (figs30 ps) c.2 j = true → dig (figs30 ps) x j = dig (figs30 ps) c.1 j) ↔ (x - c.1) % c.2 = 0 := fun c hc => by
    obtain ⟨js, h1, h2⟩ := hj c hc
    rw [h2, class_figs ha h1]
    have key : ∀ j e, (figs30 ps)[j]? = some e → (onW (figs30 ps) ((wN ps js : Nat) : Int) j = true ↔ e.2 * e.1 ∣ wN ps js) ∧ (dig (figs30 ps) x j = dig (figs30 ps) c.1 j ↔ x / (e.2 : Int) % (e.1 : Int) = c.1 / (e.2 : Int) % (e.1 : Int)) := fun j e he => by
      have hp := (figs_pos hpos (List.mem_of_getElem? he)).1
      refine ⟨?_, ?_⟩
      · unfold onW
        rw [he]
        show decide _ = true ↔ _
        rw [decide_eq_true_iff, ← Int.natCast_mul]
        constructor
        · intro z
          exact Int.natCast_dvd_natCast.mp (Int.dvd_of_emod_eq_zero z)
        · intro z
          exact Int.emod_eq_zero_of_dvd (Int.natCast_dvd_natCast.mpr z)
      · rw [dig_at he, dig_at he]
        have a1 := Int.emod_nonneg (x / (e.2 : Int)) (show ((e.1 : Nat) : Int) ≠ 0 by omega)
        have b1 := Int.emod_nonneg (c.1 / (e.2 : Int)) (show ((e.1 : Nat) : Int) ≠ 0 by omega)
        omega
    constructor
    · intro h e he hd
      obtain ⟨j, hj', ej⟩ := List.getElem_of_mem he
      have hx : (figs30 ps)[j]? = some e := List.getElem?_eq_some_iff.mpr ⟨hj', ej⟩
      exact (key j e hx).2.mp (h j hj' ((key j e hx).1.mpr hd))
    · intro h j hj' ho
      have hx : (figs30 ps)[j]? = some (figs30 ps)[j] := List.getElem?_eq_getElem hj'
      exact (key j _ hx).2.mpr (h _ (List.mem_of_getElem? hx) ((key j _ hx).1.mp ho))
  unfold InCls inB
  rw [List.any_eq_true]
  constructor
  · rintro ⟨c, hc, h⟩
    exact ⟨c, hc, decide_eq_true ((one c hc).mp h)⟩
  · rintro ⟨c, hc, h⟩
    exact ⟨c, hc, (one c hc).mpr (of_decide_eq_true h)⟩
/-- a set made of classes has just their members -/
theorem made_mem {ps cs : List (Int × Int)} (md : MdB ps) (hj : ∀ x ∈ cs, ∃ js, Jok ps js ∧ x.2 = (wN ps js : Nat)) {u : Tab} {n : Nat} (h : ∀ d, Val (figs30 ps).length (pF (figs30 ps)) d → (sem u n d = true ↔ InCls (figs30 ps) cs d)) (x : Int) : memB ps u n x = inB cs x := by
  have hF : ∀ e ∈ figs30 ps, 0 < e.1 := fun e he => (figs_pos md.pos he).1
  have h1 := (h _ (dig_val hF (b := x))).trans (inCls_iff md.asc hj x)
  unfold memB
  cases hb : inB cs x with
  | true => exact h1.mpr hb
  | false =>
    cases hs : sem u n (dig (figs30 ps) x) with
    | false => rfl
    | true => rw [h1.mp hs] at hb; cases hb
theorem Val.loc {m : Nat} {t : Tab} (h : WF m t) {n : Nat} (hn : n < t.length) {d e : Nat → Nat} (he : ∀ i, i < m → d i = e i) : sem t n d = sem t n e := sem_loc h n hn fun i _ hi => he i hi
/-- two sets with the same members are the same -/
theorem set_same {ps : List (Int × Int)} (md : MdB ps) {N N' : Nat} {u v : Tab} {n k : Nat} (a : SetF (figs30 ps) N u n) (b : SetF (figs30 ps) N' v k) (h : ∀ x : Nat, (x : Int) < num ps → memB ps u n (x : Int) = memB ps v k (x : Int)) : u = v ∧ n = k := by
  refine a.same md.fg b fun d hd => ?_
  obtain ⟨x, hx, e⟩ := figs_hit md.asc hd
  have h1 := h x hx
  unfold memB at h1
  rw [Val.loc a.can.wf a.lt (fun i hi => e i hi), Val.loc b.can.wf b.lt (fun i hi => e i hi)] at h1
  exact h1
/-- two sets that are the same have the same members -/
theorem set_diff {ps : List (Int × Int)} {u v : Tab} {n k : Nat} {x : Int} (h : memB ps u n x ≠ memB ps v k x) : ¬ (u = v ∧ n = k) := fun z => by
  rw [z.1, z.2] at h
  exact h rfl
end Bc
namespace Bc
open PySem PySem.Spec PyProof.Rows L2
noncomputable def mI (memI : Int → Bool) (N : Nat) : List Int := (mL memI N).map fun x : Nat => (x : Int)
theorem mI_len {memI : Int → Bool} {N : Nat} : (mI memI N).length = cm30 (mN memI) N := by
  unfold mI
  rw [List.length_map, mL_len]
theorem mI_at {memI : Int → Bool} {N x : Nat} (hx : x < N) (h : mN memI x = true) : (mI memI N)[cm30 (mN memI) x]? = some (x : Int) := by
  unfold mI
  rw [List.getElem?_map, mL_at hx h]
  rfl
theorem mI_less {memI : Int → Bool} {N r : Nat} (h : r ≤ N) : ((mI memI N).filter fun x => decide (x < (r : Int))).length = cm30 (mN memI) r := by
  unfold mI
  rw [List.filter_map, List.length_map, ← mL_less h]
  refine congrArg List.length (List.filter_congr fun x _ => ?_)
  show decide ((x : Int) < (r : Int)) = decide (x < r)
  exact decide_eq_decide.mpr (by omega)
theorem mI_mem {memI : Int → Bool} {N : Nat} (P : Per30 memI N) (y : Int) : decide (y % (N : Int) ∈ mI memI N) = memI y := by
  have m0 := Int.emod_nonneg y (show (N : Int) ≠ 0 by have := P.1; omega)
  have m1 := Int.emod_lt_of_pos y (show (0 : Int) < (N : Int) by have := P.1; omega)
  rw [← P.2 y]
  cases h : memI (y % (N : Int)) with
  | true =>
    refine decide_eq_true ?_
    unfold mI mL
    refine List.mem_map.mpr ⟨(y % (N : Int)).toNat, List.mem_filter.mpr ⟨List.mem_range.mpr (by omega), ?_⟩, by omega⟩
    unfold mN
    rw [Int.toNat_of_nonneg m0]
    exact h
  | false =>
    refine decide_eq_false fun z => ?_
    unfold mI mL at z
    obtain ⟨x, hx, e⟩ := List.mem_map.mp z
    have := (List.mem_filter.mp hx).2
    unfold mN at this
    rw [e, h] at this
    cases this
noncomputable def spOrdR (c : CA) (Cb : Addr) : Sp := fun vs H Q _ => ∃ (a o l : Addr) (ps : List (Int × Int)) (u : Tab) (n : Nat) (cc : Int), vs = [.ref a, .ref o, .ref l, .int (num ps)] ∧ Purse H a cc ∧ cc < 2 ^ 48 ∧ BsAt c Cb (rm a H) o ps u n ∧ num ps ≤ 400 ∧ rm a H l = some (.lst ((mI (memB ps u n) (num ps).toNat).map V.int)) ∧
  ∀ H', Same (rm a H) (rm a H') → Purse H' a (cc + 20) → Q (.bl true) H'
theorem int_flat30 (ls : List Int) : (ls.map V.int).all flatV = true := by
  induction ls with
  | nil => rfl
  | cons a r ih =>
    rw [List.map_cons, List.all_cons, ih]
    rfl
theorem int_in30 (x : Int) (ls : List Int) : inV (.int x) (ls.map V.int) = decide (x ∈ ls) := by
  unfold inV
  induction ls with
  | nil => rfl
  | cons a r ih =>
    rw [List.map_cons, List.any_cons, ih]
    have : eqV (.int a) (.int x) = decide (a = x) := rfl
    rw [this, ← Bool.decide_or]
    exact decide_eq_decide.mpr ⟨fun h => h.elim (fun h => h ▸ List.mem_cons_self) (List.mem_cons_of_mem _), fun h => (List.mem_cons.mp h).elim (fun h => .inl h.symm) .inr⟩
theorem w_inI30 {K : PySem.W.Frag} {H : Hp} {p : Addr} {x : Int} {ls : List Int} {Q : VK} (h : SqL K H p (ls.map V.int)) (q : Q (.bl (decide (x ∈ ls))) H) : rIn K false (.int x) (.ref p) H Q :=
  ⟨p, _, rfl, .inl h, rfl, int_flat30 ls, by rw [if_neg (by decide), int_in30]; exact q⟩
end Bc
namespace Bc
open PySem PySem.Spec PyProof.Rows L2
noncomputable def okP (ps : List (Int × Int)) : Bool := decide (∀ x ∈ figs30 ps, 2 ≤ x.1 ∧ x.1 < 1024 ∧ 0 < x.2 ∧ x.2 < 2 ^ 1000) && decide ((figs30 ps).length ≤ 29) && decide (num ps ≤ 400) && decide (npx ((figs30 ps).map (·.1)) ≤ 40000) && decide (sgB (figs30 ps) 0 ≤ 10000000) && decide (∀ q ∈ ps, 0 < q.1 ∧ q.1 < 1024 ∧ 0 < q.2 ∧ q.2 ≤ 12) && decide (ps.length ≤ 4)
theorem pl30 {ps : List (Int × Int)} (ha : Asc 0 ps) (h : okP ps = true) : Pl30 ps := by
  unfold okP at h
  simp only [Bool.and_eq_true, decide_eq_true_eq] at h
  obtain ⟨⟨⟨⟨⟨⟨h1, h2⟩, h3⟩, h4⟩, h5⟩, h6⟩, h7⟩ := h
  exact ⟨ha, ⟨ha, ⟨h1, by omega⟩, by omega, h4, h5, h2⟩, ⟨fun q hq => ⟨(h6 q hq).1, (h6 q hq).2.1, (h6 q hq).2.2.1, by have := (h6 q hq).2.2.2; omega⟩, by omega⟩, h3, h7, fun q hq => (h6 q hq).2.2.2⟩
theorem pl30_0 : Pl30 [(2, 5)] := pl30 (by unfold Asc; exact ⟨by decide, by decide, by decide +kernel, trivial⟩) (by decide +kernel)
theorem pl30_1 : Pl30 [(3, 3)] := pl30 (by unfold Asc; exact ⟨by decide, by decide, by decide +kernel, trivial⟩) (by decide +kernel)
theorem pl30_2 : Pl30 [(5, 2)] := pl30 (by unfold Asc; exact ⟨by decide, by decide, by decide +kernel, trivial⟩) (by decide +kernel)
theorem pl30_3 : Pl30 [(2, 3), (3, 2)] := pl30 (by unfold Asc; exact ⟨by decide, by decide, by decide +kernel, by decide, by decide, by decide +kernel, trivial⟩) (by decide +kernel)
theorem pl30_4 : Pl30 [(2, 2), (3, 1), (5, 1)] := pl30 (by unfold Asc; exact ⟨by decide, by decide, by decide +kernel, by decide, by decide, by decide +kernel, by decide, by decide, by decide +kernel, trivial⟩) (by decide +kernel)
theorem pl30_5 : Pl30 [(7, 2)] := pl30 (by unfold Asc; exact ⟨by decide, by decide, by decide +kernel, trivial⟩) (by decide +kernel)
theorem pl30_6 : Pl30 [] := pl30 trivial (by decide +kernel)
theorem pl30_7 : Pl30 [(2, 1), (11, 1)] := pl30 (by unfold Asc; exact ⟨by decide, by decide, by decide +kernel, by decide, by decide, by decide +kernel, trivial⟩) (by decide +kernel)
theorem pl30_8 : Pl30 [(2, 8)] := pl30 (by unfold Asc; exact ⟨by decide, by decide, by decide +kernel, trivial⟩) (by decide +kernel)
theorem pl30_9 : Pl30 [(13, 2)] := pl30 (by unfold Asc; exact ⟨by decide, by decide, by decide +kernel, trivial⟩) (by decide +kernel)
theorem pl30_10 : Pl30 [(2, 3), (3, 2), (5, 1)] := pl30 (by unfold Asc; exact ⟨by decide, by decide, by decide +kernel, by decide, by decide, by decide +kernel, by decide, by decide, by decide +kernel, trivial⟩) (by decide +kernel)
theorem pl30_11 : Pl30 [(3, 1), (5, 2)] := pl30 (by unfold Asc; exact ⟨by decide, by decide, by decide +kernel, by decide, by decide, by decide +kernel, trivial⟩) (by decide +kernel)
theorem pl30_a : Pl30 [(2, 2), (3, 1)] := pl30 ⟨by decide, by decide, by decide +kernel, by decide, by decide, by decide +kernel, trivial⟩ (by decide +kernel)
theorem pl30_b : Pl30 [(2, 3)] := pl30 ⟨by decide, by decide, by decide +kernel, trivial⟩ (by decide +kernel)
noncomputable def prD (e : Int × Int) : PyData := .tuple ([e.1, e.2].map PyData.int)
theorem dp_prs30 {K : PySem.W.Frag} {H : Hp} : ∀ {es : List (Int × Int)} {ts : List Addr}, Paired (Tp H) es ts → DpAll K H (ts.map V.ref) (es.map prD)
  | _, _, .nil => .nil
  | _, _, .cons h r => .cons (.tup (.inl (.inl h)) (dp_ints [_, _])) (dp_prs30 r)
theorem eqv_pr (a b : Int × Int) : PyData.eqv (prD a) (prD b) = decide (a = b) := by
  unfold prD
  rw [PyData.eqv, eqv_ints]
  refine decide_eq_decide.mpr ⟨fun h => ?_, fun h => by rw [h]⟩
  injection h with h1 h2
  injection h2 with h2 _
  exact Prod.ext h1 h2
theorem shaped_prs (es : List (Int × Int)) : SeqAt.shaped (.list (es.map prD)) = true := by
  have l1 : ∀ e, (prD e).canLay0 = true := fun e => by unfold prD; rw [PyData.canLay0, lay_ints]
  have d1 : ∀ e, (prD e).depth ≤ 1 := fun e => by unfold prD; rw [PyData.depth, depth_ints]; exact Nat.le_refl _
  have d2 := all_deep d1 es
  unfold SeqAt.shaped
  rw [PyData.canLay0, all_lay l1, PyData.depth, Bool.true_and]
  exact decide_eq_true (by omega)
theorem w_nePr {K : PySem.W.Frag} {H : Hp} {p q : Addr} {cs ds : List (Int × Int)} {Q : VK} (h1 : PrL H p cs) (h2 : PrL H q ds) (k : Q (.bl (!decide (cs = ds))) H) : rNeD K (.ref p) (.ref q) H Q := by
  obtain ⟨ts, a1, a2⟩ := h1
  obtain ⟨us, b1, b2⟩ := h2
  exact ⟨_, _, .lst (sq a1) (dp_prs30 a2), .lst (sq b1) (dp_prs30 b2), shaped_prs _, shaped_prs _, by rw [PyData.eqv, eqv_all30 eqv_pr]; exact k⟩
theorem w_iRng3 {as : TA} {σ : L2.St} {H : Hp} {R : It → Hp → Prop} (q : as σ H fun vs H1 => ∃ (i j c : Int) (n : Nat), vs = [.int i, .int j, .int c] ∧ RgC i j c n ∧ R (Itc i c n) H1) : iRng3 as σ H R := q
theorem wN_full : ∀ ps : List (Int × Int), Jok ps (ps.map fun q => q.2.toNat) ∧ wN ps (ps.map fun q => q.2.toNat) = numN ps
  | [] => ⟨.nil, rfl⟩
  | q :: ps => by
    have ih := wN_full ps
    refine ⟨.cons (Nat.le_refl _) ih.1, ?_⟩
    rw [numN_cons, List.map_cons]
    show q.1.natAbs ^ q.2.toNat * wN ps (ps.map fun q => q.2.toNat) = _
    rw [ih.2]
section
variable {H : Hp} {a : Addr} {cc : Int}
theorem rm_comm30 {a l : Addr} {H : Hp} : Bc.rm a (Bc.rm l H) = Bc.rm l (Bc.rm a H) := by
  funext b
  unfold Bc.rm
  split <;> split <;> rfl
theorem FigL.rmP (pu : Purse H a cc) {l : Addr} {F : List (Nat × Nat)} (h : FigL H l F) : FigL (Bc.rm a H) l F := by
  obtain ⟨ts, h1, h2⟩ := h
  exact ⟨ts, rm_of (pu.ne h1 refs_ne) h1, paired_imp (fun _ _ z => rm_of (pu.ne z fun _ _ _ w => by cases w) z) h2⟩
theorem TabT.rmP (pu : Purse H a cc) {l : Addr} {t : Tab} (h : TabT H l t) : TabT (Bc.rm a H) l t := by
  obtain ⟨ts, h1, h2⟩ := h
  refine ⟨ts, rm_of (pu.ne h1 fun _ _ _ w => by cases w) h1, paired_imp (fun _ _ z => ?_) h2⟩
  obtain ⟨e, es, g1, g2, g3⟩ := z
  refine ⟨e, es, rm_of (pu.ne g1 fun _ _ _ w => by cases w) g1, ?_, paired_imp (fun _ _ z => rm_of (pu.ne z fun _ _ _ w => by cases w) z) g3⟩
  rcases g2 with ⟨x, y, z⟩ | ⟨y, z⟩
  · exact .inl ⟨x, y, rm_of (pu.ne z fun _ _ _ w => by cases w) z⟩
  · exact .inr ⟨y, rm_of (pu.ne z fun _ _ _ w => by cases w) z⟩
theorem BsAt.rmP {c : CA} {Cb : Addr} (pu : Purse H a cc) {o : Addr} {ps : List (Int × Int)} {u : Tab} {n : Nat} (h : BsAt c Cb H o ps u n) : BsAt c Cb (Bc.rm a H) o ps u n := by
  obtain ⟨md, st, dx, m, fa, ta, h1, h2, h3, h4⟩ := h
  exact ⟨md, st, dx, m, fa, ta, rm_of (pu.ne h1 fun _ _ _ w => by cases w) h1, h2.rm pu, h3.rmP pu, h4.rmP pu⟩
/-- classes that a set may be made of -/
noncomputable def Ok30 (ps cs : List (Int × Int)) : Prop := cs.length ≤ 100000 ∧ ∀ x ∈ cs, ∃ js, Jok ps js ∧ x.2 = (wN ps js : Nat)
theorem Cl30.ok {ps cs : List (Int × Int)} (h : Cl30 ps cs) : Ok30 ps cs := ⟨by have := h.ln; omega, h.js⟩
theorem use_bsR {K : PySem.W.Frag} {c : CA} {Cb Cr : Addr} {PP : Addr → Hp → Prop} {E : XK} {m l : Addr} {ps cs : List (Int × Int)} (pu : Purse H a cc) (md : MdB ps) (hm : ModAt c (Bc.rm a H) m ps) (hl : ClsL K (Bc.rm a H) l cs) (ok : Ok30 ps cs)
    (q : ∀ o H' u n, H o = none → Same (Bc.rm a H) (Bc.rm a H') → Purse H' a cc → BsAt c Cb (Bc.rm a H') o ps u n → (∀ xs, H l = some (.lst xs) → l ≠ a → BsAt c Cb (Bc.rm l (Bc.rm a H')) o ps u n) → (∀ x, memB ps u n x = inB cs x) → PP o H') :
    ∀ x dx, H x = none → H dx = none → dx ≠ x → spBsInit K c Cb Cr (.ref x :: ([.ref m, .ref l] ++ [])) (upd (upd H dx (.own x)) x (.ins Cb dx [])) (fun v H2 => v = .non ∧ PP x H2) E := fun x dx nx nd ne => by
  have up : Same H (L2.upd (L2.upd H dx (.own x)) x (.ins Cb dx [])) := fun b o' e => by rw [L2.upd_ne (new_ne e nx).symm, L2.upd_ne (new_ne e nd).symm]; exact e
  have hnum := num_cast (Int.le_refl 0) md.asc
  refine ⟨x, dx, m, l, ps, rfl, L2.upd_same, md, (hm.same rm_le).same up, .inl ⟨cs, (hl.same rm_le).same up, ok.1, fun e he => ?_, fun H' u n k hb hbl hin => ⟨rfl, ?_⟩⟩⟩
  · obtain ⟨js, j1, j2⟩ := ok.2 e he
    have := wN_pos j1 md.pos
    refine ⟨by omega, ?_⟩
    rw [j2, hnum]
    exact Int.emod_eq_zero_of_dvd (Int.natCast_dvd_natCast.mpr (wN_dvd j1))
  · have s : Same H H' := fun b o' e => k b o' (new_ne e nx).symm (up _ _ e)
    refine q x H' u n nx s.rm (pu.same s) (hb.rmP (pu.same s)) (fun xs hx nla => ?_) fun y => made_mem md ok.2 hin y
    have pl : Purse (Bc.rm l H') a cc := by
      obtain ⟨x, y, z, e, r⟩ := pu.same s
      exact ⟨x, y, z, rm_of nla.symm e, r⟩
    have := (hbl xs (up _ _ hx)).rmP pl
    rwa [rm_comm30] at this
end
noncomputable def spRight30 : Sp := fun vs H Q _ => ∃ (a : Addr) (c : Int), vs = [.ref a] ∧ c < 2 ^ 47 ∧ Purse H a c ∧ ∀ H', Same (rm a H) (rm a H') → Purse H' a (c + 300) → Q (.bl true) H'
end Bc
namespace Bc
open PySem PySem.Spec PyProof.Rows L2
section
variable {D : Ends} {σ : L2.St} {H : Hp} {u t1 t2 t3 t4 t5 t6 t7 t8 t9 : TS}
theorem w_cut2 (R : L2.St → Hp → Prop) (ht : ∀ N : L2.St → Hp → Prop, (∀ σ' H', R σ' H' → N σ' H') → tSeq t1 t2 { D with nx := N } σ H) (rest : ∀ σ' H', R σ' H' → u D σ' H') : tSeq t1 (tSeq t2 u) D σ H := ht (u D) rest
theorem w_cut9 (R : L2.St → Hp → Prop) (ht : ∀ N : L2.St → Hp → Prop, (∀ σ' H', R σ' H' → N σ' H') → tSeq t1 (tSeq t2 (tSeq t3 (tSeq t4 (tSeq t5 (tSeq t6 (tSeq t7 (tSeq t8 t9))))))) { D with nx := N } σ H) (rest : ∀ σ' H', R σ' H' → u D σ' H') : tSeq t1 (tSeq t2 (tSeq t3 (tSeq t4 (tSeq t5 (tSeq t6 (tSeq t7 (tSeq t8 (tSeq t9 u)))))))) D σ H := ht (u D) rest
end
end Bc
namespace Bc
open PySem PySem.Spec PyProof.Rows L2
noncomputable def oneR (n : Int) (x y : V) (G : Hp) : Prop := ∃ (t : Addr) (r d : Int), x = .int r ∧ y = .ref t ∧ G t = some (.tup [.int (r - n * d), .int n])
theorem oneR_mono {n : Int} (x y : V) (G G' : Hp) (s : Same G G') (h : oneR n x y G) : oneR n x y G' := by
  obtain ⟨t, r, d, e1, e2, e3⟩ := h
  exact ⟨t, r, d, e1, e2, s _ _ e3⟩
theorem one_all {n : Int} {H : Hp} : ∀ {ls : List Int} {ys : List V}, Paired (fun x y => oneR n x y H) (ls.map V.int) ys → ∃ (ts : List Addr) (cs : List (Int × Int)), ys = ts.map V.ref ∧ Paired (Tp H) cs ts ∧ Paired (fun r c => ∃ d : Int, c = (r - n * d, n)) ls cs
  | [], _, .nil => ⟨[], [], rfl, .nil, .nil⟩
  | r :: ls, _, .cons h k => by
    obtain ⟨t, r', d, e1, e2, e3⟩ := h
    obtain ⟨ts, cs, h1, h2, h3⟩ := one_all k
    injection e1 with e1
    subst e1
    exact ⟨t :: ts, (r - n * d, n) :: cs, by rw [e2, h1]; rfl, .cons e3 h2, .cons ⟨d, rfl⟩ h3⟩
theorem inB_cons (c : Int × Int) (cs : List (Int × Int)) (x : Int) : inB (c :: cs) x = (decide ((x - c.1) % c.2 = 0) || inB cs x) := rfl
theorem inB_rev (cs : List (Int × Int)) (x : Int) : inB cs.reverse x = inB cs x := by
  unfold inB
  rw [List.any_reverse]
theorem inB_one {n x : Int} : ∀ {ls : List Int} {cs : List (Int × Int)}, Paired (fun r c => ∃ d : Int, c = (r - n * d, n)) ls cs → (inB cs x = true ↔ ∃ r ∈ ls, (x - r) % n = 0)
  | _, _, .nil => ⟨fun h => Bool.noConfusion (show false = true from h), fun ⟨_, h, _⟩ => absurd h (List.not_mem_nil)⟩
  | _, _, .cons (a := r) (l₁ := ls) (l₂ := cs) h k => by
    obtain ⟨d, rfl⟩ := h
    have ih := inB_one (x := x) k
    rw [inB_cons, Bool.or_eq_true, ih, decide_eq_true_iff]
    have e : (x - (r - n * d)) % n = (x - r) % n := by
      rw [show x - (r - n * d) = x - r + n * d by omega, Int.add_mul_emod_self_left]
    show (x - (r - n * d)) % n = 0 ∨ _ ↔ _
    rw [e]
    constructor
    · rintro (h | ⟨q, h1, h2⟩)
      · exact ⟨r, List.mem_cons_self, h⟩
      · exact ⟨q, List.mem_cons_of_mem _ h1, h2⟩
    · rintro ⟨q, h1, h2⟩
      rcases List.mem_cons.mp h1 with rfl | h1
      · exact .inl h2
      · exact .inr ⟨q, h1, h2⟩
theorem one_same {memI : Int → Bool} {N : Nat} (P : Per30 memI N) {cs : List (Int × Int)} (h : Paired (fun r c => ∃ d : Int, c = (r - (N : Int) * d, (N : Int))) (mI memI N) cs) (x : Int) : inB cs x = memI x := by
  have h1 := inB_one (x := x) h
  have h2 := mI_mem P x
  have m0 := Int.emod_nonneg x (show (N : Int) ≠ 0 by have := P.1; omega)
  have m1 := Int.emod_lt_of_pos x (show (0 : Int) < (N : Int) by have := P.1; omega)
  have key : (∃ r ∈ mI memI N, (x - r) % (N : Int) = 0) ↔ x % (N : Int) ∈ mI memI N := by
    constructor
    · rintro ⟨r, hr, e⟩
      have hr' := hr
      unfold mI mL at hr
      obtain ⟨y, hy, rfl⟩ := List.mem_map.mp hr
      have hy := List.mem_range.mp (List.mem_filter.mp hy).1
      have : x % (N : Int) = (y : Int) := by
        have e2 := Int.emod_emod_of_dvd x (Int.dvd_refl (N : Int))
        have e3 : (x - (y : Int)) % (N : Int) = (x % (N : Int) - (y : Int) % (N : Int)) % (N : Int) := by rw [Int.sub_emod]
        rw [Int.emod_eq_of_lt (show (0 : Int) ≤ (y : Int) by omega) (by omega)] at e3
        rw [e3] at e
        by_cases hle : (y : Int) ≤ x % (N : Int)
        · rw [Int.emod_eq_of_lt (by omega) (by omega)] at e
          omega
        · rw [← Int.add_emod_right, Int.emod_eq_of_lt (by omega) (by omega)] at e
          omega
      rw [this]
      exact hr'
    · intro hm
      refine ⟨_, hm, ?_⟩
      rw [Int.sub_emod, Int.emod_emod_of_dvd x (Int.dvd_refl _), Int.sub_self, Int.zero_emod]
  rw [key] at h1
  cases hm : memI x with
  | true =>
    rw [hm] at h2
    exact h1.mpr (of_decide_eq_true h2)
  | false =>
    rw [hm] at h2
    cases hb : inB cs x with
    | false => rfl
    | true => exact absurd (h1.mp hb) (of_decide_eq_false h2)
theorem one_ok {ps : List (Int × Int)} (md : MdB ps) {N : Nat} (hN : num ps = (N : Int)) {ls : List Int} {cs : List (Int × Int)} (hl : ls.length ≤ 100000) (h : Paired (fun r c => ∃ d : Int, c = (r - (N : Int) * d, (N : Int))) ls cs) : Ok30 ps cs := by
  have hnum := num_cast (Int.le_refl 0) md.asc
  refine ⟨by rw [← h.length]; exact hl, fun x hx => ⟨_, (wN_full ps).1, ?_⟩⟩
  rw [(wN_full ps).2]
  have : x.2 = (N : Int) := by
    clear hl
    induction h with
    | nil => cases hx
    | cons h k ih =>
      rcases List.mem_cons.mp hx with rfl | hx
      · obtain ⟨d, rfl⟩ := h
        rfl
      · exact ih hx
  omega
theorem Ok30.rev {ps cs : List (Int × Int)} (h : Ok30 ps cs) : Ok30 ps cs.reverse := ⟨by rw [List.length_reverse]; exact h.1, fun x hx => h.2 x (List.mem_reverse.mp hx)⟩
theorem pair_rev30 {α β : Type} {F : α → β → Prop} : ∀ {as : List α} {ts : List β}, Paired F as ts → Paired F as.reverse ts.reverse
  | _, _, .nil => .nil
  | _, _, .cons h r => by
    rw [List.reverse_cons, List.reverse_cons]
    exact paired_app (pair_rev30 r) (.cons h .nil)
theorem bs_same {c : CA} {Cb : Addr} {H G : Hp} {a b : Addr} {ps : List (Int × Int)} {u v : Tab} {n k : Nat} (h1 : BsAt c Cb H a ps u n) (h2 : BsAt c Cb G b ps v k) (h : ∀ x : Int, memB ps u n x = memB ps v k x) : decide (num ps = num ps ∧ u = v ∧ n = k) = true := by
  obtain ⟨md, s1, _⟩ := h1
  obtain ⟨_, s2, _⟩ := h2
  exact decide_eq_true ⟨rfl, set_same md s1 s2 fun x _ => h (x : Int)⟩
theorem bs_diff {ps : List (Int × Int)} {u v : Tab} {n k : Nat} {x : Int} (h : memB ps u n x ≠ memB ps v k x) : decide (num ps = num ps ∧ u = v ∧ n = k) = false := decide_eq_false fun z => set_diff h z.2
theorem kit_noT30 {K : PySem.W.Frag} {C : Addr} {n : String} (hm : PySem.W.kitMeta n = true) (s : PySem.W.subIn K (.ref C) (.type n) = some false) : PySem.W.kitOne K (.ref C) (.type n) = some false := by
  have ne : (Value.ref C == Value.type n) = false := rfl
  unfold PySem.W.kitOne PySem.W.kitCls
  simp only [ne, hm, s, if_true, Bool.false_eq_true, if_false]
/-- a thing that is no integer -/
noncomputable def OddI (K : PySem.W.Frag) (H : Hp) (v : V) : Prop := ∀ G, Same H G → ∃ (t : Value) (b1 b2 : Bool), TyX K G v t ∧ PySem.W.kitOne K t (.type "int") = some b1 ∧ PySem.W.kitOne K t (.type "bool") = some b2 ∧ (b1 && !b2) = false
section
variable {K : PySem.W.Frag} {H : Hp}
theorem oddI_non : OddI K H .non := fun _ _ => ⟨_, false, false, .base .non, kit_ty (by decide +kernel), kit_ty (by decide +kernel), rfl⟩
theorem oddI_str (z : Str) : OddI K H (.str z) := fun _ _ => ⟨_, false, false, .base (.str _), kit_ty (by decide +kernel), kit_ty (by decide +kernel), rfl⟩
theorem oddI_bl (z : Bool) : OddI K H (.bl z) := fun _ _ => ⟨_, true, true, .base (.bl _), kit_ty (by decide +kernel), kit_ty (by decide +kernel), rfl⟩
theorem oddI_tup {a : Addr} {xs : List V} (h : H a = some (.tup xs)) : OddI K H (.ref a) := fun _ s => ⟨_, false, false, .base (.tup (s _ _ h)), kit_ty (by decide +kernel), kit_ty (by decide +kernel), rfl⟩
theorem oddI_lst {a : Addr} {xs : List V} (h : H a = some (.lst xs)) : OddI K H (.ref a) := fun _ s => ⟨_, false, false, .base (.lst (s _ _ h)), kit_ty (by decide +kernel), kit_ty (by decide +kernel), rfl⟩
theorem oddI_dk {a : Addr} {xs : List (Key × V)} (h : H a = some (.dK xs)) : OddI K H (.ref a) := fun _ s => ⟨_, false, false, .base (.dK (s _ _ h)), kit_ty (by decide +kernel), kit_ty (by decide +kernel), rfl⟩
theorem oddI_ins {a C dx : Addr} {fs : List (Str × V)} (X : ClsF K C) (n1 : PySem.W.kitOne K (.ref C) (.type "int") = some false) (n2 : PySem.W.kitOne K (.ref C) (.type "bool") = some false) (h : H a = some (.ins C dx fs)) : OddI K H (.ref a) := fun _ s => ⟨_, false, false, X.ty (s _ _ h), n1, n2, rfl⟩
theorem OddI.same {v : V} {G : Hp} (h : OddI K H v) (s : Same H G) : OddI K G v := fun F t => h F (s.trans t)
end
theorem use_bsS {K : PySem.W.Frag} {c : CA} {Cb Cr : Addr} {PP : Addr → Hp → Prop} {E : XK} {H : Hp} {m l : Addr} {ps cs : List (Int × Int)} (md : MdB ps) (hm : ModAt c H m ps) (hl : ClsL K H l cs) (ok : Ok30 ps cs)
    (q : ∀ o H' u n, H o = none → Same H H' → BsAt c Cb H' o ps u n → (∀ x, memB ps u n x = inB cs x) → PP o H') :
    ∀ x dx, H x = none → H dx = none → dx ≠ x → spBsInit K c Cb Cr (.ref x :: ([.ref m, .ref l] ++ [])) (upd (upd H dx (.own x)) x (.ins Cb dx [])) (fun v H2 => v = .non ∧ PP x H2) E := fun x dx nx nd ne => by
  have up : Same H (L2.upd (L2.upd H dx (.own x)) x (.ins Cb dx [])) := fun b o' e => by rw [L2.upd_ne (new_ne e nx).symm, L2.upd_ne (new_ne e nd).symm]; exact e
  have hnum := num_cast (Int.le_refl 0) md.asc
  refine ⟨x, dx, m, l, ps, rfl, L2.upd_same, md, hm.same up, .inl ⟨cs, hl.same up, ok.1, fun e he => ?_, fun H' u n k hb hbl hin => ⟨rfl, ?_⟩⟩⟩
  · obtain ⟨js, j1, j2⟩ := ok.2 e he
    have := wN_pos j1 md.pos
    refine ⟨by omega, ?_⟩
    rw [j2, hnum]
    exact Int.emod_eq_zero_of_dvd (Int.natCast_dvd_natCast.mpr (wN_dvd j1))
  · have s : Same H H' := fun b o' e => k b o' (new_ne e nx).symm (up _ _ e)
    exact q x H' u n nx s hb fun y => made_mem md ok.2 hin y
theorem cm_in {ps cs : List (Int × Int)} {u : Tab} {n : Nat} (h : ∀ x, memB ps u n x = inB cs x) (k : Nat) : cmB ps u n k = cm30 (fun x : Nat => inB cs (x : Int)) k := by
  unfold cmB
  exact congrArg (fun f => cm30 f k) (funext fun x => h _)
theorem sz_in {c : CA} {Cb : Addr} {H : Hp} {o : Addr} {ps cs : List (Int × Int)} {u : Tab} {n : Nat} (b : BsAt c Cb H o ps u n) (h : ∀ x, memB ps u n x = inB cs x) : szB ps u n = cm30 (fun x : Nat => inB cs (x : Int)) (num ps).toNat := by
  obtain ⟨md, st, _⟩ := b
  rw [szB_eq md st, cm_in h]
theorem in30_a (x : Int) : inB [(1, 2), (0, 2)] x = inB [(5, 1)] x := by
  unfold inB
  simp only [List.any_cons, List.any_nil, Bool.or_false, ← Bool.decide_or]
  exact decide_eq_decide.mpr (by omega)
theorem first30_a : ∀ x : Nat, x < 8 → inB [(1, 4), (6, 8)] (x : Int) = true → (cm30 (fun x : Nat => inB [(1, 4), (6, 8)] (x : Int)) x = 0 → x = 1) ∧ (cm30 (fun x : Nat => inB [(1, 4), (6, 8)] (x : Int)) x = 2 → x = 6) := by decide +kernel
theorem ok30_a : Ok30 [(2, 2), (3, 1)] [(1, 6), (1, 4)] := ⟨by decide, fun x hx => by
  simp only [List.mem_cons, List.not_mem_nil, or_false] at hx
  rcases hx with rfl | rfl
  · exact ⟨[1, 1], .cons (by decide) (.cons (by decide) .nil), rfl⟩
  · exact ⟨[2, 0], .cons (by decide) (.cons (by decide) .nil), rfl⟩⟩
theorem ok30_b : Ok30 [(2, 3)] [(1, 4), (6, 8)] := ⟨by decide, fun x hx => by
  simp only [List.mem_cons, List.not_mem_nil, or_false] at hx
  rcases hx with rfl | rfl
  · exact ⟨[2], .cons (by decide) .nil, rfl⟩
  · exact ⟨[3], .cons (by decide) .nil, rfl⟩⟩
theorem ok30_c : Ok30 [(2, 3)] [(1, 2), (0, 2)] := ⟨by decide, fun x hx => by
  simp only [List.mem_cons, List.not_mem_nil, or_false] at hx
  rcases hx with rfl | rfl
  · exact ⟨[1], .cons (by decide) .nil, rfl⟩
  · exact ⟨[1], .cons (by decide) .nil, rfl⟩⟩
theorem ok30_d : Ok30 [(2, 3)] [(5, 1)] := ⟨by decide, fun x hx => by
  simp only [List.mem_cons, List.not_mem_nil, or_false] at hx
  subst hx
  exact ⟨[0], .cons (by decide) .nil, rfl⟩⟩
theorem ok30_e (ps : List (Int × Int)) : Ok30 ps [] := ⟨by decide, fun x hx => by cases hx⟩
theorem ok30_f : Ok30 [(2, 3)] [(0, 8)] := ⟨by decide, fun x hx => by
  simp only [List.mem_cons, List.not_mem_nil, or_false] at hx
  subst hx
  exact ⟨[3], .cons (by decide) .nil, rfl⟩⟩
theorem sz30_a : cm30 (fun x : Nat => inB [(1, 6), (1, 4)] (x : Int)) (num [(2, 2), (3, 1)]).toNat = 4 := by decide +kernel
theorem sz30_b : cm30 (fun x : Nat => inB [(1, 4), (6, 8)] (x : Int)) (num [(2, 3)]).toNat = 3 := by decide +kernel
theorem cm30_6 : cm30 (fun x : Nat => inB [(1, 4), (6, 8)] (x : Int)) 6 = 2 := by decide +kernel
theorem cm30_4 : cm30 (fun x : Nat => inB [(1, 4), (6, 8)] (x : Int)) ((-1 : Int) % num [(2, 3)]).toNat = 3 := by decide +kernel
theorem cm30_7 : cm30 (fun x : Nat => inB [(1, 4), (6, 8)] (x : Int)) ((7 : Int) % num [(2, 3)]).toNat = 3 := by decide +kernel
end Bc
namespace Bc
open PySem PySem.Spec PyProof.Rows L2
theorem fun_of_D {K : PySem.W.Frag} {x q : Str} {st : Stmt} {f : Addr} {fd : FuncData} (F : FunD K x q (defArgs st) (defBody st) (defScope st) [] [] f fd) : L2.Fun K x q st f fd := by
  obtain ⟨⟨oc, od, dV, kV, doc, pm, an, cdv, ct, osl, rfl, lk, hc, hd, _⟩, kp⟩ := F
  rcases hd with ⟨_, rfl⟩ | ⟨h, _⟩
  · exact ⟨⟨oc, od, kV, doc, pm, an, cdv, ct, osl, rfl, lk, hc⟩, kp⟩
  · exact absurd rfl h
theorem glB_ok {K : PySem.W.Frag} {x : Str} {i : Int} (c2 : glB K x i = true) : ∃ t, PySem.W.nsIn K mainGlobals x = some (some (.int i t)) := by
  unfold glB at c2
  split at c2
  · rename_i j t e
    have := of_decide_eq_true c2
    subst this
    exact ⟨t, e⟩
  · cases c2
theorem walk_X {l : PySem.W.OpenLaw} {q : Program} {loose : List Str} {XP : (Str → Option Value) → Heap → Prop} {d : DefRec} {x : Str} {k n : Nat} {ex : PySem.W.Frag → Bool} {fn : List He.DefD} {sp : PySem.W.Frag → Sp} (hn : l.most = some 63) (hdf : d.params.defaults = []) (hr : Room k callerA)
    (hsp : ∀ (K : PySem.W.Frag) (H : Hp) (a : Addr) (ns : List Int), ns.length ≤ 63 → Only H → SqL K H a (ns.map V.int) → sp K [.ref a] H (fun v _ => v = .bl true) fun _ _ _ => False)
    (F : ∀ (w : World) (K : PySem.W.Frag) (mg : Str → Option Value) (fa : Addr) (h : Heap), K.In h → ex K = true → He.SaysD [] fn K → h.Ns mainGlobals mg → mg d.name = some (.ref fa) →
      ∃ fd : FuncData, (∀ (s : Shared) (u : Value), BindsTo s fd ⟨[u], []⟩ [(x, u)]) ∧ ∀ base : Heap, K.In base → base.Ns mainGlobals mg → FnOk l.prog w K mg base L2.CX0 k fa fd [x] (sp K)) :
    PySem.W.WalkO q loose XP (hookX n ex fn).says l.row.toRowW d [] (fun f vs => PySem.call f vs) :=
  L2.walk_ofE (n := 63) hn (by decide) hdf hr (fun w mg fa h Y G e => by
    obtain ⟨K, KX, c1, c2⟩ := Y
    obtain ⟨fd, b, g⟩ := F w K mg fa h KX c1 c2 G e
    exact ⟨K, fd, sp K, KX, b, hsp K, g⟩) fun _ _ _ _ z => z
end Bc
namespace Bc
open PySem PySem.Spec PyProof.Rows L2
theorem rowB_ok {K : PySem.W.Frag} {v : Value} {i j : Int} (h : rowB K v i j = true) : ∃ r : Addr, v = .ref r ∧ ∀ H, SqT K H r [.int i, .int j] := by
  unfold rowB at h
  split at h
  · rename_i r
    split at h
    · rename_i c d its n sl ho
      obtain ⟨h1, h⟩ := He.ba h
      split at h
      · rename_i a t b t' hi
        obtain ⟨h2, h3⟩ := He.ba h
        have e1 := of_decide_eq_true h1
        have e2 := of_decide_eq_true h2
        have e3 := of_decide_eq_true h3
        subst e1 e2 e3
        refine ⟨r, rfl, fun H => .inr ⟨_, its, n, ho, rfl, rfl, ?_, ?_⟩⟩
        · have : its.size = 2 := by
            rw [← Array.length_toList, hi]
            rfl
          rw [this]
          decide
        · rw [hi]
          exact .cons ⟨_, rfl⟩ (.cons ⟨_, rfl⟩ .nil)
      · cases h
    · cases h
  · cases h
theorem tblB_ok {K : PySem.W.Frag} {a : Addr} {op : Bool → Bool → Bool} (h : tblB K a (opN op false false) (opN op false true) (opN op true false) (opN op true true) = true) : TblK K a op := by
  unfold tblB at h
  split at h
  · rename_i c d its n sl ho
    obtain ⟨h1, h⟩ := He.ba h
    split at h
    · rename_i x y hi
      obtain ⟨h2, h3⟩ := He.ba h
      obtain ⟨r0, e2, g2⟩ := rowB_ok h2
      obtain ⟨r1, e3, g3⟩ := rowB_ok h3
      have e1 := of_decide_eq_true h1
      subst e1 e2 e3
      refine ⟨r0, r1, fun H => .inr ⟨_, its, n, ho, rfl, rfl, ?_, ?_⟩, g2, g3⟩
      · have : its.size = 2 := by
          rw [← Array.length_toList, hi]
          rfl
        rw [this]
        decide
      · rw [hi]
        exact .cons rfl (.cons rfl .nil)
    · cases h
  · cases h
end Bc
namespace Bc
open PySem
theorem lenL1 {us : List Value} (h : us.length = 1) : ∃ a0, us = [a0] := by
  rcases us with _ | ⟨_, _ | ⟨_, _⟩⟩
  · cases h
  · exact ⟨_, rfl⟩
  · exact absurd h (by simp)
theorem lenL2 {us : List Value} (h : us.length = 2) : ∃ a0 a1, us = [a0, a1] := by
  rcases us with _ | ⟨_, _ | ⟨_, _ | ⟨_, _⟩⟩⟩
  · cases h
  · cases h
  · exact ⟨_, _, rfl⟩
  · exact absurd h (by simp)
theorem lenL3 {us : List Value} (h : us.length = 3) : ∃ a0 a1 a2, us = [a0, a1, a2] := by
  rcases us with _ | ⟨_, _ | ⟨_, _ | ⟨_, _ | ⟨_, _⟩⟩⟩⟩
  · cases h
  · cases h
  · cases h
  · exact ⟨_, _, _, rfl⟩
  · exact absurd h (by simp)
theorem lenL4 {us : List Value} (h : us.length = 4) : ∃ a0 a1 a2 a3, us = [a0, a1, a2, a3] := by
  rcases us with _ | ⟨_, _ | ⟨_, _ | ⟨_, _ | ⟨_, _ | ⟨_, _⟩⟩⟩⟩⟩
  · cases h
  · cases h
  · cases h
  · cases h
  · exact ⟨_, _, _, _, rfl⟩
  · exact absurd h (by simp)
theorem lenL5 {us : List Value} (h : us.length = 5) : ∃ a0 a1 a2 a3 a4, us = [a0, a1, a2, a3, a4] := by
  rcases us with _ | ⟨_, _ | ⟨_, _ | ⟨_, _ | ⟨_, _ | ⟨_, _ | ⟨_, _⟩⟩⟩⟩⟩⟩
  · cases h
  · cases h
  · cases h
  · cases h
  · cases h
  · exact ⟨_, _, _, _, _, rfl⟩
  · exact absurd h (by simp)
theorem lenL6 {us : List Value} (h : us.length = 6) : ∃ a0 a1 a2 a3 a4 a5, us = [a0, a1, a2, a3, a4, a5] := by
  rcases us with _ | ⟨_, _ | ⟨_, _ | ⟨_, _ | ⟨_, _ | ⟨_, _ | ⟨_, _ | ⟨_, _⟩⟩⟩⟩⟩⟩⟩
  · cases h
  · cases h
  · cases h
  · cases h
  · cases h
  · cases h
  · exact ⟨_, _, _, _, _, _, rfl⟩
  · exact absurd h (by simp)
end Bc
set_option maxHeartbeats 4000000
open Bc
local macro_rules | `(tactic| walk_at "same0") => `(tactic| first
  | with_reducible exact L2.Same.refl _
  | with_reducible assumption
  | with_reducible exact rm_le
  | with_reducible exact L2.Same.trans rm_le rm_le
  | ((with_reducible refine L2.Same.trans ?_ (by with_reducible assumption)); walk_at "same0")
  | ((with_reducible refine L2.Same.trans ?_ (L2.Same.rm (by with_reducible assumption))); walk_at "same0")
  | ((with_reducible refine L2.Same.trans ?_ (Same.new (by with_reducible assumption))); walk_at "same0")
  | ((with_reducible apply same_rm); (first | with_reducible assumption | ((with_reducible refine L2.Same.trans ?_ (by with_reducible assumption)); walk_at "same0") | ((with_reducible refine L2.Same.trans ?_ (L2.Same.rm (by with_reducible assumption))); walk_at "same0")))
  | ((with_reducible refine L2.Same.rm ?_); walk_at "same0"))
local macro_rules | `(tactic| walk_at "same") => `(tactic| first
  | walk_at "same0"
  | ((with_reducible apply same_rm); walk_at "same0")
  | ((with_reducible apply same_rm); (with_reducible apply same_rm); walk_at "same0"))
local macro_rules | `(tactic| walk_at "hp0") => `(tactic| first
  | with_reducible assumption
  | ((with_reducible apply hpL); (with_reducible assumption); walk_at "same")
  | exact L2.upd_same
  | assumption
  | ((with_reducible apply hpL); assumption; walk_at "same"))
local macro_rules | `(tactic| walk_at "hp") => `(tactic| first
  | with_reducible assumption
  | (exact sq (by walk_at "hp0"))
  | (exact sqt (by walk_at "hp0"))
  | ((with_reducible apply hpL); (with_reducible assumption); walk_at "same")
  | ((with_reducible apply WayAt.same); (with_reducible assumption); walk_at "same")
  | ((with_reducible apply MkAt.same); (with_reducible assumption); walk_at "same")
  | ((with_reducible apply ModAt.same); (with_reducible assumption); walk_at "same")
  | ((with_reducible apply PrL.same); (with_reducible assumption); walk_at "same")
  | ((with_reducible apply TextAt.same); (with_reducible assumption); walk_at "same")
  | ((with_reducible apply Purse.same); (with_reducible assumption); walk_at "same")
  | assumption)
local macro_rules | `(tactic| walk_at "side") => `(tactic| first
  | with_reducible assumption
  | assumption
  | (exact rfl)
  | (refine mx_l ⟨?_, ?_⟩ <;> decide)
  | (refine mx_r ⟨?_, ?_⟩ <;> decide)
  | (refine mx_l ⟨?_, ?_⟩ <;> omega)
  | (refine mx_r ⟨?_, ?_⟩ <;> omega)
  | (refine wdiv60 ?_ ?_ <;> omega)
  | decide
  | omega)
local macro_rules | `(tactic| walk_at "go1") => `(tactic| first
  | ((with_reducible apply w_st); ((simp only [L2.start, List.map_cons, List.map_nil, List.length_cons, List.length_nil, List.cons_append, List.nil_append, List.append_nil, Nat.reduceAdd, Nat.reduceSub, List.reduceReplicate]); exact rfl))
  | with_reducible refine w_seq ?_
  | with_reducible refine w_atV ?_
  | ((with_reducible refine w_nxD ?_); (with_reducible refine w_nx ?_))
  | ((with_reducible refine w_rtD ?_); (with_reducible refine w_rt ?_))
  | ((with_reducible refine w_ctD ?_); (with_reducible refine w_ct ?_))
  | ((with_reducible refine w_bkD ?_); (with_reducible refine w_bk ?_))
  | ((with_reducible apply w_var); (exact rfl))
  | with_reducible refine w_c ?_
  | with_reducible refine w_op ?_
  | with_reducible refine w_cons ?_
  | with_reducible refine w_nil ?_
  | with_reducible refine w_cb ?_
  | ((with_reducible apply w_setN); ((intro _; simp only [List.set_cons_zero, List.set_cons_succ]); exact rfl))
  | with_reducible refine w_set ?_
  | with_reducible refine w_ret ?_
  | with_reducible refine w_if ?_
  | with_reducible refine w_test ?_
  | with_reducible refine w_tB ?_
  | with_reducible refine w_bl ?_
  | with_reducible refine w_I0 ?_
  | ((with_reducible refine w_I ?_ ?_); (first | walk_at "side" | rotate_left))
  | ((with_reducible apply w_ixL); (walk_at "hp"); (exact rfl))
  | ((with_reducible apply w_ixT); (walk_at "hp"); (exact rfl))
  | with_reducible refine w_call ?_
  | with_reducible refine w_next ?_
  | with_reducible refine w_drop ?_
  | with_reducible refine w_retN ?_
  | with_reducible refine w_un ?_
  | with_reducible refine w_U ?_
  | ((with_reducible refine w_eq ?_ ?_); (exact rfl))
  | ((with_reducible refine w_ne ?_ ?_); (exact rfl))
  | with_reducible refine w_and ?_
  | with_reducible refine w_or ?_
  | with_reducible refine w_not ?_
  | with_reducible refine w_andV ?_
  | with_reducible refine w_orV ?_
  | with_reducible refine w_notV ?_
  | with_reducible refine w_ifE ?_
  | with_reducible refine w_tup ?_
  | with_reducible refine w_lst ?_
  | ((with_reducible refine w_andsz ?_ ?_); (exact rfl))
  | with_reducible refine w_par ?_
  | with_reducible refine w_par2 ?_
  | ((with_reducible apply w_aug); (exact rfl))
  | with_reducible refine w_ipI ?_
  | with_reducible refine w_yes ?_
  | with_reducible refine w_chain ?_
  | with_reducible refine w_int1 ?_
  | with_reducible refine w_int1b ?_
  | with_reducible refine w_abs ?_
  | with_reducible refine w_max2 ?_
  | with_reducible refine w_min2 ?_
  | with_reducible refine w_for ?_
  | with_reducible refine w_rng1 ?_
  | with_reducible refine w_rng2 ?_
  | ((with_reducible refine w_rng1i ?_ ?_ ?_); omega; omega)
  | ((with_reducible refine w_rng2i ?_ ?_); omega)
  | with_reducible refine w_iList ?_
  | with_reducible refine w_iTup ?_
  | with_reducible refine w_iAt ?_
  | with_reducible refine w_asg ?_
  | with_reducible refine w_name ?_
  | with_reducible refine w_gsub ?_
  | with_reducible refine w_sl ?_
  | with_reducible refine w_noPart ?_
  | with_reducible refine w_part ?_
  | with_reducible refine w_isI ?_
  | with_reducible refine w_revL ?_
  | with_reducible refine w_isN ?_
  | with_reducible refine w_notN ?_
  | with_reducible refine w_bits ?_
  | with_reducible refine w_gcons ?_
  | with_reducible refine w_gnil ?_
  | with_reducible refine w_fld ?_
  | ((with_reducible apply w_wbase); assumption; (walk_at "hp"))
  | ((with_reducible apply w_wnum); assumption; (walk_at "hp"))
  | ((with_reducible apply w_wmark); assumption; (walk_at "hp"); intro _ _)
  | (((with_reducible apply w_wmod); assumption; (walk_at "hp")); intro _ _)
  | ((with_reducible apply w_mnum); assumption; (walk_at "hp"))
  | (((with_reducible apply w_mfac); assumption; (walk_at "hp")); intro _ _ _ _)
  | ((with_reducible apply w_klow); assumption; (walk_at "hp"))
  | ((with_reducible apply w_kshift); assumption; (walk_at "hp"))
  | ((with_reducible apply w_klead); assumption; (walk_at "hp"))
  | ((with_reducible apply w_setL); (walk_at "hp"); (exact rfl))
  | ((with_reducible apply w_len); (walk_at "hp"))
  | ((with_reducible apply w_lenT); (walk_at "hp"))
  | with_reducible refine while_n ?_
  | with_reducible refine while_nm ?_
  | with_reducible refine w_cO ?_
  | with_reducible refine w_m1 ?_
  | with_reducible refine w_isStr ?_
  | ((with_reducible apply w_tyL); (walk_at "hp"))
  | with_reducible refine w_makeK ?_
  | with_reducible refine w_callN ?_
  | ((with_reducible apply w_gtup); (walk_at "hp"); (exact rfl))
  | ((with_reducible apply w_unl); (walk_at "hp"); (exact rfl))
  | with_reducible refine w_sfld ?_
  | with_reducible refine w_make ?_
  | with_reducible refine w_meth ?_
  | with_reducible refine w_iEnum ?_
  | with_reducible refine w_lc ?_
  | with_reducible refine w_iStr ?_
  | with_reducible refine w_isS ?_
  | with_reducible refine w_leS ?_
  | with_reducible refine w_ord ?_
  | ((with_reducible apply w_iL); (walk_at "hp"))
  | ((with_reducible apply w_iT); (walk_at "hp"))
  | with_reducible refine w_bm ?_
  | with_reducible refine w_callX ?_
  | with_reducible refine w_mkO ?_
  | with_reducible refine w_xf ?_
  | with_reducible refine w_lstRg ?_
  | with_reducible refine w_rg1 ?_
  | with_reducible refine w_rg2 ?_
  | with_reducible refine w_rg2i ?_
  | ((with_reducible refine w_rgok ?_ ?_); omega)
  | with_reducible refine w_dnew ?_
  | with_reducible refine w_isB ?_
  | with_reducible refine w_strB ?_
  | with_reducible refine w_iRng3 ?_
  | with_reducible refine w_lstB ?_
  | with_reducible refine w_iZip ?_
  | ((with_reducible apply w_zipi); (walk_at "hp"); (walk_at "hp"))
  | with_reducible refine w_methK ?_
  | with_reducible refine w_cOK ?_
  | with_reducible refine w_makeX ?_
  | with_reducible refine w_makeKS ?_
  | with_reducible refine w_methX ?_
  | with_reducible refine w_mkV ?_
  | with_reducible refine w_rev0 ?_
  | with_reducible refine w_xk ?_
  | with_reducible refine w_lenSet ?_
  | with_reducible refine w_cOX ?_
  | with_reducible refine w_augS ?_
  | with_reducible refine w_lenSet1 ?_
  | with_reducible refine w_bm0 ?_)
local macro_rules | `(tactic| walk_at "go") => `(tactic| repeat (walk_at "go1"))
local macro_rules | `(tactic| walk_at "goI") => `(tactic| repeat ((fail_if_success (with_reducible refine w_if ?_)); walk_at "go1"))
namespace Lw
open PySem PySem.Spec PyProof.Rows L2 Bc C8
noncomputable def top (i : Nat) : Stmt := PySem.Challenge.pw_baseclash_k30_sets_of_classes.main.body.getD i (.Pass ⟨0, 0, 0, 0⟩)
section
variable {P : Program} {w : World} {K : PySem.W.Frag} {mg : Str → Option Value} {base : Heap}
noncomputable abbrev s_isint : Stmt := (top 7)
theorem sc_isint : FnScope ["thing"] ["thing"] (defScope s_isint) :=
  ⟨rfl, rfl, rfl, by decide +kernel, rfl, by decide +kernel, by decide +kernel⟩
theorem ok_isint (F : Dn K mg "is_integer" s_isint ["thing"]) (T : Bt mg) : Cal P w K mg base 1 "is_integer" (spIsInt K) [] := by
  refine F.cal sc_isint (fun vs H Q E h => ?_) (fun f cdv A outer s H vs Q E hr h => ?_)
  · obtain ⟨v, t, b1, b2, rfl, _⟩ := h
    rfl
  · obtain ⟨v, t, b1, b2, rfl, ty, k1, k2, q⟩ := h
    refine ⟨_, (pss_one (ps_ret (pe_and (pe_callB call_isi (by rfl) T.isinstance (by decide +kernel) (pa_cons (pv 0) (pa_cons (pe_bltn (v := .ty "int") (by rfl) T.int (by decide +kernel) rfl) pa_nil))) (pe_one (pe_not (pe_callB call_isi (by rfl) T.isinstance (by decide +kernel) (pa_cons (pv 0) (pa_cons (pe_bltn (v := .ty "bool") (by rfl) T.bool (by decide +kernel) rfl) pa_nil)))))))), ?_⟩
    walk_at "go"
    refine w_isi ty k1 ?_
    walk_at "go"
    cases b1 with
    | false => exact iteF q
    | true =>
      refine iteT ?_
      walk_at "go"
      refine w_isi ty k2 ?_
      walk_at "go"
      exact q
noncomputable abbrev s_raised : Stmt := (top 8)
theorem sc_raised : FnScope ["factor", "power", "found", "turn"] ["factor", "power"] (defScope s_raised) :=
  ⟨rfl, rfl, rfl, by decide +kernel, rfl, by decide +kernel, by decide +kernel⟩
theorem ok_raised (F : Dn K mg "raised" s_raised ["factor", "power"]) (T : Bt mg) : Cal P w K mg base 1 "raised" spRaised [] := by
  refine F.cal sc_raised (fun vs H Q E h => ?_) (fun f cdv A outer s H vs Q E hr h => ?_)
  · obtain ⟨g, p, b, rfl, _⟩ := h
    rfl
  · obtain ⟨g, p, b, rfl, p0, p1, gb, hb, q⟩ := h
    refine ⟨_, (pss_cons (ps_set (i := 2) sc_raised.nd rfl (Or.inl rfl) pe_int)
      (pss_cons (ps_for PassesOwn.never rfl (pi_range1 (by rfl) T.range (pa_cons (pv 1) pa_nil)) (pg_name (i := 3) sc_raised.nd rfl (Or.inl rfl)) (pss_one (ps_set (i := 2) sc_raised.nd rfl (Or.inl rfl) (pe_op oMul (pv 2) (pv 0)))))
      (pss_one (ps_ret (pv 2))))), ?_⟩
    walk_at "go"
    refine for_range (lo := 0) (n := p.toNat) (fun i σ H' => ∃ (u : Option V), σ = [some (.int g), some (.int p), some (.int (g ^ i)), u] ∧ H' = H)
      ⟨none, by rw [Int.pow_zero], rfl⟩ ?_ ?_
    · rintro i σ H' hi ⟨u, rfl, rfl⟩
      walk_at "go"
      · exact ⟨_, by rw [Int.pow_succ], rfl⟩
      · refine mx_w (natAbs_pow_lt gb i) gb ?_
        have h1 : b * i ≤ b * p.toNat := Nat.mul_le_mul_left b (by omega)
        omega
    · rintro σ H' ⟨u, rfl, rfl⟩
      walk_at "go"
      exact q
noncomputable abbrev s_gcd : Stmt := (top 9)
theorem sc_gcd : FnScope ["one", "other"] ["one", "other"] (defScope s_gcd) :=
  ⟨rfl, rfl, rfl, by decide +kernel, rfl, by decide +kernel, by decide +kernel⟩
theorem ok_gcd (F : Dn K mg "common_divisor" s_gcd ["one", "other"]) (T : Bt mg) : Cal P w K mg base 1 "common_divisor" spGcd [] := by
  refine F.cal sc_gcd (fun vs H Q E h => ?_) (fun f cdv A outer s H vs Q E hr h => ?_)
  · obtain ⟨a, b, rfl, _⟩ := h
    rfl
  · obtain ⟨a, b, rfl, q⟩ := h
    refine ⟨_, (pss_cons (ps_par (i := 0) (j := 1) (by rfl) sc_gcd.nd rfl rfl (by decide) rfl rfl (pa_cons (pe_callB cAbs (by rfl) T.abs (by decide +kernel) (pa_cons (pv 0) pa_nil)) (pa_cons (pe_callB cAbs (by rfl) T.abs (by decide +kernel) (pa_cons (pv 1) pa_nil)) pa_nil)) (by rfl))
      (pss_cons (ps_while PassesOwn.never (pt_cmpR op_ne (pv 1) pe_int (nomark _)) (pss_one (ps_par (i := 0) (j := 1) (by rfl) sc_gcd.nd rfl rfl (by decide) rfl rfl (pa_cons (pv 1) (pa_cons (pe_op op_mod (pv 0) (pv 1)) pa_nil)) (by rfl))))
      (pss_one (ps_ret (pv 0))))), ?_⟩
    walk_at "go"
    refine while_go (fun σ H' => ∃ x y : Int, σ = [some (.int x), some (.int y)] ∧ 0 ≤ x ∧ 0 ≤ y ∧ Int.gcd x y = Int.gcd a b ∧ H' = H) (fun σ _ => match σ with | [_, some (.int y)] => y.toNat | _ => 0)
      ⟨_, _, rfl, ?_, ?_, ?_, rfl⟩ ?_
    · split <;> omega
    · split <;> omega
    · split <;> split <;> simp only [Int.neg_gcd, Int.gcd_neg]
    · rintro σ H' ⟨x, y, rfl, x0, y0, e, rfl⟩
      walk_at "go"
      refine ite_nd (fun h => ?_) (fun h => ?_)
      · have hy : y ≠ 0 := fun z => h (by rw [z])
        walk_at "go"
        · refine ⟨?_, _, _, rfl, y0, Int.emod_nonneg _ hy, ?_, rfl⟩
          · have := Int.emod_lt_of_pos x (show 0 < y by omega)
            show (x % y).toNat < y.toNat
            omega
          · have h6 := Int.gcd_mul_left_add_right y (x % y) (x / y)
            rw [Int.mul_ediv_add_emod] at h6
            rw [← e, Int.gcd_comm x y, h6]
      · have hy : y = 0 := by injection h
        subst hy
        walk_at "go"
        rw [← e, Int.gcd_zero] at q
        rw [Int.natAbs_of_nonneg x0] at q
        exact q
noncomputable abbrev s_prime : Stmt := (top 12)
theorem sc_prime : FnScope ["number", "divisor"] ["number"] (defScope s_prime) :=
  ⟨rfl, rfl, rfl, by decide +kernel, rfl, by decide +kernel, by decide +kernel⟩
theorem ok_prime (F : Dn K mg "is_prime_number" s_prime ["number"]) (T : Bt mg) : Cal P w K mg base 1 "is_prime_number" spPrime [] := by
  refine F.cal sc_prime (fun vs H Q E h => ?_) (fun f cdv A outer s H vs Q E hr h => ?_)
  · obtain ⟨n, rfl, _⟩ := h
    rfl
  · obtain ⟨n, rfl, n1, q⟩ := h
    refine ⟨_, (pss_cons (ps_set (i := 1) sc_prime.nd rfl (Or.inl rfl) pe_int)
      (pss_cons (ps_while PassesOwn.never (pt_cmpR op_le (pe_op oMul (pv 1) (pv 1)) (pv 0) (nomark _)) (pss_cons (ps_if (pt_cmpR op_eq (pe_op op_mod (pv 0) (pv 1)) pe_int (nomark _)) (pss_one (ps_ret pe_bl)) pss_nil)
      (pss_one (ps_aug (i := 1) sc_prime.nd rfl (Or.inl rfl) pe_int ip_add))))
      (pss_one (ps_ret (pe_cmpR op_gt (pv 0) pe_int (nomark _)))))), ?_⟩
    walk_at "go"
    refine while_go (fun σ H' => ∃ d : Int, σ = [some (.int n), some (.int d)] ∧ 2 ≤ d ∧ d ≤ 2 ^ 31 ∧ (∀ e : Int, 2 ≤ e → e < d → n % e ≠ 0) ∧ H' = H) (fun σ _ => match σ with | [_, some (.int d)] => (2 ^ 31 - d).toNat | _ => 0)
      ⟨2, rfl, by decide, by decide, fun e h1 h2 => by omega, rfl⟩ ?_
    rintro σ H' ⟨d, rfl, d2, d3, hd, rfl⟩
    walk_at "go"
    refine ite_d (fun h => ?_) (fun h => ?_)
    · have hd30 : d < 2 ^ 31 - 1 := by
        refine Int.not_le.mp fun z => ?_
        have h4 : (2 ^ 31 - 1) * (2 ^ 31 - 1) ≤ d * d := Int.mul_le_mul z z (by decide) (by omega)
        omega
      walk_at "go"
      refine ite_d (fun h2 => ?_) (fun h2 => ?_)
      · walk_at "go"
        have e0 : n % d = 0 := by injection h2
        exact q false ⟨(fun z => by cases z), fun z => absurd e0 (z.2 d d2 h)⟩
      · walk_at "go"
        have e0 : n % d ≠ 0 := fun z => h2 (by rw [z])
        refine ⟨?_, d + 1, rfl, by omega, by omega, fun e h3 h4 => ?_, rfl⟩
        · show (2 ^ 31 - (d + 1)).toNat < (2 ^ 31 - d).toNat
          omega
        · by_cases h5 : e = d
          · rw [h5]; exact e0
          · exact hd e h3 (by omega)
    · walk_at "go"
      refine q _ ?_
      rw [decide_eq_true_iff]
      refine ⟨fun z => ⟨z, fun e h1 h2 => ?_⟩, fun z => z.1⟩
      by_cases h5 : e < d
      · exact hd e h1 h5
      · exfalso
        have h4 : d * d ≤ e * e := Int.mul_le_mul (by omega) (by omega) (by omega) (by omega)
        omega
noncomputable abbrev s_isfac : Stmt := (top 14)
theorem sc_isfac : FnScope ["thing", "least", "prime", "power"] ["thing", "least"] (defScope s_isfac) :=
  ⟨rfl, rfl, rfl, by decide +kernel, rfl, by decide +kernel, by decide +kernel⟩
theorem ok_isfac (F : Dn K mg "is_factor" s_isfac ["thing", "least"]) (T : Bt mg) (c_isint : Cal P w K mg base 1 "is_integer" (spIsInt K) []) (c_prime : Cal P w K mg base 1 "is_prime_number" spPrime []) : Cal P w K mg base 2 "is_factor" spIsFactor [] := by
  refine F.cal sc_isfac (fun vs H Q E h => ?_) (fun f cdv A outer s H vs Q E hr h => ?_)
  · obtain ⟨t, l, p, k, rfl, _⟩ := h
    rfl
  · obtain ⟨t, l, p, k, rfl, ht, hp, q⟩ := h
    refine ⟨_, (pss_cons (ps_if (PW.pt (pw_or (pt_not (pt_val (pe_callB call_isi (by rfl) T.isinstance (by decide +kernel) (pa_cons (pv 0) (pa_cons (pe_bltn (v := .ty "tuple") (by rfl) T.tuple (by decide +kernel) rfl) pa_nil))))) (pw_or1 (pt_cmpR op_ne (pe_callB cLen (by rfl) T.len (by decide +kernel) (pa_cons (pv 0) pa_nil)) pe_int (nomark _))))) (pss_one (ps_ret pe_bl)) pss_nil)
      (pss_cons (ps_asg (pv 0) (pg_tup rfl (pgs_cons (pg_name (i := 2) sc_isfac.nd rfl (Or.inl rfl)) (pgs_cons (pg_name (i := 3) sc_isfac.nd rfl (Or.inl rfl)) pgs_nil))))
      (pss_cons (ps_if (PW.pt (pw_or (pt_not (pt_val (pe_c c_isint hr (by decide) (by rfl) (pa_cons (pv 2) pa_nil)))) (pw_or1 (pt_not (pt_val (pe_c c_isint hr (by decide) (by rfl) (pa_cons (pv 3) pa_nil))))))) (pss_one (ps_ret pe_bl)) pss_nil)
      (pss_one (ps_ret (pe_and (pe_cmpR op_gt (pv 2) (pv 1) (nomark _)) (pe_and (pe_cmpR op_gt (pv 3) pe_int (nomark _)) (pe_one (pe_c c_prime hr (by decide) (by rfl) (pa_cons (pv 2) pa_nil)))))))))), ?_⟩
    walk_at "go"
    refine w_isi (b := true) (.base (.tup ht)) (kit_ty (by decide +kernel)) ?_
    walk_at "go"
    refine iteF ?_
    walk_at "go"
    refine iteNS rfl ?_
    walk_at "go"
    refine use_isInt ?_
    walk_at "go"
    refine iteF ?_
    walk_at "go"
    refine use_isInt ?_
    walk_at "go"
    refine iteF ?_
    walk_at "go"
    refine ite_d (fun h1 => ?_) (fun h1 => ?_)
    · walk_at "go"
      refine ite_d (fun h2 => ?_) (fun h2 => ?_)
      · walk_at "go"
        refine ⟨p, rfl, hp, fun b hb => ?_⟩
        walk_at "go"
        exact q b (hb.trans ⟨fun z => ⟨h1, h2, z⟩, fun z => z.2.2⟩)
      · walk_at "go"
        exact q false ⟨(fun z => by cases z), fun z => absurd z.2.1 h2⟩
    · walk_at "go"
      exact q false ⟨(fun z => by cases z), fun z => absurd z.1 h1⟩
noncomputable abbrev s_modinit : Stmt := (inClass (top 15) 0)
theorem sc_modinit : FnScope ["self", "factors", "number", "least", "place", "factor"] ["self", "factors"] (defScope s_modinit) :=
  ⟨rfl, rfl, rfl, by decide +kernel, rfl, by decide +kernel, by decide +kernel⟩
theorem ok_modinit {c : CA} {f : Addr} {fd : FuncData} (F : FunD K "__init__" "Modulus.__init__" (defArgs s_modinit) (defBody s_modinit) (defScope s_modinit) [] [] f fd) (T : Bt mg) (X : Kx K mg c) (c_isfac : Cal P w K mg base 2 "is_factor" spIsFactor []) (c_raised : Cal P w K mg base 1 "raised" spRaised []) :
    FnOk P w K mg base L2.CX0 3 f fd ["self", "factors"] (spModInit c) := by
  refine fnD_ok F sc_modinit (fun vs H Q E h => ?_) (fun cdv A outer s H vs Q E hr h => ?_)
  · obtain ⟨x, dx, l, ts, ps, rfl, _⟩ := h
    rfl
  · obtain ⟨x, dx, l, ts, ps, rfl, hx, hl, hp, ha, hs, k⟩ := h
    refine ⟨_, (pss_cons (ps_if (pt_not (pt_val (pe_callB call_isiT (by rfl) T.isinstance (by decide +kernel) (pa_cons (pv 1) (pa_cons (pe_tup (pa_cons (pe_bltn (v := .ty "list") (by rfl) T.list (by decide +kernel) rfl) (pa_cons (pe_bltn (v := .ty "tuple") (by rfl) T.tuple (by decide +kernel) rfl) pa_nil))) pa_nil))))) (pss_one ps_never) pss_nil)
      (pss_cons (ps_set (i := 2) sc_modinit.nd rfl (Or.inl rfl) pe_int)
      (pss_cons (ps_set (i := 3) sc_modinit.nd rfl (Or.inl rfl) pe_int)
      (pss_cons (ps_for PassesOwn.never rfl (pi_enum (by rfl) T.enumerate (pa_cons (pv 1) pa_nil)) (pg_tup rfl (pgs_cons (pg_name (i := 4) sc_modinit.nd rfl (Or.inl rfl)) (pgs_cons (pg_name (i := 5) sc_modinit.nd rfl (Or.inl rfl)) pgs_nil))) (pss_cons (ps_if (pt_not (pt_val (pe_c c_isfac hr (by decide) (by rfl) (pa_cons (pv 5) (pa_cons (pv 3) pa_nil))))) (pss_one ps_never) pss_nil)
      (pss_cons (ps_set (i := 3) sc_modinit.nd rfl (Or.inl rfl) (pe_ix ix_tup (pv 5) pe_int (fun _ _ => rfl)))
      (pss_one (ps_set (i := 2) sc_modinit.nd rfl (Or.inl rfl) (pe_op oMul (pv 2) (pe_c c_raised hr (by decide) (by rfl) (pa_cons (pe_ix ix_tup (pv 5) pe_int (fun _ _ => rfl)) (pa_cons (pe_ix ix_tup (pv 5) pe_int (fun _ _ => rfl)) pa_nil)))))))))
      (pss_cons (ps_fld (pv 0) (pv 2) rfl)
      (pss_one (ps_fld (pv 0) (pe_callTy cTupOf (by rfl) T.tuple (by decide +kernel) (pa_cons (pv 1) pa_nil)) rfl))))))), ?_⟩
    walk_at "go"
    intro p np
    walk_at "go"
    have hl1 := upd_new (o := .tup [.ty "list", .ty "tuple"]) np hl
    have hx1 := upd_new (o := .tup [.ty "list", .ty "tuple"]) np hx
    refine w_isi2 (b := true) upd_same (.base (.lst hl1)) (kitA (by decide +kernel)) ?_
    walk_at "go"
    refine iteF ?_
    walk_at "go"
    refine w_enumi (sq hl1) ?_
    refine for_it (walk_enum (xs := ts.map V.ref)) (fun i σ H' => ∃ (u1 u2 : Option V), σ = [some (.ref x), some (.ref l), some (.int (num (ps.take i))), some (.int (((ps.take i).getLast?.map (·.1)).getD 0)), u1, u2] ∧ Same (upd H p (.tup [.ty "list", .ty "tuple"])) H')
      ⟨none, none, rfl, Same.refl _⟩ (fun i σ H' _ z => by obtain ⟨_, _, _, z⟩ := z; exact sq (z _ _ hl1)) ?_ ?_
    · rintro i y σ H1 H2 hi ⟨u1, u2, rfl, sm⟩ ⟨t, z1, z2, rfl, nt, rfl, e1, e2⟩
      cases e1
      obtain ⟨tt, htt, rfl⟩ := get_map e2
      obtain ⟨pr, hpr, ht⟩ := paired_get hp htt
      have s2 : Same H (upd H1 t (.tup [.int (i : Nat), .ref tt])) := (Same.new np).trans (sm.trans (Same.new nt))
      have ht2 := s2 _ _ ht
      have hsm := hs.1 pr (List.mem_of_getElem? hpr)
      have hasc := ha.at_ hpr
      refine w_gtup (sqt upd_same) rfl ?_
      walk_at "go"
      refine ⟨tt, _, pr.1, pr.2, rfl, ht2, by omega, fun b hb => ?_⟩
      have hb1 : b = true := hb.mpr hasc
      subst hb1
      walk_at "go"
      refine iteF ?_
      walk_at "go"
      refine ⟨pr.1, pr.2, 10, rfl, by omega, by omega, by show pr.1.natAbs < 1024; omega, by omega, ?_⟩
      walk_at "go"
      · refine ⟨some (.int (i : Nat)), some (.ref tt), ?_, (sm.trans (Same.new nt))⟩
        have hi2 : i < ps.length := (List.getElem?_eq_some_iff.mp hpr).1
        have e3 : (ps.take (i + 1)).getLast? = some pr := by
          rw [List.take_succ_eq_append_getElem hi2, List.getLast?_concat, (List.getElem?_eq_some_iff.mp hpr).2]
        rw [num_take hpr, e3]
        rfl
      · have hi2 : i < ps.length := (List.getElem?_eq_some_iff.mp hpr).1
        have h7 := num_bound hs i (by omega)
        refine mx_w h7.2 (natAbs_pow_lt (b := 10) (by show pr.1.natAbs < 1024; omega) pr.2.toNat) ?_
        have := hs.2
        omega
    · rintro σ H1 ⟨u1, u2, rfl, sm⟩
      have hlen : (ts.map V.ref).length = ps.length := by
        rw [List.length_map]
        exact hp.length.symm
      rw [hlen, List.take_length]
      have hx2 := sm _ _ hx1
      have hl2 := sm _ _ hl1
      walk_at "go"
      refine w_sfldi hx2 X.md.cl X.number (by decide) ?_
      walk_at "go"
      have nxl : l ≠ x := fun z => by rw [z, hx] at hl; cases hl
      refine w_tupL (sq ((upd_ne nxl).trans hl2)) fun t ht => ?_
      walk_at "go"
      have nxt : x ≠ t := fun z => by rw [z, upd_same] at ht; cases ht
      refine w_sfldi ((upd_ne nxt).trans upd_same) X.md.cl X.factors (by show 1 < 1000; decide) ?_
      walk_at "go"
      refine k _ t (fun b o nb hb => ?_) ?_ ?_
      · have hb2 := sm _ _ (Same.new np _ _ hb)
        have hbt : b ≠ t := fun z => by rw [z] at nb hb2; rw [upd_ne nb, hb2] at ht; cases ht
        rw [upd_ne nb, upd_ne hbt, upd_ne nb]
        exact hb2
      · rw [upd_same]
        show some (HO.ins c.md dx (putF "factors" (.ref t) [("number", _)])) = _
        rw [putS (by decide +kernel)]
        rfl
      · rw [upd_ne nxt.symm, upd_same]
noncomputable abbrev s_reqmod : Stmt := (top 16)
theorem sc_reqmod : FnScope ["modulus"] ["modulus"] (defScope s_reqmod) :=
  ⟨rfl, rfl, rfl, by decide +kernel, rfl, by decide +kernel, by decide +kernel⟩
theorem ok_reqmod {c : CA} (F : Dn K mg "require_modulus" s_reqmod ["modulus"]) (T : Bt mg) (X : Kx K mg c) : Cal P w K mg base 1 "require_modulus" (spReqMod c) [] := by
  refine F.cal sc_reqmod (fun vs H Q E h => ?_) (fun f cdv A outer s H vs Q E hr h => ?_)
  · obtain ⟨m, dx, fs, rfl, _⟩ := h
    rfl
  · obtain ⟨m, dx, fs, rfl, hm, q⟩ := h
    refine ⟨_, (pss_one (ps_if (pt_not (pt_val (pe_callB call_isi (by rfl) T.isinstance (by decide +kernel) (pa_cons (pv 0) (pa_cons (pe_glob (v := .ref c.md) (by rfl) X.mgMd rfl) pa_nil))))) (pss_one ps_never) pss_nil)), ?_⟩
    walk_at "go"
    refine w_isiC (X.md.ty hm) kit_own ?_
    walk_at "go"
    refine iteF ?_
    walk_at "go"
    exact q
noncomputable abbrev s_mixed : Stmt := (top 54)
theorem sc_mixed : FnScope ["_law_cell", "_law_k", "_law_stirred"] ["_law_cell", "_law_k"] (defScope s_mixed) :=
  ⟨rfl, rfl, rfl, by decide +kernel, rfl, by decide +kernel, by decide +kernel⟩
theorem ok_mixed (F : Dn K mg "_law_mixed" s_mixed ["_law_cell", "_law_k"]) (T : Bt mg) : Cal P w K mg base 1 "_law_mixed" spMixed [] := by
  refine F.cal sc_mixed (fun vs H Q E h => ?_) (fun f cdv A outer s H vs Q E hr h => ?_)
  · obtain ⟨a, b, rfl, _⟩ := h
    rfl
  · obtain ⟨a, b, rfl, a0, a1, b0, b1, k⟩ := h
    refine ⟨_, (pss_cons (ps_set (i := 2) sc_mixed.nd rfl (Or.inl rfl) (pe_op op_mod (pe_callTy cInt1 (by rfl) T.int (by decide +kernel) (pa_cons (pe_op op_add (pe_op op_add (pe_op op_add (pe_op oMul (pv 0) pe_int) (pe_op oMul (pe_op oMul pe_int (pv 1)) (pv 1))) (pe_op oMul pe_int (pv 1))) pe_int) pa_nil)) pe_int))
      (pss_one (ps_ret (pe_op op_fdivW (pe_op op_mod (pe_callTy cInt1 (by rfl) T.int (by decide +kernel) (pa_cons (pe_op op_add (pe_op op_add (pe_op oMul (pv 2) (pv 2)) (pe_op oMul pe_int (pv 2))) pe_int) pa_nil)) pe_int) pe_int)))), ?_⟩
    walk_at "go"
    · exact k _ (by omega) (by omega)
noncomputable abbrev s_purse : Stmt := (top 55)
theorem sc_purse : FnScope ["_law_cells", "_law_at", "_law_cell"] ["_law_cells", "_law_at"] (defScope s_purse) :=
  ⟨rfl, rfl, rfl, by decide +kernel, rfl, by decide +kernel, by decide +kernel⟩
theorem ok_purse (F : Dn K mg "_law_purse" s_purse ["_law_cells", "_law_at"]) (T : Bt mg) : Cal P w K mg base 1 "_law_purse" (spPurse K) [] := by
  refine F.cal sc_purse (fun vs H Q E h => ?_) (fun f cdv A outer s H vs Q E hr h => ?_)
  · obtain ⟨a, ns, i, rfl, _⟩ := h
    rfl
  · obtain ⟨a, ns, i, rfl, hS, i0, hl, k⟩ := h
    have e1 : CPowW 10 18 := ⟨by decide, by decide +kernel⟩
    have e2 : CPowW 10 60 := ⟨by decide, by decide +kernel⟩
    have e3 : CPowW (10 ^ Int.toNat 60) 8 := ⟨by decide, by decide +kernel⟩
    have e4 : (0 : Int) < (10 ^ Int.toNat 60) ^ Int.toNat 8 := by decide +kernel
    have e5 : ((10 : Int) ^ Int.toNat 60) ^ Int.toNat 8 < 2 ^ 1600 := by decide +kernel
    generalize e6 : ((10 : Int) ^ Int.toNat 60) ^ Int.toNat 8 = g at e4 e5
    have fin : ∀ c : Int, Q = Q → ∀ p, H p = none → Q (.ref p) (upd H p (.lst [.int ((if 0 > c - 10 ^ Int.toNat 18 then 0 else c - 10 ^ Int.toNat 18) % g), .int (c % 2147483647), .int (1000 * i)])) := fun c _ p np =>
      k p _ np (Same.new np) ⟨_, _, _, upd_same, Int.emod_nonneg _ (by omega), Int.lt_trans (Int.emod_lt_of_pos _ e4) e5, by omega, by omega, by omega, by omega⟩
    refine ⟨_, (pss_cons (ps_set (i := 2) sc_purse.nd rfl (Or.inl rfl) pe_int)
      (pss_cons (ps_if (pt_cmpR op_lt (pv 1) (pe_callB cLen (by rfl) T.len (by decide +kernel) (pa_cons (pv 0) pa_nil)) (nomark _)) (pss_one (ps_set (i := 2) sc_purse.nd rfl (Or.inl rfl) (pe_ix ix_list (pv 0) (pv 1) (fun _ _ => rfl)))) pss_nil)
      (pss_one (ps_ret (pe_lst (pa_cons (pe_op op_mod (pe_callTy cInt1 (by rfl) T.int (by decide +kernel) (pa_cons (pe_callB (cMax2 rfl) (by rfl) T.max (by decide +kernel) (pa_cons (pe_op op_sub (pv 2) (pe_op oPowW pe_int pe_int)) (pa_cons pe_int pa_nil))) pa_nil)) (pe_op oPowW (pe_op oPowW pe_int pe_int) pe_int)) (pa_cons (pe_op op_mod (pe_callTy cInt1 (by rfl) T.int (by decide +kernel) (pa_cons (pv 2) pa_nil)) pe_int) (pa_cons (pe_op oMul pe_int (pv 1)) pa_nil)))))))), ?_⟩
    walk_at "go"
    refine ite_d (fun h => ?_) (fun h => ?_)
    · walk_at "go"
      refine w_ixL hS (atI_ints i0 h) ?_
      walk_at "go"
      rw [e6]
      exact fin _ rfl
    · walk_at "go"
      rw [e6]
      exact fin _ rfl
noncomputable abbrev s_draw : Stmt := (top 56)
theorem sc_draw : FnScope ["_law_purse_here", "_law_out_of", "_law_drawn"] ["_law_purse_here", "_law_out_of"] (defScope s_draw) :=
  ⟨rfl, rfl, rfl, by decide +kernel, rfl, by decide +kernel, by decide +kernel⟩
theorem ok_draw (F : Dn K mg "_law_draw" s_draw ["_law_purse_here", "_law_out_of"]) (T : Bt mg) (c_mixed : Cal P w K mg base 1 "_law_mixed" spMixed []) : Cal P w K mg base 2 "_law_draw" spDraw [] := by
  refine F.cal sc_draw (fun vs H Q E h => ?_) (fun f cdv A outer s H vs Q E hr h => ?_)
  · obtain ⟨a, n, c, rfl, _⟩ := h
    rfl
  · obtain ⟨a, n, c, rfl, n0, n1, hc, ⟨x, y, z, hp, x0, x1, y0, y1, z0, z1⟩, k⟩ := h
    refine ⟨_, (pss_cons (ps_if (pt_cmpR op_gt (pe_ix ix_list (pv 0) pe_int (fun _ _ => rfl)) pe_int (nomark _)) (pss_cons (ps_set (i := 2) sc_draw.nd rfl (Or.inl rfl) (pe_op op_mod (pe_callTy cInt1 (by rfl) T.int (by decide +kernel) (pa_cons (pe_ix ix_list (pv 0) pe_int (fun _ _ => rfl)) pa_nil)) (pv 1)))
      (pss_cons (ps_asg (pe_op op_fdivW (pe_ix ix_list (pv 0) pe_int (fun _ _ => rfl)) (pv 1)) (pg_sub (pv 0) pe_int set_list))
      (pss_one (ps_ret (pv 2))))) pss_nil)
      (pss_cons (ps_asg (pe_op op_add (pe_ix ix_list (pv 0) pe_int (fun _ _ => rfl)) pe_int) (pg_sub (pv 0) pe_int set_list))
      (pss_one (ps_ret (pe_op op_mod (pe_callTy cInt1 (by rfl) T.int (by decide +kernel) (pa_cons (pe_c c_mixed hr (by decide) (by rfl) (pa_cons (pe_ix ix_list (pv 0) pe_int (fun _ _ => rfl)) (pa_cons (pe_ix ix_list (pv 0) pe_int (fun _ _ => rfl)) pa_nil))) pa_nil)) (pv 1)))))), ?_⟩
    walk_at "go"
    refine ite_d (fun h => ?_) (fun h => ?_)
    · walk_at "go"
      exact k _ _ (Int.emod_nonneg _ (by omega)) (Int.emod_lt_of_pos _ n0) Keep.refl.upd ⟨_, _, _, upd_same, Int.ediv_nonneg x0 (by omega), Int.lt_of_le_of_lt (Int.ediv_le_self _ x0) x1, y0, y1, z0, by omega⟩
    · walk_at "go"
      refine ⟨_, _, rfl, y0, y1, (by omega), (by omega), fun r r0 r1 => ?_⟩
      walk_at "go"
      exact k _ _ (Int.emod_nonneg _ (by omega)) (Int.emod_lt_of_pos _ n0) Keep.refl.upd ⟨_, _, _, upd_same, x0, x1, y0, y1, by omega, by omega⟩
noncomputable abbrev s_belowat : Stmt := (top 29)
theorem sc_belowat : FnScope ["rows", "number", "place", "figure", "here", "rest", "exceptions", "some", "below"] ["rows", "number", "place", "figure"] (defScope s_belowat) :=
  ⟨rfl, rfl, rfl, by decide +kernel, rfl, by decide +kernel, by decide +kernel⟩
theorem ok_belowat (F : Dn K mg "below_at" s_belowat ["rows", "number", "place", "figure"]) (T : Bt mg) : Cal P w K mg base 1 "below_at" spBelowAt [] := by
  refine F.cal sc_belowat (fun vs H Q E h => ?_) (fun f cdv A outer s H vs Q E hr h => ?_)
  · obtain ⟨a, t, r, i, g, rfl, _⟩ := h
    rfl
  · obtain ⟨a, t, r, i, g, rfl, ht, hr', q⟩ := h
    obtain ⟨ts, qa, e, es, h1, h2, h3, h4, h5⟩ := ht.row hr'
    have h4s : SqT K H e (es.map V.ref) := sqR h4
    refine ⟨_, (pss_cons (ps_asg (pe_ix ix_tup (pv 0) (pv 1) (fun _ _ => rfl)) (pg_tup rfl (pgs_cons (pg_name (i := 4) sc_belowat.nd rfl (Or.inl rfl)) (pgs_cons (pg_name (i := 5) sc_belowat.nd rfl (Or.inl rfl)) (pgs_cons (pg_name (i := 6) sc_belowat.nd rfl (Or.inl rfl)) pgs_nil)))))
      (pss_cons (ps_if (pt_cmpR op_ne (pv 4) (pv 2) (nomark _)) (pss_one (ps_ret (pv 1))) pss_nil)
      (pss_cons (ps_for PassesOwn.never rfl (pi_tup (pv 6)) (pg_tup rfl (pgs_cons (pg_name (i := 7) sc_belowat.nd rfl (Or.inl rfl)) (pgs_cons (pg_name (i := 8) sc_belowat.nd rfl (Or.inl rfl)) pgs_nil))) (pss_one (ps_if (pt_cmpR op_eq (pv 7) (pv 3) (nomark _)) (pss_one (ps_ret (pv 8))) pss_nil)))
      (pss_one (ps_ret (pv 5)))))), ?_⟩
    walk_at "go"
    refine w_ixT (sqt h1) (atI_map (x := qa) (by omega) (by rw [Int.toNat_natCast]; exact h2)) ?_
    refine w_gtup (sqt h3) rfl ?_
    walk_at "go"
    rw [decI]
    refine ite_nd (fun hc => ?_) (fun hc => ?_)
    · walk_at "go"
      have he : belowO t r i g = r := by
        have hne : ¬ (rowAt t r).1 = i := fun z => hc (by omega)
        cases g with
        | none => exact if_neg hne
        | some x => exact if_neg hne
      rw [he] at q
      exact q
    · have hc : (rowAt t r).1 = i := by omega
      cases g with
      | none =>
        have hq : belowO t r i none = (rowAt t r).2.1 := if_pos hc
        rw [hq] at q
        walk_at "go"
        refine for_tup (K := K) (a := e) (xs := es.map V.ref) (fun j σ H' => ∃ (v7 v8 : Option V), σ = [some (.ref a), some (.int (r : Int)), some (.int (i : Int)), some .non, some (.int ((rowAt t r).1 : Int)), some (.int ((rowAt t r).2.1 : Int)), some (.ref e), v7, v8] ∧ H' = H) ⟨_, _, rfl, rfl⟩ (fun j σ H' _ z => by obtain ⟨_, _, _, rfl⟩ := z; exact sqR h4) ?_ ?_
        · rintro j y σ H1 hj ⟨v7, v8, rfl, rfl⟩
          obtain ⟨p, hp, rfl⟩ := get_map hj
          obtain ⟨x, hx, hpx⟩ := paired_get h5 hp
          refine w_gtup (sqt hpx) rfl ?_
          walk_at "go"
          rw [decide_eq_false (fun z => by cases z)]
          refine iteF ?_
          walk_at "go"
          exact ⟨_, _, rfl, rfl⟩
        · rintro σ H1 ⟨v7, v8, rfl, rfl⟩
          walk_at "go"
          exact q
      | some g =>
        have hq : belowO t r i (some g) = belowF (rowAt t r) g := if_pos hc
        rw [hq] at q
        walk_at "go"
        refine for_tup (K := K) (a := e) (xs := es.map V.ref) (fun j σ H' => ∃ (v7 v8 : Option V), σ = [some (.ref a), some (.int (r : Int)), some (.int (i : Int)), some (.int (g : Int)), some (.int ((rowAt t r).1 : Int)), some (.int ((rowAt t r).2.1 : Int)), some (.ref e), v7, v8] ∧ H' = H ∧ ((rowAt t r).2.2.take j).find? (fun e => decide (e.1 = g)) = none) ⟨_, _, rfl, rfl, rfl⟩ (fun j σ H' _ z => by obtain ⟨_, _, _, rfl, _⟩ := z; exact sqR h4) ?_ ?_
        · rintro j y σ H1 hj ⟨v7, v8, rfl, rfl, hn⟩
          obtain ⟨p, hp, rfl⟩ := get_map hj
          obtain ⟨x, hx, hpx⟩ := paired_get h5 hp
          refine w_gtup (sqt hpx) rfl ?_
          walk_at "go"
          rw [decI]
          refine ite_d (fun hg => ?_) (fun hg => ?_)
          · walk_at "go"
            have hb : belowF (rowAt t r) g = x.2 := by
              unfold belowF
              have e2 : (rowAt t r).2.2.find? (fun e => decide (e.1 = g)) = some x := by
                rw [← List.take_append_drop (j + 1) (rowAt t r).2.2, List.take_add_one, hx, List.append_assoc, List.find?_append, hn, Option.none_or, List.find?_append]
                show (([x] : List (Nat × Nat)).find? _).or _ = _
                rw [List.find?_cons, decide_eq_true (show x.1 = g by omega)]
                rfl
              rw [e2]
              rfl
            rw [hb] at q
            exact q
          · walk_at "go"
            refine ⟨_, _, rfl, rfl, ?_⟩
            rw [List.take_add_one, hx, List.find?_append, hn, Option.none_or]
            show ([x] : List (Nat × Nat)).find? _ = none
            rw [List.find?_cons, decide_eq_false (show ¬ x.1 = g by omega)]
            rfl
        · rintro σ H1 ⟨v7, v8, rfl, rfl, hn⟩
          rw [List.length_map, ← h5.length, List.take_length] at hn
          walk_at "go"
          have hb : belowF (rowAt t r) g = (rowAt t r).2.1 := by
            unfold belowF
            rw [hn]
            rfl
          rw [hb] at q
          exact q
noncomputable abbrev s_countb : Stmt := (top 24)
theorem sc_countb : FnScope ["signed", "number", "found", "rest", "wide", "sign"] ["signed", "number"] (defScope s_countb) :=
  ⟨rfl, rfl, rfl, by decide +kernel, rfl, by decide +kernel, by decide +kernel⟩
theorem ok_countb (F : Dn K mg "count_below" s_countb ["signed", "number"]) (T : Bt mg) : Cal P w K mg base 1 "count_below" spCountB [] := by
  refine F.cal sc_countb (fun vs H Q E h => ?_) (fun f cdv A outer s H vs Q E hr h => ?_)
  · obtain ⟨a, L, n, rfl, _⟩ := h
    rfl
  · obtain ⟨a, L, n, rfl, ⟨ts, h1, h2⟩, hs, q⟩ := h
    refine ⟨_, (pss_cons (ps_set (i := 2) sc_countb.nd rfl (Or.inl rfl) pe_int)
      (pss_cons (ps_for PassesOwn.never rfl (pi_list (pv 0)) (pg_tup rfl (pgs_cons (pg_name (i := 3) sc_countb.nd rfl (Or.inl rfl)) (pgs_cons (pg_name (i := 4) sc_countb.nd rfl (Or.inl rfl)) (pgs_cons (pg_name (i := 5) sc_countb.nd rfl (Or.inl rfl)) pgs_nil)))) (pss_one (ps_if (pt_cmpR op_lt (pv 3) (pv 1) (nomark _)) (pss_one (ps_aug (i := 2) sc_countb.nd rfl (Or.inl rfl) (pe_op oMul (pv 5) (pe_op op_add (pe_op op_fdivW (pe_op op_sub (pe_op op_sub (pv 1) pe_int) (pv 3)) (pv 4)) pe_int)) ip_add)) pss_nil)))
      (pss_one (ps_ret (pv 2))))), ?_⟩
    walk_at "go"
    refine for_list (K := K) (a := a) (xs := ts.map V.ref) (fun i σ H' => ∃ (v3 v4 v5 : Option V), σ = [some (.ref a), some (.int n), some (.int (cbS (L.take i) n)), v3, v4, v5] ∧ H' = H) ⟨_, _, _, rfl, rfl⟩ (fun i σ H' _ z => by obtain ⟨_, _, _, _, rfl⟩ := z; exact sq h1) ?_ ?_
    · rintro i y σ H1 hi ⟨v3, v4, v5, rfl, rfl⟩
      obtain ⟨p, hp, rfl⟩ := get_map hi
      obtain ⟨x, hx, hpx⟩ := paired_get h2 hp
      obtain ⟨r0, r1, hw60, sg⟩ := hs x (List.mem_of_getElem? hx)
      refine w_gtup (sqt hpx) rfl ?_
      walk_at "go"
      refine ite_d (fun hc => ?_) (fun hc => ?_)
      · have hdv : CDivW (n - 1 - x.1) x.2.1 := wdiv60 (by omega) hw60
        have hcx : CMx x.2.2 ((n - 1 - x.1) / x.2.1 + 1) := mx_l (by omega)
        walk_at "go"
        exact ⟨_, _, _, by rw [cbS_take hx, if_pos hc]; rfl, rfl⟩
      · walk_at "go"
        exact ⟨_, _, _, by rw [cbS_take hx, if_neg hc, Int.add_zero]; rfl, rfl⟩
    · rintro σ H1 ⟨v3, v4, v5, rfl, rfl⟩
      rw [List.length_map, ← h2.length, List.take_length]
      walk_at "go"
      exact q
noncomputable abbrev s_memat : Stmt := (top 25)
theorem sc_memat : FnScope ["signed", "number", "order", "low", "high", "middle"] ["signed", "number", "order"] (defScope s_memat) :=
  ⟨rfl, rfl, rfl, by decide +kernel, rfl, by decide +kernel, by decide +kernel⟩
theorem ok_memat (F : Dn K mg "member_at" s_memat ["signed", "number", "order"]) (T : Bt mg) (c_countb : Cal P w K mg base 1 "count_below" spCountB []) : Cal P w K mg base 2 "member_at" spMemberAt [] := by
  refine F.cal sc_memat (fun vs H Q E h => ?_) (fun f cdv A outer s H vs Q E hr h => ?_)
  · obtain ⟨a, L, N, k, mem, rfl, _⟩ := h
    rfl
  · obtain ⟨a, L, N, k, mem, rfl, hL, hs, hN, hm, hk, q⟩ := h
    have hL1 : ∀ e ∈ L, 0 ≤ e.1 ∧ e.1 < e.2.1 := fun e he => ⟨(hs e he).1, (hs e he).2.1⟩
    have hN1 : 0 < N := by
      refine Classical.byContradiction fun z => ?_
      rw [show N = 0 by omega] at hk
      exact absurd hk (Nat.not_lt_zero _)
    refine ⟨_, (pss_cons (ps_par (i := 3) (j := 4) (by rfl) sc_memat.nd rfl rfl (by decide) rfl rfl (pa_cons pe_int (pa_cons (pe_op op_sub (pv 1) pe_int) pa_nil)) (by rfl))
      (pss_cons (ps_while PassesOwn.never (pt_cmpR op_lt (pv 3) (pv 4) (nomark _)) (pss_cons (ps_set (i := 5) sc_memat.nd rfl (Or.inl rfl) (pe_op op_fdivW (pe_op op_add (pv 3) (pv 4)) pe_int))
      (pss_one (ps_if (pt_cmpR op_gt (pe_c c_countb hr (by decide) (by rfl) (pa_cons (pv 0) (pa_cons (pe_op op_add (pv 5) pe_int) pa_nil))) (pv 2) (nomark _)) (pss_one (ps_set (i := 4) sc_memat.nd rfl (Or.inl rfl) (pv 5))) (pss_one (ps_set (i := 3) sc_memat.nd rfl (Or.inl rfl) (pe_op op_add (pv 5) pe_int)))))))
      (pss_one (ps_ret (pv 3))))), ?_⟩
    walk_at "go"
    refine while_m (fun μ σ H' => ∃ (lo hi : Nat) (v5 : Option V), σ = [some (.ref a), some (.int (N : Int)), some (.int (k : Int)), some (.int (lo : Int)), some (.int (hi : Int)), v5] ∧ H' = H ∧ μ = hi - lo ∧ lo ≤ hi ∧ hi < N ∧ cm30 mem lo ≤ k ∧ k < cm30 mem (hi + 1)) (N - 1) ⟨0, N - 1, none, by rw [show ((N - 1 : Nat) : Int) = (N : Int) - 1 by omega]; rfl, rfl, by omega, by omega, by omega, Nat.zero_le _, by rw [show N - 1 + 1 = N by omega]; exact hk⟩ ?_
    rintro μ σ H1 ⟨lo, hi, v5, rfl, rfl, rfl, l1, l2, l3, l4⟩
    have hdv : CDivW ((lo : Int) + (hi : Int)) 2 := wdiv60 (by omega) (by omega)
    walk_at "go"
    refine ite_d (fun hc => ?_) (fun hc => ?_)
    · walk_at "go"
      obtain ⟨mid, hmid⟩ : ∃ mid : Nat, ((lo : Int) + (hi : Int)) / 2 = (mid : Int) := ⟨(lo + hi) / 2, by omega⟩
      rw [hmid]
      refine ⟨a, L, (mid : Int) + 1, rfl, hL, hs, ?_⟩
      rw [show (mid : Int) + 1 = ((mid + 1 : Nat) : Int) by omega, cb_count hL1 hm]
      walk_at "go"
      refine ite_d (fun hd => ?_) (fun hd => ?_)
      · walk_at "go"
        exact ⟨_, by omega, lo, mid, _, rfl, rfl, rfl, by omega, by omega, l3, by omega⟩
      · walk_at "go"
        exact ⟨_, by omega, mid + 1, hi, _, by rw [show ((mid + 1 : Nat) : Int) = (mid : Int) + 1 by omega], rfl, rfl, by omega, by omega, by omega, l4⟩
    · walk_at "go"
      have e : lo = hi := by omega
      subst e
      obtain ⟨m1, m2⟩ := found_at l3 l4
      exact q lo l2 m1 m2
noncomputable abbrev s_holds : Stmt := (top 41)
theorem sc_holds : FnScope ["figures", "rows", "root", "base", "row", "place", "prime", "weight"] ["figures", "rows", "root", "base"] (defScope s_holds) :=
  ⟨rfl, rfl, rfl, by decide +kernel, rfl, by decide +kernel, by decide +kernel⟩
theorem ok_holds {tN tE : Tok} (F : Dn K mg "holds" s_holds ["figures", "rows", "root", "base"]) (T : Bt mg) (zNONE : mg "NONE" = some (.int 0 tN)) (zEVERY : mg "EVERY" = some (.int 1 tE)) (c_belowat : Cal P w K mg base 1 "below_at" spBelowAt []) : Cal P w K mg base 2 "holds" spHolds [] := by
  refine F.cal sc_holds (fun vs H Q E h => ?_) (fun f cdv A outer s H vs Q E hr h => ?_)
  · obtain ⟨fa, ra, G, t, r, b, rfl, _⟩ := h
    rfl
  · obtain ⟨fa, ra, G, t, r, b, rfl, hf, ht, hw, hG, hr', q⟩ := h
    refine ⟨_, (pss_cons (ps_set (i := 4) sc_holds.nd rfl (Or.inl rfl) (pv 2))
      (pss_cons (ps_while PassesOwn.never (pt_cmpR op_notIn_seq (pv 4) (pe_tup (pa_cons (pe_glob (v := .int 0) (by rfl) zNONE ⟨_, rfl⟩) (pa_cons (pe_glob (v := .int 1) (by rfl) zEVERY ⟨_, rfl⟩) pa_nil))) (by rfl)) (pss_cons (ps_set (i := 5) sc_holds.nd rfl (Or.inl rfl) (pe_ix ix_tup (pe_ix ix_tup (pv 1) (pv 4) (fun _ _ => rfl)) pe_int (fun _ _ => rfl)))
      (pss_cons (ps_asg (pe_ix ix_list (pv 0) (pv 5) (fun _ _ => rfl)) (pg_tup rfl (pgs_cons (pg_name (i := 6) sc_holds.nd rfl (Or.inl rfl)) (pgs_cons (pg_name (i := 7) sc_holds.nd rfl (Or.inl rfl)) pgs_nil))))
      (pss_one (ps_set (i := 4) sc_holds.nd rfl (Or.inl rfl) (pe_c c_belowat hr (by decide) (by rfl) (pa_cons (pv 1) (pa_cons (pv 4) (pa_cons (pv 5) (pa_cons (pe_op op_mod (pe_op op_fdivW (pv 3) (pv 7)) (pv 6)) pa_nil))))))))))
      (pss_one (ps_ret (pe_cmpR op_eq (pv 4) (pe_glob (v := .int 1) (by rfl) zEVERY ⟨_, rfl⟩) (nomark _)))))), ?_⟩
    walk_at "go"
    refine while_m (fun μ σ H' => ∃ (r1 : Nat) (v5 v6 v7 : Option V), σ = [some (.ref fa), some (.ref ra), some (.int (r : Int)), some (.int b), some (.int (r1 : Int)), v5, v6, v7] ∧ Same H H' ∧ r1 = μ ∧ r1 < t.length ∧ sem t r1 (dig G b) = sem t r (dig G b)) r ⟨r, _, _, _, rfl, Same.refl _, rfl, hr', rfl⟩ ?_
    rintro μ σ H1 ⟨r1, v5, v6, v7, rfl, s1, rfl, l1, l2⟩
    walk_at "go"
    refine al fun p H2 n2 s2 h2 => ?_
    have S2 := s1.trans s2
    walk_at "go"
    refine w_notLow h2 ?_
    walk_at "go"
    by_cases c : r1 < 2
    · rw [decide_eq_true c]
      refine iteF ?_
      walk_at "go"
      have e : sem t r (dig G b) = decide ((r1 : Int) = 1) := by
        rw [← l2, sem_lt c]
        exact decide_eq_decide.mpr (by omega)
      have := q H2 S2
      rw [e] at this
      rw [decI]
      exact this
    · rw [decide_eq_false c]
      refine iteT ?_
      obtain ⟨ts, qa, ea, es, g1, g2, g3, g4, g5⟩ := (ht.same S2).row l1
      obtain ⟨fs, k1, k2⟩ := hf.same S2
      have hpl := hw.pl _ (by omega) l1
      have hx : G[(rowAt t r1).1]? = some G[(rowAt t r1).1] := List.getElem?_eq_getElem hpl
      obtain ⟨fq, hfq, hft⟩ := paired_getL k2 hx
      obtain ⟨p1, p2, p3, p4⟩ := hG _ (List.mem_of_getElem? hx)
      have hd := dig_at (b := b) hx
      generalize hee : G[(rowAt t r1).1] = ee at *
      have hft : H2 fq = some (.tup [.int (ee.1 : Int), .int (ee.2 : Int)]) := hft
      have d1 : CDivW b (ee.2 : Int) := wdiv60 (by omega) (by omega)
      have d2 : CDivW (b / (ee.2 : Int)) (ee.1 : Int) := wdiv60 (by omega) (by omega)
      walk_at "go"
      refine w_ixT (sqt g1) (atI_map (x := qa) (by omega) (by rw [Int.toNat_natCast]; exact g2)) ?_
      walk_at "go"
      refine w_ixL (sq k1) (atI_map (x := fq) (by omega) (by rw [Int.toNat_natCast]; exact hfq)) ?_
      refine w_gtup (sqt hft) rfl ?_
      walk_at "go"
      have e0 := Int.emod_nonneg (b / (ee.2 : Int)) (show ((ee.1 : Nat) : Int) ≠ 0 by omega)
      refine ⟨ra, t, r1, (rowAt t r1).1, some (dig G b (rowAt t r1).1), ?_, ht.same S2, l1, ?_⟩
      · rw [hd]
        show _ = [V.ref ra, .int (r1 : Int), .int ((rowAt t r1).1 : Int), .int (((b / (ee.2 : Int) % (ee.1 : Int)).toNat : Nat) : Int)]
        rw [Int.toNat_of_nonneg e0]
        rfl
      have eb : belowO t r1 (rowAt t r1).1 (some (dig G b (rowAt t r1).1)) = belowF (rowAt t r1) (dig G b (rowAt t r1).1) := if_pos rfl
      rw [eb]
      walk_at "go"
      have hb := hw.dn r1 (by omega) l1 (dig G b (rowAt t r1).1)
      exact ⟨_, hb, _, _, _, _, rfl, S2, rfl, by omega, by rw [← l2]; exact (sem_ge hw (by omega) l1).symm⟩
noncomputable abbrev s_spread : Stmt := (top 39)
theorem sc_spread : FnScope ["figures", "first", "last", "found", "prime", "weight"] ["figures", "first", "last"] (defScope s_spread) :=
  ⟨rfl, rfl, rfl, by decide +kernel, rfl, by decide +kernel, by decide +kernel⟩
theorem ok_spread (F : Dn K mg "spread" s_spread ["figures", "first", "last"]) (T : Bt mg) : Cal P w K mg base 1 "spread" spSpr30 [] := by
  refine F.cal sc_spread (fun vs H Q E h => ?_) (fun f cdv A outer s H vs Q E hr h => ?_)
  · obtain ⟨fa, G, a, b, rfl, _⟩ := h
    rfl
  · obtain ⟨fa, G, a, b, rfl, ⟨ts, h1, h2⟩, hab, hb, hG, hlen, q⟩ := h
    have hl := h2.length
    refine ⟨_, (pss_cons (ps_set (i := 3) sc_spread.nd rfl (Or.inl rfl) pe_int)
      (pss_cons (ps_for PassesOwn.never rfl (pi_list (pe_slice sl_list (pv 0) (po_some (pv 1)) (po_some (pv 2)))) (pg_tup rfl (pgs_cons (pg_name (i := 4) sc_spread.nd rfl (Or.inl rfl)) (pgs_cons (pg_name (i := 5) sc_spread.nd rfl (Or.inl rfl)) pgs_nil))) (pss_one (ps_set (i := 3) sc_spread.nd rfl (Or.inl rfl) (pe_op oMul (pv 3) (pv 4)))))
      (pss_one (ps_ret (pv 3))))), ?_⟩
    walk_at "go"
    refine w_slL (xs := ts.map V.ref) (sq h1) (al fun p H1 n1 s1 hp => ?_)
    rw [cut_mid V.ref ts hab (by omega)] at hp
    have h3 : Paired (ExE H1) ((G.drop a).take (b - a)) ((ts.drop a).take (b - a)) := paired_imp (fun _ _ z => s1 _ _ z) (paired_take _ (paired_drop _ h2))
    walk_at "go"
    refine for_list (K := K) (a := p) (xs := ((ts.drop a).take (b - a)).map V.ref) (fun i σ H' => ∃ (v4 v5 : Option V), σ = [some (.ref fa), some (.int (a : Int)), some (.int (b : Int)), some (.int (((((G.drop a).take (b - a)).take i).map (·.1)).prod : Nat)), v4, v5] ∧ H' = H1) ⟨_, _, rfl, rfl⟩ (fun i σ H' _ z => by obtain ⟨_, _, _, rfl⟩ := z; exact sq hp) ?_ ?_
    · rintro i y σ H2 hi ⟨v4, v5, rfl, rfl⟩
      obtain ⟨t, ht, rfl⟩ := get_map hi
      obtain ⟨x, hx, hpx⟩ := paired_get h3 ht
      have hxm : x ∈ G := List.mem_of_mem_drop (List.mem_of_mem_take (List.mem_of_getElem? hx))
      have hcx : CMx (((((G.drop a).take (b - a)).take i).map (·.1)).prod : Nat) (x.1 : Int) := mx_r (by have := hG x hxm; omega)
      refine w_gtup (sqt hpx) rfl ?_
      walk_at "go"
      exact ⟨_, _, by rw [List.take_add_one, hx, List.map_append, List.prod_append, Int.natCast_mul, show ((some x).toList.map (·.1)).prod = x.1 from by simp], rfl⟩
    · rintro σ H2 ⟨v4, v5, rfl, rfl⟩
      rw [List.length_map, ← h3.length, List.take_length]
      walk_at "go"
      have := q H2 s1
      unfold spr at this
      rw [← List.map_drop, ← List.map_take] at this
      exact this
noncomputable abbrev s_sizeof : Stmt := (top 40)
theorem sc_sizeof : FnScope ["figures", "rows", "root", "found", "number", "place", "rest", "exceptions", "total", "figure", "below"] ["figures", "rows", "root"] (defScope s_sizeof) :=
  ⟨rfl, rfl, rfl, by decide +kernel, rfl, by decide +kernel, by decide +kernel⟩
theorem ok_sizeof {tN tE : Tok} (F : Dn K mg "size_of" s_sizeof ["figures", "rows", "root"]) (T : Bt mg) (zNONE : mg "NONE" = some (.int 0 tN)) (zEVERY : mg "EVERY" = some (.int 1 tE)) (c_spread : Cal P w K mg base 1 "spread" spSpr30 []) : Cal P w K mg base 2 "size_of" spSizeOf [] := by
  refine F.cal sc_sizeof (fun vs H Q E h => ?_) (fun f cdv A outer s H vs Q E hr h => ?_)
  · obtain ⟨fa, ra, G, t, r, rfl, _⟩ := h
    rfl
  · obtain ⟨fa, ra, G, t, r, rfl, hf, ht, hc, hG, hGl, hN, hr', htl, q⟩ := h
    obtain ⟨ts, h1, h2⟩ := id ht
    have hl := h2.length
    have hsz : (100000 : Nat) < sizeLine := by decide
    have hpos : ∀ p ∈ G.map (·.1), 0 < p := fun p hp => by
      obtain ⟨e, he, rfl⟩ := List.mem_map.mp hp
      exact (hG e he).1
    refine ⟨_, (pss_cons (ps_set (i := 3) sc_sizeof.nd rfl (Or.inl rfl) (pe_lst pa_nil))
      (pss_cons (ps_for PassesOwn.never rfl (pi_enumT (by rfl) T.enumerate (pa_cons (pv 1) pa_nil)) (pg_tup rfl (pgs_cons (pg_name (i := 4) sc_sizeof.nd rfl (Or.inl rfl)) (pgs_cons (pg_tup rfl (pgs_cons (pg_name (i := 5) sc_sizeof.nd rfl (Or.inl rfl)) (pgs_cons (pg_name (i := 6) sc_sizeof.nd rfl (Or.inl rfl)) (pgs_cons (pg_name (i := 7) sc_sizeof.nd rfl (Or.inl rfl)) pgs_nil)))) pgs_nil))) (pss_cons (ps_set (i := 8) sc_sizeof.nd rfl (Or.inl rfl) (pv 4))
      (pss_cons (ps_if (pt_cmpR op_notIn_seq (pv 4) (pe_tup (pa_cons (pe_glob (v := .int 0) (by rfl) zNONE ⟨_, rfl⟩) (pa_cons (pe_glob (v := .int 1) (by rfl) zEVERY ⟨_, rfl⟩) pa_nil))) (by rfl)) (pss_cons (ps_set (i := 8) sc_sizeof.nd rfl (Or.inl rfl) (pe_op oMul (pe_op oMul (pe_ix ix_list (pv 3) (pv 6) (fun _ _ => rfl)) (pe_c c_spread hr (by decide) (by rfl) (pa_cons (pv 0) (pa_cons (pe_op op_add (pv 5) pe_int) (pa_cons (pe_ix ix_tup (pe_ix ix_tup (pv 1) (pv 6) (fun _ _ => rfl)) pe_int (fun _ _ => rfl)) pa_nil))))) (pe_op op_sub (pe_ix ix_tup (pe_ix ix_list (pv 0) (pv 5) (fun _ _ => rfl)) pe_int (fun _ _ => rfl)) (pe_callB cLen (by rfl) T.len (by decide +kernel) (pa_cons (pv 7) pa_nil)))))
      (pss_one (ps_for PassesOwn.never rfl (pi_tup (pv 7)) (pg_tup rfl (pgs_cons (pg_name (i := 9) sc_sizeof.nd rfl (Or.inl rfl)) (pgs_cons (pg_name (i := 10) sc_sizeof.nd rfl (Or.inl rfl)) pgs_nil))) (pss_one (ps_set (i := 8) sc_sizeof.nd rfl (Or.inl rfl) (pe_op op_add (pv 8) (pe_op oMul (pe_ix ix_list (pv 3) (pv 10) (fun _ _ => rfl)) (pe_c c_spread hr (by decide) (by rfl) (pa_cons (pv 0) (pa_cons (pe_op op_add (pv 5) pe_int) (pa_cons (pe_ix ix_tup (pe_ix ix_tup (pv 1) (pv 10) (fun _ _ => rfl)) pe_int (fun _ _ => rfl)) pa_nil))))))))))) pss_nil)
      (pss_one (ps_expr (pe_bm PySem.F.plainAttrs_list PySem.F.slot_list_append PySem.F.type_list_append mt_append (pv 3) (pa_cons (pv 8) pa_nil)))))))
      (pss_one (ps_ret (pe_op oMul (pe_ix ix_list (pv 3) (pv 2) (fun _ _ => rfl)) (pe_c c_spread hr (by decide) (by rfl) (pa_cons (pv 0) (pa_cons pe_int (pa_cons (pe_ix ix_tup (pe_ix ix_tup (pv 1) (pv 2) (fun _ _ => rfl)) pe_int (fun _ _ => rfl)) pa_nil))))))))), ?_⟩
    walk_at "go"
    refine al fun l H1 n1 s1 hl1 => ?_
    walk_at "go"
    unfold iEnumT
    walk_at "go"
    refine w_enumT (sqt (s1 _ _ h1)) ?_
    have nl : ∀ b o, H b = some o → b ≠ l := fun b o hb e => by rw [e, n1] at hb; cases hb
    refine for_it (walk_enumT (xs := ts.map V.ref)) (fun i σ H' => ∃ (v4 v5 v6 v7 v8 v9 v10 : Option V), σ = [some (.ref fa), some (.ref ra), some (.int (r : Int)), some (.ref l), v4, v5, v6, v7, v8, v9, v10] ∧ Same H (rm l H') ∧ H' l = some (.lst ((List.range i).map fun j => V.int (siz t (G.map (·.1)) j : Nat)))) ⟨_, _, _, _, _, _, _, rfl, fun b o hb => rm_of (nl b o hb) (s1 _ _ hb), hl1⟩
      (fun i σ H' _ z => by obtain ⟨_, _, _, _, _, _, _, _, z, _⟩ := z; exact sqt (rm_le _ _ (z _ _ h1))) ?_ ?_
    · rintro i y σ H2 H3 hi ⟨v4, v5, v6, v7, v8, v9, v10, rfl, s2, hl2⟩ ⟨tp, z1, z2, rfl, ntp, rfl, e1, e2⟩
      cases e1
      obtain ⟨qa, hqa, rfl⟩ := get_map e2
      have hit : i < t.length := by rw [hl]; exact (List.getElem?_eq_some_iff.mp hqa).1
      refine w_gtup (sqt upd_same) rfl ?_
      have S3 : Same H2 (upd H2 tp (.tup [.int (i : Nat), .ref qa])) := Same.new ntp
      generalize upd H2 tp (.tup [.int (i : Nat), .ref qa]) = H3 at S3 ⊢
      obtain ⟨wr, hwr, ea, es, k1, k2, k3⟩ := paired_get h2 hqa
      have k2 := rowf_rd k2
      have er : rowAt t i = wr := rowAt_some hwr
      subst er
      have hl3 := S3 _ _ hl2
      have St : Same H (rm l H3) := s2.trans S3.rm
      have hz : ∀ {H' : Hp}, Same H3 H' → Same H (rm l H') := fun s => St.trans s.rm
      walk_at "go"
      refine al fun p H4 n4 s4 h4 => ?_
      walk_at "go"
      refine w_notLow h4 ?_
      walk_at "go"
      have fin : ∀ (H5 : Hp) (v4 v5 v6 v7 v8 v9 v10 : Option V), Same H3 H5 → ∃ (u4 u5 u6 u7 u8 u9 u10 : Option V), [some (V.ref fa), some (.ref ra), some (.int (r : Int)), some (.ref l), v4, v5, v6, v7, v8, v9, v10] = [some (V.ref fa), some (.ref ra), some (.int (r : Int)), some (.ref l), u4, u5, u6, u7, u8, u9, u10] ∧ Same H (rm l (upd H5 l (.lst (((List.range i).map fun j => V.int (siz t (G.map (·.1)) j : Nat)) ++ [V.int (siz t (G.map (·.1)) i : Nat)])))) ∧ (upd H5 l (.lst (((List.range i).map fun j => V.int (siz t (G.map (·.1)) j : Nat)) ++ [V.int (siz t (G.map (·.1)) i : Nat)]))) l = some (.lst ((List.range (i + 1)).map fun j => V.int (siz t (G.map (·.1)) j : Nat))) := fun H5 v4 v5 v6 v7 v8 v9 v10 s5 => ⟨_, _, _, _, _, _, _, rfl, by rw [rm_updS]; exact hz s5, by rw [L2.upd_same, List.range_succ, List.map_append]; rfl⟩
      by_cases c : i < 2
      · rw [decide_eq_true c]
        refine iteF ?_
        walk_at "go"
        refine w_append (s4 _ _ hl3) (by rw [List.length_map, List.length_range]; omega) ?_
        walk_at "go"
        have := fin H4 (some (.int (i : Nat))) (some (.int ((rowAt t i).1 : Int))) (some (.int ((rowAt t i).2.1 : Int))) (some (.ref ea)) (some (.int (i : Nat))) v9 v10 s4
        rw [siz_low hc.wf (by rw [List.length_map]) c] at this
        exact this
      · rw [decide_eq_false c]
        refine iteT ?_
        walk_at "go"
        have hi2 : 2 ≤ i := by omega
        obtain ⟨er1, er2⟩ := hc.exc_lt hi2 hit
        have hpl := hc.wf.pl i hi2 hit
        obtain ⟨f0, hu0, hf0⟩ := hc.us i hi2 hit
        have hup : ∀ x, belowF (rowAt t i) f0 = x → (rowAt t i).1 + 1 ≤ (rowAt t x).1 := fun x hx => by rw [← hx]; exact hc.wf.up i hi2 hit f0
        have hupr := hup _ hf0.symm
        have hlG : (G.map (·.1)).length = G.length := List.length_map ..
        refine w_ixL (sq (s4 _ _ hl3)) (at_idx30 (n := (rowAt t i).2.1) (x := V.int (siz t (G.map (·.1)) (rowAt t i).2.1 : Nat)) (by rw [List.getElem?_map, List.getElem?_range er1]; rfl) rfl) ?_
        walk_at "go"
        obtain ⟨ts2, qb, eb, eb2, g1, g2, g3, g4, g5⟩ := (ht.same (Same.trans (hz s4) rm_le)).row (r := (rowAt t i).2.1) (by omega)
        refine w_ixT (sqt g1) (atI_map (x := qb) (by omega) (by rw [Int.toNat_natCast]; exact g2)) ?_
        walk_at "go"
        refine ⟨fa, G, (rowAt t i).1 + 1, (rowAt t (rowAt t i).2.1).1, rfl, hf.same (Same.trans (hz s4) rm_le), hupr, hc.plr (by omega), fun e he => (hG e he).2, hGl, fun H5 s5 => ?_⟩
        have S5 := s4.trans s5
        have b1 := siz_le (t := t) hpos (rowAt t i).2.1
        have hcx : CMx ((siz t (G.map (·.1)) (rowAt t i).2.1 : Nat) : Int) ((spr (G.map (·.1)) ((rowAt t i).1 + 1) (rowAt t (rowAt t i).2.1).1 : Nat) : Int) := mx_l (by omega)
        walk_at "go"
        have k2' : Rd H5 ea (.tup (es.map V.ref)) := rd_same k2 ((hz S5).trans rm_le)
        have k2s : SqT K H5 ea (es.map V.ref) := sqR k2'
        have hx : G[(rowAt t i).1]? = some G[(rowAt t i).1] := List.getElem?_eq_getElem hpl
        obtain ⟨fs, q1, q2⟩ := hf.same (Same.trans (hz S5) rm_le)
        obtain ⟨fq, hfq, hft⟩ := paired_getL q2 hx
        have hPi := pF_at hx
        have hGe := hG _ (List.mem_of_getElem? hx)
        generalize G[(rowAt t i).1] = ee at *
        have hft : H5 fq = some (.tup [.int (ee.1 : Int), .int (ee.2 : Int)]) := hft
        have hel : es.length ≤ ee.1 := by
          rw [← k3.length, hc.ex i hi2 hit, hPi]
          unfold excOf
          rw [List.length_map]
          exact Nat.le_trans (List.length_filter_le _ _) (by rw [List.length_range]; exact Nat.le_refl _)
        refine w_ixL (sq q1) (atI_map (x := fq) (by omega) (by rw [Int.toNat_natCast]; exact hfq)) ?_
        have hcx2 : CMx (((siz t (G.map (·.1)) (rowAt t i).2.1 : Nat) : Int) * ((spr (G.map (·.1)) ((rowAt t i).1 + 1) (rowAt t (rowAt t i).2.1).1 : Nat) : Int)) ((ee.1 : Int) - ((es.map V.ref).length : Int)) := mx_r (by rw [List.length_map]; omega)
        walk_at "go"
        refine for_tup (K := K) (a := ea) (xs := es.map V.ref) (fun j σ H' => ∃ (v9 v10 : Option V), σ = [some (.ref fa), some (.ref ra), some (.int (r : Int)), some (.ref l), some (.int (i : Nat)), some (.int ((rowAt t i).1 : Int)), some (.int ((rowAt t i).2.1 : Int)), some (.ref ea), some (.int (((siz t (G.map (·.1)) (rowAt t i).2.1 : Nat) : Int) * ((spr (G.map (·.1)) ((rowAt t i).1 + 1) (rowAt t (rowAt t i).2.1).1 : Nat) : Int) * ((ee.1 : Int) - ((es.map V.ref).length : Int)) + (((((rowAt t i).2.2.take j).map fun e => siz t (G.map (·.1)) e.2 * spr (G.map (·.1)) ((rowAt t i).1 + 1) (rowAt t e.2).1).sum : Nat) : Int))), v9, v10] ∧ Same H5 H') ⟨_, _, by rw [List.take_zero, List.map_nil, List.sum_nil, Int.natCast_zero, Int.add_zero], Same.refl _⟩ (fun j σ H' _ z => by obtain ⟨_, _, _, z⟩ := z; exact sqR (rd_same k2' z)) ?_ ?_
        · rintro j y σ H6 hj ⟨v9', v10', rfl, s6⟩
          obtain ⟨pp, hpp, rfl⟩ := get_map hj
          obtain ⟨x, hxx, hpx⟩ := paired_get k3 hpp
          have S6 := S5.trans s6
          have hx2 := er2 x (List.mem_of_getElem? hxx)
          have hpx : H6 pp = some (.tup [.int (x.1 : Int), .int (x.2 : Int)]) := rm_le _ _ (hz S6 _ _ hpx)
          have hupx : (rowAt t i).1 + 1 ≤ (rowAt t x.2).1 := by
            have he := hc.ex i hi2 hit
            have hm := List.mem_of_getElem? hxx
            rw [he] at hm
            obtain ⟨y, _, rfl⟩ := List.mem_map.mp hm
            exact hc.wf.up i hi2 hit y
          refine w_gtup (sqt hpx) rfl ?_
          walk_at "go"
          refine w_ixL (sq (S6 _ _ hl3)) (at_idx30 (n := x.2) (x := V.int (siz t (G.map (·.1)) x.2 : Nat)) (by rw [List.getElem?_map, List.getElem?_range hx2]; rfl) rfl) ?_
          walk_at "go"
          obtain ⟨ts3, qc, ec, ec2, m1, m2, m3, m4, m5⟩ := (ht.same (Same.trans (hz S6) rm_le)).row (r := x.2) (by omega)
          refine w_ixT (sqt m1) (atI_map (x := qc) (by omega) (by rw [Int.toNat_natCast]; exact m2)) ?_
          walk_at "go"
          refine ⟨fa, G, (rowAt t i).1 + 1, (rowAt t x.2).1, rfl, hf.same (Same.trans (hz S6) rm_le), hupx, hc.plr (by omega), fun e he => (hG e he).2, hGl, fun H7 s7 => ?_⟩
          have b2 := siz_le (t := t) hpos x.2
          have hcx3 : CMx ((siz t (G.map (·.1)) x.2 : Nat) : Int) ((spr (G.map (·.1)) ((rowAt t i).1 + 1) (rowAt t x.2).1 : Nat) : Int) := mx_l (by omega)
          walk_at "go"
          exact ⟨_, _, by rw [List.take_add_one, hxx, List.map_append, List.sum_append, Int.natCast_add, ← Int.add_assoc, show (((some x).toList.map fun e => siz t (G.map (·.1)) e.2 * spr (G.map (·.1)) ((rowAt t i).1 + 1) (rowAt t e.2).1).sum) = siz t (G.map (·.1)) x.2 * spr (G.map (·.1)) ((rowAt t i).1 + 1) (rowAt t x.2).1 from by simp, Int.natCast_mul], s6.trans s7⟩
        · rintro σ H6 ⟨v9', v10', rfl, s6⟩
          have S6 := S5.trans s6
          have ei : ((siz t (G.map (·.1)) (rowAt t i).2.1 : Nat) : Int) * ((spr (G.map (·.1)) ((rowAt t i).1 + 1) (rowAt t (rowAt t i).2.1).1 : Nat) : Int) * ((ee.1 : Int) - ((es.map V.ref).length : Int)) + (((((rowAt t i).2.2.take (es.map V.ref).length).map fun e => siz t (G.map (·.1)) e.2 * spr (G.map (·.1)) ((rowAt t i).1 + 1) (rowAt t e.2).1).sum : Nat) : Int) = (siz t (G.map (·.1)) i : Nat) := by
            rw [siz_eq hc hlG (fun _ _ => rfl) hi2 hit, List.length_map, ← k3.length, List.take_length, hPi, Int.natCast_add, Int.natCast_mul, Int.natCast_mul, Int.natCast_sub (by rw [k3.length]; exact hel)]
          rw [ei]
          walk_at "go"
          refine w_append (S6 _ _ hl3) (by rw [List.length_map, List.length_range]; omega) ?_
          walk_at "go"
          exact fin H6 _ _ _ _ _ _ _ S6
    · rintro σ H2 ⟨v4, v5, v6, v7, v8, v9, v10, rfl, s2, hl2⟩
      have hlen : (ts.map V.ref).length = t.length := by rw [List.length_map, hl]
      obtain ⟨ts2, qa, ea, es, g1, g2, g3, g4, g5⟩ := (ht.same (Same.trans s2 rm_le)).row hr'
      walk_at "go"
      refine w_ixL (sq hl2) (at_idx30 (n := r) (x := V.int (siz t (G.map (·.1)) r : Nat)) (by rw [List.getElem?_map, hlen, List.getElem?_range hr']; rfl) rfl) ?_
      walk_at "go"
      refine w_ixT (sqt g1) (atI_map (x := qa) (by omega) (by rw [Int.toNat_natCast]; exact g2)) ?_
      walk_at "go"
      refine ⟨fa, G, 0, (rowAt t r).1, rfl, hf.same (Same.trans s2 rm_le), Nat.zero_le _, hc.plr hr', fun e he => (hG e he).2, hGl, fun H3 s3 => ?_⟩
      have b1 := siz_le (t := t) hpos r
      have hcx : CMx ((siz t (G.map (·.1)) r : Nat) : Int) ((spr (G.map (·.1)) 0 (rowAt t r).1 : Nat) : Int) := mx_l (by omega)
      walk_at "go"
      have := q H3 (s2.trans (Same.trans rm_le s3))
      rw [siz_all hc (by rw [List.length_map]) hr', Int.natCast_mul] at this
      exact this
noncomputable abbrev s_firstrows : Stmt := (top 28)
theorem sc_firstrows : FnScope ["figures"] ["figures"] (defScope s_firstrows) :=
  ⟨rfl, rfl, rfl, by decide +kernel, rfl, by decide +kernel, by decide +kernel⟩
theorem ok_firstrows {tN tE : Tok} (F : Dn K mg "first_rows" s_firstrows ["figures"]) (T : Bt mg) (zNONE : mg "NONE" = some (.int 0 tN)) (zEVERY : mg "EVERY" = some (.int 1 tE)) : Cal P w K mg base 1 "first_rows" spFirstRows [] := by
  refine F.cal sc_firstrows (fun vs H Q E h => ?_) (fun f cdv A outer s H vs Q E hr h => ?_)
  · obtain ⟨fa, G, rfl, _⟩ := h
    rfl
  · obtain ⟨fa, G, rfl, ⟨ts, h1, h2⟩, q⟩ := h
    have hl := h2.length
    refine ⟨_, (pss_one (ps_ret (pe_lst (pa_cons (pe_tup (pa_cons (pe_callB cLen (by rfl) T.len (by decide +kernel) (pa_cons (pv 0) pa_nil)) (pa_cons (pe_glob (v := .int 0) (by rfl) zNONE ⟨_, rfl⟩) (pa_cons (pe_tup pa_nil) pa_nil)))) (pa_cons (pe_tup (pa_cons (pe_callB cLen (by rfl) T.len (by decide +kernel) (pa_cons (pv 0) pa_nil)) (pa_cons (pe_glob (v := .int 1) (by rfl) zEVERY ⟨_, rfl⟩) (pa_cons (pe_tup pa_nil) pa_nil)))) pa_nil))))), ?_⟩
    walk_at "go"
    refine al fun e1 H1 n1 s1 k1 => ?_
    walk_at "go"
    refine al fun q1 H2 n2 s2 k2 => ?_
    walk_at "go"
    refine al fun e2 H3 n3 s3 k3 => ?_
    walk_at "go"
    refine al fun q2 H4 n4 s4 k4 => ?_
    walk_at "go"
    refine al fun a H5 n5 s5 k5 => ?_
    walk_at "go"
    have S14 := s1.trans (s2.trans (s3.trans s4))
    rw [List.length_map, ← hl] at k2 k4
    refine q H5 a (S14.free n5) (S14.trans s5) ⟨[q1, q2], k5, .cons ⟨e1, [], s5 _ _ (s4 _ _ (s3 _ _ k2)), s5 _ _ (s4 _ _ (s3 _ _ (s2 _ _ k1))), .nil⟩ (.cons ⟨e2, [], s5 _ _ k4, s5 _ _ (s4 _ _ k3), .nil⟩ .nil)⟩
noncomputable abbrev s_figuresof : Stmt := (top 27)
theorem sc_figuresof : FnScope ["modulus", "prime", "power", "at"] ["modulus"] (defScope s_figuresof) :=
  ⟨rfl, rfl, rfl, by decide +kernel, rfl, by decide +kernel, by decide +kernel⟩
theorem ok_figuresof {c : CA} (F : Dn K mg "figures_of" s_figuresof ["modulus"]) (T : Bt mg) (KX : Kx K mg c) (c_raised : Cal P w K mg base 1 "raised" spRaised []) : Cal P w K mg base 2 "figures_of" (spFiguresOf c) [] := by
  refine F.cal sc_figuresof (fun vs H Q E h => ?_) (fun f cdv A outer s H vs Q E hr h => ?_)
  · obtain ⟨m, ps, rfl, _⟩ := h
    rfl
  · obtain ⟨m, ps, rfl, hm, q⟩ := h
    obtain ⟨dx, t, ts, m1, m2, m3, m4, m5⟩ := id hm
    clear hm
    refine ⟨_, (pss_one (ps_ret (pe_lc2 (own := [("prime", 1), ("power", 2), ("at", 3)]) (vs1 := [3]) (g := gTup _ 2 (gCons (gName 1) (gCons (gName 2) gNil))) (g1 := gName 3) (tt := tYes) (tt1 := tYes) (wi1 := (iRng1 (tCons (tVar 2) tNil))) (te := (tTup (tCons (tVar 1) (tCons (tCall _ _ _ (tCons (tVar 1) (tCons (tVar 3) tNil))) tNil)))) rfl sc_figuresof.nd (pi_tup (pe_fld (pv 0) rfl)) (blkOk_by (own := [("prime", 1), ("power", 2), ("at", 3)]) (N := ["modulus", "prime", "power", "at"]) (sc := defScope s_figuresof) (by decide +kernel)) (by decide) (fun _ _ _ _ _ => (pg_tup rfl (pgs_cons (pg_name (i := 1) sc_figuresof.nd rfl (Or.inl rfl)) (pgs_cons (pg_name (i := 2) sc_figuresof.nd rfl (Or.inl rfl)) pgs_nil)))) (fun _ _ _ _ _ => pts_nil) (fun _ _ _ _ _ => (pi_range1 (by rfl) T.range (pa_cons (pv 2) pa_nil))) (fun _ _ _ _ _ => (pg_name (i := 3) sc_figuresof.nd rfl (Or.inl rfl))) (fun _ _ _ _ _ => pts_nil) (fun _ _ _ _ _ => (pe_tup (pa_cons (pv 1) (pa_cons (pe_c c_raised hr (by decide) (by rfl) (pa_cons (pv 1) (pa_cons (pv 3) pa_nil))) pa_nil))))))), ?_⟩
    unfold tLc2
    walk_at "go"
    refine w_fldi m1 KX.md.cl KX.factors rfl ?_
    walk_at "go"
    intro D nD
    refine lc2_figs ts ps m2 m3 (fun q hq => ⟨(m5.1 q hq).1, (m5.1 q hq).2.2.1, (m5.1 q hq).2.2.2⟩) m5.2 nD (fun _ _ => rfl) (fun _ _ _ => rfl) ?_ ?_ ?_
    · intro p k H' R k0 k1 s' hR
      refine w_rng1 ?_
      walk_at "go"
      exact hR
    · intro p k l H' hpk hl s' hacc Q' q'
      obtain ⟨acc, hacc⟩ := hacc
      have hb := m5.1 _ hpk
      have hb1 : 0 < p ∧ p < 1024 ∧ 0 < k ∧ k ≤ 100 := hb
      walk_at "go"
      have hpa : p.natAbs < 2 ^ 11 := by omega
      refine ⟨p, (l : Int), 11, rfl, by omega, by omega, hpa, by omega, ?_⟩
      rw [Int.toNat_natCast]
      walk_at "go"
      refine al fun tq H2 n2 s2 h2 => ?_
      refine q' tq H2 s2 (rm_of (fun e => by rw [e, hacc] at n2; cases n2) h2)
    · intro H' fs s' h1 h2
      exact q H' D nD s' ⟨fs, h1, h2⟩
noncomputable abbrev s_figsat : Stmt := (top 30)
theorem sc_figsat : FnScope ["rows", "number", "place", "here", "rest", "exceptions", "figure", "below"] ["rows", "number", "place"] (defScope s_figsat) :=
  ⟨rfl, rfl, rfl, by decide +kernel, rfl, by decide +kernel, by decide +kernel⟩
theorem ok_figsat (F : Dn K mg "figures_at" s_figsat ["rows", "number", "place"]) (T : Bt mg) : Cal P w K mg base 1 "figures_at" spFigsAt [] := by
  refine F.cal sc_figsat (fun vs H Q E h => ?_) (fun f cdv A outer s H vs Q E hr h => ?_)
  · obtain ⟨a, t, r, i, rfl, _⟩ := h
    rfl
  · obtain ⟨a, t, r, i, rfl, ht, hr', hx, q⟩ := h
    obtain ⟨ts, qa, e, es, h1, h2, h3, h4, h5⟩ := ht.row hr'
    have h4s : SqT K H e (es.map V.ref) := sqR h4
    have hxl := hx r hr'
    refine ⟨_, (pss_cons (ps_asg (pe_ix ix_tup (pv 0) (pv 1) (fun _ _ => rfl)) (pg_tup rfl (pgs_cons (pg_name (i := 3) sc_figsat.nd rfl (Or.inl rfl)) (pgs_cons (pg_name (i := 4) sc_figsat.nd rfl (Or.inl rfl)) (pgs_cons (pg_name (i := 5) sc_figsat.nd rfl (Or.inl rfl)) pgs_nil)))))
      (pss_one (ps_ret (pe_ifExp (pt_cmpR op_eq (pv 3) (pv 2) (nomark _)) (pe_lc (own := [("figure", 6), ("below", 7)]) (g := gTup _ 2 (gCons (gName 6) (gCons (gName 7) gNil))) (tt := tYes) (te := (tVar 6)) rfl sc_figsat.nd (pi_tup (pv 5)) (blkOk_by (own := [("figure", 6), ("below", 7)]) (N := ["rows", "number", "place", "here", "rest", "exceptions", "figure", "below"]) (sc := defScope s_figsat) (by decide +kernel)) (fun _ _ _ _ _ => (pg_tup rfl (pgs_cons (pg_name (i := 6) sc_figsat.nd rfl (Or.inl rfl)) (pgs_cons (pg_name (i := 7) sc_figsat.nd rfl (Or.inl rfl)) pgs_nil)))) (fun _ _ _ _ _ => pts_nil) (fun _ _ _ _ _ => (pv 6))) (pe_lst pa_nil))))), ?_⟩
    walk_at "go"
    refine w_ixT (sqt h1) (atI_map (x := qa) (by omega) (by rw [Int.toNat_natCast]; exact h2)) ?_
    refine w_gtup (sqt h3) rfl ?_
    walk_at "go"
    by_cases hc : (rowAt t r).1 = i
    · rw [decI, decide_eq_true (show ((rowAt t r).1 : Int) = (i : Int) by omega)]
      refine iteT ?_
      walk_at "go"
      intro D nD
      refine lc30 (rowAt t r).2.2 (es.map V.ref) _ (paired_ref h5) (fun _ => true) (fun x y _ => y = .int (x.1 : Int)) (fun _ _ _ _ _ z => z) walk_tup nD (fun H' s' => sqR (rd_same h4 s')) (by omega) ?_ ?_
      · rintro j x y H' hj ⟨p, rfl, hp⟩ s' hacc Q0 Q1 q0 q1
        refine w_gtup (sqt (s' _ _ hp)) rfl ?_
        walk_at "go"
        exact ⟨rfl, w_yes (by rw [if_pos rfl]; walk_at "go"; exact q1 _ _ (Same.refl _) rfl rfl)⟩
      · intro H' ys s' g1 g2
        have ey : ys = (figsAt t r i).map fun f : Nat => V.int (f : Int) := by
          unfold figsAt
          rw [if_pos hc, List.map_map]
          rw [filter_yes] at g2
          exact paired_fun g2
        rw [ey] at g1
        exact q H' D nD s' g1
    · rw [decI, decide_eq_false (show ¬ ((rowAt t r).1 : Int) = (i : Int) by omega)]
      refine iteF ?_
      walk_at "go"
      refine al fun p H2 n2 s2 g2 => ?_
      refine q H2 p n2 s2 ?_
      unfold figsAt
      rw [if_neg hc]
      exact g2
noncomputable abbrev s_pairsbelow : Stmt := (top 33)
theorem sc_pairsbelow : FnScope ["one", "other", "here", "there", "place", "found", "figure"] ["one", "other", "here", "there"] (defScope s_pairsbelow) :=
  ⟨rfl, rfl, rfl, by decide +kernel, rfl, by decide +kernel, by decide +kernel⟩
theorem ok_pairsbelow {tN tE : Tok} (F : Dn K mg "pairs_below" s_pairsbelow ["one", "other", "here", "there"]) (T : Bt mg) (zNONE : mg "NONE" = some (.int 0 tN)) (zEVERY : mg "EVERY" = some (.int 1 tE)) (c_belowat : Cal P w K mg base 1 "below_at" spBelowAt []) (c_figsat : Cal P w K mg base 1 "figures_at" spFigsAt []) : Cal P w K mg base 2 "pairs_below" spPairsBelow [] := by
  refine F.cal sc_pairsbelow (fun vs H Q E h => ?_) (fun f cdv A outer s H vs Q E hr h => ?_)
  · obtain ⟨a, b, one, two, h, k, rfl, _⟩ := h
    rfl
  · obtain ⟨a, b, one, two, h, k, rfl, h1, h2, hh, hk, x1, x2, q⟩ := h
    refine ⟨_, (pss_cons (ps_if (PW.pt (pw_and (pt_cmpR op_in_seq (pv 2) (pe_tup (pa_cons (pe_glob (v := .int 0) (by rfl) zNONE ⟨_, rfl⟩) (pa_cons (pe_glob (v := .int 1) (by rfl) zEVERY ⟨_, rfl⟩) pa_nil))) (by rfl)) (pw_and1 (pt_cmpR op_in_seq (pv 3) (pe_tup (pa_cons (pe_glob (v := .int 0) (by rfl) zNONE ⟨_, rfl⟩) (pa_cons (pe_glob (v := .int 1) (by rfl) zEVERY ⟨_, rfl⟩) pa_nil))) (by rfl))))) (pss_one (ps_ret (pe_lst pa_nil))) pss_nil)
      (pss_cons (ps_set (i := 4) sc_pairsbelow.nd rfl (Or.inl rfl) (pe_ifExp (pt_cmpR op_lt (pe_ix ix_tup (pe_ix ix_tup (pv 0) (pv 2) (fun _ _ => rfl)) pe_int (fun _ _ => rfl)) (pe_ix ix_tup (pe_ix ix_tup (pv 1) (pv 3) (fun _ _ => rfl)) pe_int (fun _ _ => rfl)) (nomark _)) (pe_ix ix_tup (pe_ix ix_tup (pv 0) (pv 2) (fun _ _ => rfl)) pe_int (fun _ _ => rfl)) (pe_ix ix_tup (pe_ix ix_tup (pv 1) (pv 3) (fun _ _ => rfl)) pe_int (fun _ _ => rfl))))
      (pss_cons (ps_set (i := 5) sc_pairsbelow.nd rfl (Or.inl rfl) (pe_lst pa_nil))
      (pss_cons (ps_for PassesOwn.never rfl (pi_list (pe_op op_cat (pe_op op_cat (pe_lst (pa_cons pe_non pa_nil)) (pe_c c_figsat hr (by decide) (by rfl) (pa_cons (pv 0) (pa_cons (pv 2) (pa_cons (pv 4) pa_nil))))) (pe_c c_figsat hr (by decide) (by rfl) (pa_cons (pv 1) (pa_cons (pv 3) (pa_cons (pv 4) pa_nil)))))) (pg_name (i := 6) sc_pairsbelow.nd rfl (Or.inl rfl)) (pss_one (ps_expr (pe_bm PySem.F.plainAttrs_list PySem.F.slot_list_append PySem.F.type_list_append mt_append (pv 5) (pa_cons (pe_tup (pa_cons (pv 6) (pa_cons (pe_c c_belowat hr (by decide) (by rfl) (pa_cons (pv 0) (pa_cons (pv 2) (pa_cons (pv 4) (pa_cons (pv 6) pa_nil))))) (pa_cons (pe_c c_belowat hr (by decide) (by rfl) (pa_cons (pv 1) (pa_cons (pv 3) (pa_cons (pv 4) (pa_cons (pv 6) pa_nil))))) pa_nil)))) pa_nil)))))
      (pss_one (ps_ret (pv 5))))))), ?_⟩
    walk_at "go"
    refine al fun p1 H1 n1 s1 k1 => ?_
    walk_at "go"
    refine w_isLow k1 ?_
    walk_at "go"
    refine test_joinB (decide (h < 2 ∧ k < 2)) (fun H' => Same H H') ?_ ?_ ?_
    rotate_left
    · intro c Q' q'
      have c := of_decide_eq_true c
      walk_at "go"
      refine al fun p2 H2 n2 s2 k2 => ?_
      walk_at "go"
      refine w_isLow k2 ?_
      rw [decide_eq_decide.mpr (show k < 2 ↔ h < 2 ∧ k < 2 from ⟨fun z => ⟨c, z⟩, fun z => z.2⟩)]
      exact ⟨_, rfl, q' H2 (s1.trans s2)⟩
    · intro c
      have c := of_decide_eq_false c
      exact ⟨decide_eq_false fun z => c z.1, s1⟩
    intro HA sA
    by_cases c : h < 2 ∧ k < 2
    · rw [decide_eq_true c]
      refine iteT ?_
      walk_at "go"
      refine al fun p2 H2 n2 s2 k2 => ?_
      refine q H2 p2 (sA.free n2) (sA.trans s2) ⟨[], k2, ?_⟩
      unfold pbOf
      rw [if_pos c]
      exact .nil
    · rw [decide_eq_false c]
      refine iteF ?_
      have h1 := h1.same sA
      have h2 := h2.same sA
      obtain ⟨ts, qa, e, es, g1, g2, g3, g4, g5⟩ := h1.row hh
      obtain ⟨us, qb, e', es', g1', g2', g3', g4', g5'⟩ := h2.row hk
      walk_at "go"
      refine w_ixT (sqt g1) (atI_map (x := qa) (by omega) (by rw [Int.toNat_natCast]; exact g2)) ?_
      walk_at "go"
      refine w_ixT (sqt g1') (atI_map (x := qb) (by omega) (by rw [Int.toNat_natCast]; exact g2')) ?_
      walk_at "go"
      refine ite_joinC (fun v H' => v = .int (plMin one two h k : Nat) ∧ H' = HA) ?_ ?_ ?_
      rotate_left
      · intro c2 Q' q'
        have c2 := of_decide_eq_true c2
        walk_at "go"
        refine w_ixT (sqt g1) (atI_map (x := qa) (by omega) (by rw [Int.toNat_natCast]; exact g2)) ?_
        walk_at "go"
        refine q' _ _ ⟨?_, rfl⟩
        unfold plMin
        rw [Nat.min_eq_left (by omega)]
      · intro c2 Q' q'
        have c2 := of_decide_eq_false c2
        walk_at "go"
        refine w_ixT (sqt g1') (atI_map (x := qb) (by omega) (by rw [Int.toNat_natCast]; exact g2')) ?_
        walk_at "go"
        refine q' _ _ ⟨?_, rfl⟩
        unfold plMin
        rw [Nat.min_eq_right (by omega)]
      rintro v H' ⟨rfl, rfl⟩
      walk_at "go"
      refine al fun l H2 n2 s2 k2 => ?_
      walk_at "go"
      refine al fun l0 H3 n3 s3 k3 => ?_
      walk_at "go"
      refine ⟨a, one, h, plMin one two h k, rfl, h1.same (s2.trans s3), hh, x1, fun H4 l1 n4 s4 k4 => ?_⟩
      have y1 := figsAt_len x1 (i := plMin one two h k) hh
      have y2 := figsAt_len x2 (i := plMin one two h k) hk
      have hsz : (100000 : Nat) < sizeLine := by decide
      walk_at "go"
      refine w_cat (s4 _ _ k3) k4 (by rw [List.length_map]; simp only [List.length_cons, List.length_nil]; omega) (al fun l2 H5 n5 s5 k5 => ?_)
      walk_at "go"
      refine ⟨b, two, k, plMin one two h k, rfl, h2.same (s2.trans (s3.trans (s4.trans s5))), hk, x2, fun H6 l3 n6 s6 k6 => ?_⟩
      walk_at "go"
      refine w_cat (s6 _ _ k5) k6 (by rw [List.length_append, List.length_map, List.length_map]; simp only [List.length_cons, List.length_nil]; omega) (al fun l4 H7 n7 s7 k7 => ?_)
      have ek : ([V.non] ++ (figsAt one h (plMin one two h k)).map (fun f : Nat => V.int (f : Int)) ++ (figsAt two k (plMin one two h k)).map fun f : Nat => V.int (f : Int)) = (none :: (figsAt one h (plMin one two h k) ++ figsAt two k (plMin one two h k)).map some).map fgV := by
        rw [List.map_cons, List.map_map, List.map_append]
        rfl
      rw [ek] at k7
      have S7 : Same H' H7 := s2.trans (s3.trans (s4.trans (s5.trans (s6.trans s7))))
      have S27 : Same H2 H7 := s3.trans (s4.trans (s5.trans (s6.trans s7)))
      have nl : l4 ≠ l := fun z => by rw [z, s6 _ _ (s5 _ _ (s4 _ _ (s3 _ _ k2)))] at n7; cases n7
      generalize hfs : (none :: (figsAt one h (plMin one two h k) ++ figsAt two k (plMin one two h k)).map some) = fs at k7
      have hfl : fs.length ≤ 4001 := by rw [← hfs, List.length_cons, List.length_map, List.length_append]; omega
      have nlv : ∀ b o, H' b = some o → b ≠ l := fun b o hb z => by rw [z, n2] at hb; cases hb
      walk_at "go"
      refine for_list (K := K) (a := l4) (xs := fs.map fgV) (fun j σ H'' => ∃ (v6 : Option V) (ps : List Addr), σ = [some (.ref a), some (.ref b), some (.int (h : Int)), some (.int (k : Int)), some (.int (plMin one two h k : Nat)), some (.ref l), v6] ∧ Same (rm l H7) (rm l H'') ∧ H'' l = some (.lst (ps.map V.ref)) ∧ Paired (PbE (rm l H'')) ((fs.take j).map fun f => (f, belowO one h (plMin one two h k) f, belowO two k (plMin one two h k) f)) ps) ⟨_, [], rfl, Same.refl _, S27 _ _ k2, .nil⟩
        (fun j σ H'' _ z => by obtain ⟨_, _, _, z, _⟩ := z; exact sq (rm_le _ _ (z _ _ (rm_of nl k7)))) ?_ ?_
      · rintro j y σ H8 hj ⟨v6, ps, rfl, s8, k8, q8⟩
        obtain ⟨f, hf, rfl⟩ := get_map hj
        have S8 : Same H' H8 := fun b o hb => rm_le _ _ (s8 _ _ (rm_of (nlv _ _ hb) (S7 _ _ hb)))
        walk_at "go"
        refine ⟨a, one, h, plMin one two h k, f, rfl, h1.same S8, hh, ?_⟩
        walk_at "go"
        refine ⟨b, two, k, plMin one two h k, f, rfl, h2.same S8, hk, ?_⟩
        walk_at "go"
        refine al fun tp H9 n9 s9 k9 => ?_
        walk_at "go"
        have q8l := q8.length
        rw [List.length_map, List.length_take] at q8l
        refine w_append (s9 _ _ k8) (by rw [List.length_map]; omega) ?_
        walk_at "go"
        have ntl : tp ≠ l := fun z => by rw [z, k8] at n9; cases n9
        refine ⟨_, ps ++ [tp], rfl, ?_, ?_, ?_⟩
        · rw [rm_updS]
          exact s8.trans s9.rm
        · rw [L2.upd_same, List.map_append]
          rfl
        · rw [rm_updS, List.take_add_one, hf, List.map_append]
          exact paired_app (paired_imp (fun _ _ z => s9.rm _ _ z) q8) (.cons (rm_of ntl k9) .nil)
      · rintro σ H8 ⟨v6, ps, rfl, s8, k8, q8⟩
        have S8 : Same H' H8 := fun b o hb => rm_le _ _ (s8 _ _ (rm_of (nlv _ _ hb) (S7 _ _ hb)))
        rw [List.length_map, List.take_length, ← hfs] at q8
        walk_at "go"
        refine q H8 l (sA.free n2) (sA.trans S8) ⟨ps, k8, ?_⟩
        unfold pbOf
        rw [if_neg c]
        exact paired_imp (fun _ _ z => rm_le _ _ z) q8
noncomputable abbrev s_metpairs : Stmt := (top 34)
theorem sc_metpairs : FnScope ["one", "first", "other", "second", "found", "seen", "waiting", "here", "there", "figure", "below", "beside"] ["one", "first", "other", "second"] (defScope s_metpairs) :=
  ⟨rfl, rfl, rfl, by decide +kernel, rfl, by decide +kernel, by decide +kernel⟩
theorem ok_metpairs (F : Dn K mg "met_pairs" s_metpairs ["one", "first", "other", "second"]) (T : Bt mg) (c_pairsbelow : Cal P w K mg base 2 "pairs_below" spPairsBelow []) : Cal P w K mg base 3 "met_pairs" spMetPairs [] := by
  refine F.cal sc_metpairs (fun vs H Q E h => ?_) (fun f cdv A outer s H vs Q E hr h => ?_)
  · obtain ⟨m, P, a, b, one, two, h, k, N, rfl, _⟩ := h
    rfl
  · obtain ⟨m, P, a, b, one, two, h, k, N, rfl, h1, h2, c1, c2, hh, hk, x1, x2, rb, hN, q⟩ := h
    have hsz : (100000 : Nat) < sizeLine := by decide
    refine ⟨_, (pss_cons (ps_set (i := 4) sc_metpairs.nd rfl (Or.inl rfl) (pe_lst pa_nil))
      (pss_cons (ps_set (i := 5) sc_metpairs.nd rfl (Or.inl rfl) (pe_disp1 hr.units (pe_tup (pa_cons (pv 1) (pa_cons (pv 3) pa_nil))) pe_bl))
      (pss_cons (ps_set (i := 6) sc_metpairs.nd rfl (Or.inl rfl) (pe_lst (pa_cons (pe_tup (pa_cons (pv 1) (pa_cons (pv 3) pa_nil))) pa_nil)))
      (pss_cons (ps_while PassesOwn.never (pt_cmpR (op_ne30 hr.units) (pv 6) (pe_lst pa_nil) (nomark _)) (pss_cons (ps_asg (pe_bm0 PySem.F.plainAttrs_list PySem.F.slot_list_pop PySem.F.type_list_pop mt_pop (pv 6)) (pg_tup rfl (pgs_cons (pg_name (i := 7) sc_metpairs.nd rfl (Or.inl rfl)) (pgs_cons (pg_name (i := 8) sc_metpairs.nd rfl (Or.inl rfl)) pgs_nil))))
      (pss_cons (ps_expr (pe_bm PySem.F.plainAttrs_list PySem.F.slot_list_append PySem.F.type_list_append mt_append (pv 4) (pa_cons (pe_tup (pa_cons (pe_ifExp (pt_cmpR op_lt (pe_ix ix_tup (pe_ix ix_tup (pv 0) (pv 7) (fun _ _ => rfl)) pe_int (fun _ _ => rfl)) (pe_ix ix_tup (pe_ix ix_tup (pv 2) (pv 8) (fun _ _ => rfl)) pe_int (fun _ _ => rfl)) (nomark _)) (pe_ix ix_tup (pe_ix ix_tup (pv 0) (pv 7) (fun _ _ => rfl)) pe_int (fun _ _ => rfl)) (pe_ix ix_tup (pe_ix ix_tup (pv 2) (pv 8) (fun _ _ => rfl)) pe_int (fun _ _ => rfl))) (pa_cons (pv 7) (pa_cons (pv 8) pa_nil)))) pa_nil)))
      (pss_one (ps_for PassesOwn.never rfl (pi_list (pe_c c_pairsbelow hr (by decide) (by rfl) (pa_cons (pv 0) (pa_cons (pv 2) (pa_cons (pv 7) (pa_cons (pv 8) pa_nil)))))) (pg_tup rfl (pgs_cons (pg_name (i := 9) sc_metpairs.nd rfl (Or.inl rfl)) (pgs_cons (pg_name (i := 10) sc_metpairs.nd rfl (Or.inl rfl)) (pgs_cons (pg_name (i := 11) sc_metpairs.nd rfl (Or.inl rfl)) pgs_nil)))) (pss_one (ps_if (pt_cmpR (op_notInT hr.units) (pe_tup (pa_cons (pv 10) (pa_cons (pv 11) pa_nil))) (pv 5) (by rfl)) (pss_cons (ps_asg pe_bl (pg_sub (pv 5) (pe_tup (pa_cons (pv 10) (pa_cons (pv 11) pa_nil))) (set_dict (u66 hr))))
      (pss_one (ps_expr (pe_bm PySem.F.plainAttrs_list PySem.F.slot_list_append PySem.F.type_list_append mt_append (pv 6) (pa_cons (pe_tup (pa_cons (pv 10) (pa_cons (pv 11) pa_nil))) pa_nil))))) pss_nil)))))))
      (pss_one (ps_ret (pv 4))))))), ?_⟩
    walk_at "go"
    refine al fun fa H1 n1 s1 k1 => ?_
    walk_at "go"
    refine w_disp1 fun se nse => ?_
    have u1 : Same H1 (L2.upd H1 se (.dT [])) := Same.new nse
    have u2 : L2.upd H1 se (.dT []) se = some (.dT []) := L2.upd_same
    generalize L2.upd H1 se (.dT []) = H2 at u1 u2 ⊢
    walk_at "go"
    refine al fun t0 H3 n3 s3 k3 => ?_
    walk_at "go"
    refine ⟨t0, pkN (h, k), rfl, s3 _ _ u2, by rw [pkN_val]; exact k3, ?_⟩
    have k4 : L2.upd H3 se (.dT [(pkN (h, k), V.bl true)]) se = some (.dT (pdm ([(h, k)].map fun p => (p, V.bl true)))) := L2.upd_same
    have nfs : fa ≠ se := (new_ne k1 nse).symm
    have k4a : L2.upd H3 se (.dT [(pkN (h, k), V.bl true)]) fa = some (.lst []) := by
      rw [L2.upd_ne nfs]
      exact s3 _ _ (u1 _ _ k1)
    have s4 : Same H (rm se (L2.upd H3 se (.dT [(pkN (h, k), V.bl true)]))) := by
      rw [rm_updS]
      exact fun y o e => rm_of (fun z => by rw [z] at e; rw [s1 _ _ e] at nse; cases nse) (s3 _ _ (u1 _ _ (s1 _ _ e)))
    generalize L2.upd H3 se (.dT [(pkN (h, k), V.bl true)]) = H4 at k4 k4a s4 ⊢
    walk_at "go"
    refine al fun t1 H5 n5 s5 k5 => ?_
    walk_at "go"
    refine al fun wa H6 n6 s6 k6 => ?_
    walk_at "go"
    have s46 := s5.trans s6
    have hne : ∀ y o, H y = some o → y ≠ fa ∧ y ≠ se ∧ y ≠ wa := fun y o e => by
      refine ⟨new_ne e n1 |>.symm, fun z => ?_, ?_⟩
      · rw [z] at e
        rw [s1 _ _ e] at nse
        cases nse
      · exact (new_ne (s5 _ _ (rm_le _ _ (s4 _ _ e))) n6).symm
    have nws : wa ≠ se := new_ne (s5 _ _ k4) n6
    have nwf : wa ≠ fa := new_ne (s5 _ _ k4a) n6
    have nt1 : t1 ≠ fa ∧ t1 ≠ se ∧ t1 ≠ wa := ⟨new_ne k4a n5, new_ne k4 n5, (new_ne k5 n6).symm⟩
    have M0 : MPH one two H fa se wa [] [(h, k)] [(h, k)] H6 := by
      refine ⟨rm3_new hne fun y o e => s46 _ _ (rm_le _ _ (s4 _ _ e)), ⟨[], s46 _ _ k4a, .nil⟩, s46 _ _ k4, ⟨[t1], k6, .cons ?_ .nil⟩⟩
      exact rm3_of nt1.1 nt1.2.1 nt1.2.2 (s6 _ _ k5)
    have P0 : MP one two h k [] [(h, k)] [(h, k)] := ⟨by simp, by simp, by simp, fun p hp => by rw [List.mem_singleton.mp hp]; exact .refl, fun p hp => by cases hp⟩
    clear s4 k4 k4a k6 s46 s5 s6 k5
    refine while_m (fun μ σ H' => ∃ (found wait ks : List (Nat × Nat)) (v7 v8 v9 v10 v11 : Option V), σ = [some (.ref a), some (.int (h : Int)), some (.ref b), some (.int (k : Int)), some (.ref fa), some (.ref se), some (.ref wa), v7, v8, v9, v10, v11] ∧ MPH one two H fa se wa found wait ks H' ∧ MP one two h k found wait ks ∧ μ = N - found.length) N ⟨[], [(h, k)], [(h, k)], _, _, _, _, _, rfl, M0, P0, rfl⟩ ?_
    rintro μ σ H7 ⟨found, wait, ks, v7, v8, v9, v10, v11, rfl, M, PP, rfl⟩
    obtain ⟨us, w1, w2⟩ := M.wa
    have ew := w2.length
    walk_at "go"
    refine al fun e0 H8 n8 s8 k8 => ?_
    walk_at "go"
    refine w_ne30 (sq (s8 _ _ w1)) (sq k8) ?_
    rcases list_last wait with rfl | ⟨wait', p, rfl⟩
    · have eu : us = [] := List.eq_nil_of_length_eq_zero (by rw [← ew]; rfl)
      rw [eu]
      refine ⟨_, rfl, iteF ?_⟩
      obtain ⟨fs, f1, f2⟩ := (M.same s8).fa
      walk_at "go"
      refine q H8 fa found n1 ((M.same s8).sm.trans rm3_le) PP.done ⟨fs, f1, paired_imp (fun _ _ z => rm3_le _ _ z) f2⟩
    · obtain ⟨us', t, rfl, w3, w4⟩ := paired_last w2
      rw [show ((us' ++ [t]).map V.ref).isEmpty = false from by simp]
      refine ⟨_, rfl, iteT ?_⟩
      have M8 := M.same s8
      have w1' := s8 _ _ w1
      have w3' : Paired (PrE (rm3 fa se wa H8)) wait' us' := paired_imp (fun _ _ z => rm3_mono s8 _ _ z) w3
      have w4' : PrE (rm3 fa se wa H8) p t := rm3_mono s8 _ _ w4
      walk_at "go"
      rw [List.map_append] at w1'
      refine w_pop30 (xs := us'.map V.ref) (y := .ref t) w1' ?_
      have M9 : MPH one two H fa se wa found wait' ks (L2.upd H8 wa (.lst (us'.map V.ref))) := by
        obtain ⟨m1, ⟨fs, m2, m3⟩, m4, _⟩ := M8
        have e : rm3 fa se wa (L2.upd H8 wa (.lst (us'.map V.ref))) = rm3 fa se wa H8 := rm3_upd (.inr (.inr rfl))
        exact ⟨by rw [e]; exact m1, ⟨fs, by rw [L2.upd_ne nwf.symm]; exact m2, by rw [e]; exact m3⟩, by rw [L2.upd_ne nws.symm]; exact m4, ⟨us', L2.upd_same, by rw [e]; exact w3'⟩⟩
      have w4'' : PrE (rm3 fa se wa (L2.upd H8 wa (.lst (us'.map V.ref)))) p t := by
        rw [rm3_upd (.inr (.inr rfl))]
        exact w4'
      generalize L2.upd H8 wa (.lst (us'.map V.ref)) = H9 at M9 w4'' ⊢
      refine w_gtup (sqt (rm3_le _ _ w4'')) rfl ?_
      have P9 := PP.pop
      obtain ⟨few1, few2, pks⟩ := P9.few rb
      obtain ⟨l1, l2⟩ := (P9.rc p pks).lt c1 c2 hh hk
      have hS : ∀ {H' : Hp}, Same H9 H' → Same H H' := fun s => (M9.sm.trans rm3_le).trans s
      obtain ⟨ts, qa, e, es, g1, g2, g3, g4, g5⟩ := (h1.same (hS (Same.refl _))).row l1
      obtain ⟨us2, qb, e', es', g1', g2', g3', g4', g5'⟩ := (h2.same (hS (Same.refl _))).row l2
      obtain ⟨fs0, hfs0, _⟩ := M9.fa
      walk_at "go"
      refine w_ixT (sqt g1) (atI_map (x := qa) (by omega) (by rw [Int.toNat_natCast]; exact g2)) ?_
      walk_at "go"
      refine w_ixT (sqt g1') (atI_map (x := qb) (by omega) (by rw [Int.toNat_natCast]; exact g2')) ?_
      walk_at "go"
      refine ite_joinC (fun v H' => v = .int (plMin one two p.1 p.2 : Nat) ∧ H' = H9) ?_ ?_ ?_
      rotate_left
      · intro cc Q' q'
        have cc := of_decide_eq_true cc
        walk_at "go"
        refine w_ixT (sqt g1) (atI_map (x := qa) (by omega) (by rw [Int.toNat_natCast]; exact g2)) ?_
        walk_at "go"
        refine q' _ _ ⟨?_, rfl⟩
        unfold plMin
        rw [Nat.min_eq_left (by omega)]
      · intro cc Q' q'
        have cc := of_decide_eq_false cc
        walk_at "go"
        refine w_ixT (sqt g1') (atI_map (x := qb) (by omega) (by rw [Int.toNat_natCast]; exact g2')) ?_
        walk_at "go"
        refine q' _ _ ⟨?_, rfl⟩
        unfold plMin
        rw [Nat.min_eq_right (by omega)]
      rintro v HJ ⟨rfl, rfl⟩
      walk_at "go"
      refine al fun t2 HA nA sA kA => ?_
      walk_at "go"
      obtain ⟨fs, f1, f2⟩ := (M9.same sA).fa
      have ef := f2.length
      rw [List.length_map] at ef
      refine w_append f1 (by rw [List.length_map]; omega) ?_
      have nt2 : t2 ≠ fa ∧ t2 ≠ se ∧ t2 ≠ wa := ⟨(by obtain ⟨_, z, _⟩ := M9.fa; exact new_ne z nA), new_ne M9.se nA, (by obtain ⟨_, z, _⟩ := M9.wa; exact new_ne z nA)⟩
      have MB : MPH one two H fa se wa (found ++ [p]) wait' ks (L2.upd HA fa (.lst (fs.map V.ref ++ [.ref t2]))) := by
        obtain ⟨m1, _, m4, ⟨us3, m5, m6⟩⟩ := M9.same sA
        have e : rm3 fa se wa (L2.upd HA fa (.lst (fs.map V.ref ++ [.ref t2]))) = rm3 fa se wa HA := rm3_upd (.inl rfl)
        refine ⟨by rw [e]; exact m1, ⟨fs ++ [t2], by rw [L2.upd_same, List.map_append]; rfl, ?_⟩, by rw [L2.upd_ne nfs.symm]; exact m4, ⟨us3, by rw [L2.upd_ne nwf]; exact m5, by rw [e]; exact m6⟩⟩
        rw [e, List.map_append]
        exact paired_app f2 (.cons (rm3_of nt2.1 nt2.2.1 nt2.2.2 kA) .nil)
      generalize L2.upd HA fa (.lst (fs.map V.ref ++ [.ref t2])) = HB at MB ⊢
      walk_at "go"
      refine ⟨a, b, one, two, p.1, p.2, rfl, h1.same (MB.sm.trans rm3_le), h2.same (MB.sm.trans rm3_le), l1, l2, x1, x2, fun HC l nC sC hL => ?_⟩
      have MC := MB.same sC
      obtain ⟨ts3, hL1, hL2⟩ := hL
      have nl : l ≠ fa ∧ l ≠ se ∧ l ≠ wa := ⟨(by obtain ⟨_, z, _⟩ := MB.fa; exact new_ne z nC), new_ne MB.se nC, (by obtain ⟨_, z, _⟩ := MB.wa; exact new_ne z nC)⟩
      have hL3 : Paired (PbE (rm3 fa se wa HC)) (pbOf one two p.1 p.2) ts3 := paired_imp (fun _ _ z => MC.tup z) hL2
      have hL4 := hL3.length
      have hL5 : rm3 fa se wa HC l = some (.lst (ts3.map V.ref)) := rm3_of nl.1 nl.2.1 nl.2.2 hL1
      walk_at "go"
      refine for_list (K := K) (a := l) (xs := ts3.map V.ref) (fun j σ H' => ∃ (wait ks : List (Nat × Nat)) (v9 v10 v11 : Option V), σ = [some (.ref a), some (.int (h : Int)), some (.ref b), some (.int (k : Int)), some (.ref fa), some (.ref se), some (.ref wa), some (.int (p.1 : Int)), some (.int (p.2 : Int)), v9, v10, v11] ∧ MPH one two H fa se wa (found ++ [p]) wait ks H' ∧ MPi one two h k found p j wait ks ∧ Same (rm3 fa se wa HC) (rm3 fa se wa H')) ⟨wait', ks, _, _, _, rfl, MC, P9, Same.refl _⟩
        (fun j σ H' _ z => by obtain ⟨_, _, _, _, _, _, _, _, z⟩ := z; exact sq (rm3_le _ _ (z _ _ hL5))) ?_ ?_
      · rintro j y σ HD hj ⟨wait, ks, v9, v10, v11, rfl, MD, PD, sD⟩
        obtain ⟨tp, htp, rfl⟩ := get_map hj
        obtain ⟨x, hx, hxt⟩ := paired_get hL3 htp
        have hxt' : HD tp = some (.tup [fgV x.1, .int (x.2.1 : Int), .int (x.2.2 : Int)]) := rm3_le _ _ (sD _ _ hxt)
        refine w_gtup (sqt hxt') rfl ?_
        walk_at "go"
        refine al fun t3 HE nE sE kE => ?_
        walk_at "go"
        have ME := MD.same sE
        obtain ⟨fw1, fw2, _⟩ := PD.few rb
        refine w_notin30 (DGet.t (k := pkN x.2) ME.se (by rw [pkN_val]; exact kE)) ?_
        rw [pdm_val, pget_isSome, ks_keys]
        by_cases cm : x.2 ∈ ks
        · rw [decide_eq_true cm]
          refine ⟨_, rfl, iteF ?_⟩
          walk_at "go"
          exact ⟨wait, ks, _, _, _, rfl, ME, PD.old hx cm, sD.trans (rm3_mono sE)⟩
        · rw [decide_eq_false cm]
          refine ⟨_, rfl, iteT ?_⟩
          walk_at "go"
          refine al fun t4 HF nF sF kF => ?_
          have MF := ME.same sF
          walk_at "go"
          have pg : pget (ks.map fun p => (p, V.bl true)) x.2 = none := pget_none.mpr (by rw [ks_keys]; exact cm)
          refine w_set30 ⟨se, _, rfl, DPut.t (k := pkN x.2) MF.se (by rw [pkN_val]; exact kF) (by unfold pdm; rw [List.length_map, List.length_map]; omega), ?_⟩
          rw [pdm_put pg, show (ks.map fun p => (p, V.bl true)) ++ [(x.2, V.bl true)] = (ks ++ [x.2]).map fun p => (p, V.bl true) by rw [List.map_append]; rfl]
          have MG : MPH one two H fa se wa (found ++ [p]) wait (ks ++ [x.2]) (L2.upd HF se (.dT (pdm ((ks ++ [x.2]).map fun p => (p, V.bl true))))) := by
            obtain ⟨m1, ⟨fs', m2, m3⟩, _, ⟨us3, m5, m6⟩⟩ := MF
            have e : rm3 fa se wa (L2.upd HF se (.dT (pdm ((ks ++ [x.2]).map fun p => (p, V.bl true))))) = rm3 fa se wa HF := rm3_upd (.inr (.inl rfl))
            exact ⟨by rw [e]; exact m1, ⟨fs', by rw [L2.upd_ne nfs]; exact m2, by rw [e]; exact m3⟩, L2.upd_same, ⟨us3, by rw [L2.upd_ne nws]; exact m5, by rw [e]; exact m6⟩⟩
          have sG : Same (rm3 fa se wa HC) (rm3 fa se wa (L2.upd HF se (.dT (pdm ((ks ++ [x.2]).map fun p => (p, V.bl true)))))) := by
            rw [rm3_upd (.inr (.inl rfl))]
            exact sD.trans ((rm3_mono sE).trans (rm3_mono sF))
          generalize L2.upd HF se (.dT (pdm ((ks ++ [x.2]).map fun p => (p, V.bl true)))) = HG at MG sG ⊢
          obtain ⟨us0, hus0, _⟩ := MG.wa
          walk_at "go"
          refine al fun t5 HK nK sK kK => ?_
          walk_at "go"
          have MK := MG.same sK
          obtain ⟨us3, m5, m6⟩ := MK.wa
          have em := m6.length
          refine w_append m5 (by rw [List.length_map]; omega) ?_
          have nt5 : t5 ≠ fa ∧ t5 ≠ se ∧ t5 ≠ wa := ⟨(by obtain ⟨_, z, _⟩ := MG.fa; exact new_ne z nK), new_ne MG.se nK, (by obtain ⟨_, z, _⟩ := MG.wa; exact new_ne z nK)⟩
          walk_at "go"
          have e : rm3 fa se wa (L2.upd HK wa (.lst (us3.map V.ref ++ [.ref t5]))) = rm3 fa se wa HK := rm3_upd (.inr (.inr rfl))
          refine ⟨wait ++ [x.2], ks ++ [x.2], _, _, _, rfl, ?_, PD.new hx cm, by rw [e]; exact sG.trans (rm3_mono sK)⟩
          obtain ⟨m1, ⟨fs', m2, m3⟩, m4, _⟩ := MK
          refine ⟨by rw [e]; exact m1, ⟨fs', by rw [L2.upd_ne nwf.symm]; exact m2, by rw [e]; exact m3⟩, by rw [L2.upd_ne nws.symm]; exact m4, ⟨us3 ++ [t5], by rw [L2.upd_same, List.map_append]; rfl, ?_⟩⟩
          rw [e]
          exact paired_app m6 (.cons (rm3_of nt5.1 nt5.2.1 nt5.2.2 kK) .nil)
      · rintro σ HD ⟨wait, ks, v9, v10, v11, rfl, MD, PD, sD⟩
        rw [List.length_map, ← hL4] at PD
        walk_at "go"
        exact ⟨_, by rw [List.length_append]; simp only [List.length_cons, List.length_nil]; omega, found ++ [p], wait, ks, _, _, _, _, _, rfl, MD, PD.out (Nat.le_refl _), rfl⟩
noncomputable abbrev s_usual : Stmt := (top 31)
theorem sc_usual : FnScope ["prime", "children", "rest", "many", "first", "figure", "below", "free", "best"] ["prime", "children", "rest"] (defScope s_usual) :=
  ⟨rfl, rfl, rfl, by decide +kernel, rfl, by decide +kernel, by decide +kernel⟩
theorem ok_usual (F : Dn K mg "usual" s_usual ["prime", "children", "rest"]) (T : Bt mg) (zsorted : mg "sorted" = none) : Cal P w K mg base 1 "usual" spUsual [] := by
  refine F.cal sc_usual (fun vs H Q E h => ?_) (fun f cdv A outer s H vs Q E hr h => ?_)
  · obtain ⟨p, rest, d, cs, rfl, _⟩ := h
    rfl
  · obtain ⟨p, rest, d, cs, rfl, hd, ⟨hn, hlt⟩, p0, p1, q⟩ := h
    have hsz : (100000 : Nat) < sizeLine := by decide
    have hln : cs.length ≤ p := by
      have := nd_sub30 hn (m := List.range p) fun x hx => List.mem_range.mpr (hlt x hx)
      rw [List.length_map, List.length_range] at this
      exact this
    refine ⟨_, (pss_cons (ps_set (i := 3) sc_usual.nd rfl (Or.inl rfl) pe_dnewK)
      (pss_cons (ps_set (i := 4) sc_usual.nd rfl (Or.inl rfl) pe_dnewK)
      (pss_cons (ps_for PassesOwn.never rfl (pi_list (pe_callB cr_sortedI (by rfl) zsorted (by decide +kernel) (pa_cons (pe_lock (pe_lc (own := [("figure", 5)]) (g := gName 5) (tt := tYes) (te := (tCB _ (tCons (tVar 5) tNil))) rfl sc_usual.nd (pi_keys (pv 1)) (blkOk_by (own := [("figure", 5)]) (N := ["prime", "children", "rest", "many", "first", "figure", "below", "free", "best"]) (sc := defScope s_usual) (by decide +kernel)) (fun _ _ _ _ _ => (pg_name (i := 5) sc_usual.nd rfl (Or.inl rfl))) (fun _ _ _ _ _ => pts_nil) (fun _ _ _ _ _ => (pe_callTy cInt1 (by rfl) T.int (by decide +kernel) (pa_cons (pv 5) pa_nil))))) pa_nil))) (pg_name (i := 5) sc_usual.nd rfl (Or.inl rfl)) (pss_cons (ps_set (i := 6) sc_usual.nd rfl (Or.inl rfl) (pe_dget (u66 hr) (pv 1) (pv 5) (fun _ _ => rfl)))
      (pss_cons (ps_asg (pe_op op_add (pe_dget2 (u66 hr) (pv 3) (pv 6) pe_int ⟨rfl, rfl, rfl, rfl⟩) pe_int) (pg_sub (pv 3) (pv 6) (set_dict (u66 hr))))
      (pss_one (ps_asg (pe_dget2 (u66 hr) (pv 4) (pv 6) (pv 5) ⟨rfl, rfl, rfl, rfl⟩) (pg_sub (pv 4) (pv 6) (set_dict (u66 hr))))))))
      (pss_cons (ps_if (pt_cmpR op_lt (pe_callB call_lenD (by rfl) T.len (by decide +kernel) (pa_cons (pv 1) pa_nil)) (pv 0) (nomark _)) (pss_cons (ps_set (i := 7) sc_usual.nd rfl (Or.inl rfl) pe_int)
      (pss_cons (ps_while PassesOwn.never (pt_cmpR (op_inT hr.units) (pv 7) (pv 1) (by rfl)) (pss_one (ps_set (i := 7) sc_usual.nd rfl (Or.inl rfl) (pe_op op_add (pv 7) pe_int))))
      (pss_cons (ps_asg (pe_op op_sub (pe_op op_add (pe_dget2 (u66 hr) (pv 3) (pv 2) pe_int ⟨rfl, rfl, rfl, rfl⟩) (pv 0)) (pe_callB call_lenD (by rfl) T.len (by decide +kernel) (pa_cons (pv 1) pa_nil))) (pg_sub (pv 3) (pv 2) (set_dict (u66 hr))))
      (pss_one (ps_if (pt_cmpR op_ge (pe_dget2 (u66 hr) (pv 4) (pv 2) (pv 7) ⟨rfl, rfl, rfl, rfl⟩) (pv 7) (nomark _)) (pss_one (ps_asg (pv 7) (pg_sub (pv 4) (pv 2) (set_dict (u66 hr))))) pss_nil))))) pss_nil)
      (pss_cons (ps_set (i := 8) sc_usual.nd rfl (Or.inl rfl) pe_non)
      (pss_cons (ps_lock (ps_for PassesOwn.never rfl (pi_keys (pv 3)) (pg_name (i := 6) sc_usual.nd rfl (Or.inl rfl)) (pss_one (ps_if (PW.pt (pw_or (pt_cmpR op_isN1 (pv 8) pe_non (nomark _)) (pw_or (pt_cmpR op_gt (pe_dget (u66 hr) (pv 3) (pv 6) (fun _ _ => rfl)) (pe_dget (u66 hr) (pv 3) (pv 8) (fun _ _ => rfl)) (nomark _)) (pw_or1 (PW.pt (pw_and (pt_cmpR op_eq (pe_dget (u66 hr) (pv 3) (pv 6) (fun _ _ => rfl)) (pe_dget (u66 hr) (pv 3) (pv 8) (fun _ _ => rfl)) (nomark _)) (pw_and1 (pt_cmpR op_lt (pe_dget (u66 hr) (pv 4) (pv 6) (fun _ _ => rfl)) (pe_dget (u66 hr) (pv 4) (pv 8) (fun _ _ => rfl)) (nomark _))))))))) (pss_one (ps_set (i := 8) sc_usual.nd rfl (Or.inl rfl) (pv 6))) pss_nil))))
      (pss_one (ps_ret (pv 8))))))))), ?_⟩
    walk_at "go"
    refine al fun dm H1 n1 u1 u2 => ?_
    walk_at "go"
    refine al fun df H2 n2 u3 u4 => ?_
    have hne : ∀ y o, H y = some o → y ≠ dm ∧ y ≠ df ∧ y ≠ df := fun y o e => ⟨(new_ne e n1).symm, (new_ne (u1 _ _ e) n2).symm, (new_ne (u1 _ _ e) n2).symm⟩
    have nmf : dm ≠ df := (new_ne u2 n2).symm
    have hd2 := u3 _ _ (u1 _ _ hd)
    walk_at "go"
    refine ⟨d, .dK (toK (chI cs)), hd2, trivial, fun od => ?_⟩
    walk_at "go"
    refine ⟨_, rfl, d, od, rfl, .inl ⟨toK (chI cs), L2.upd_same, ?_⟩⟩
    intro D hD
    have nD : D ≠ d := fun z => by
      rw [z, L2.upd_same] at hD
      cases hD
    have hcl : (chI cs).length = cs.length := List.length_map ..
    refine lc_pure (((chI cs).map (·.1)).map V.int) (((chI cs).map (·.1)).map V.int) walk_es hD (fun H' s => s _ _ L2.upd_same) rfl (by rw [List.length_map, List.length_map]; omega) (fun _ => rfl) ?_ ?_
    · intro j x0 y0 H5 hx0 hy0 s5 Q' hQ'
      rw [hx0] at hy0
      cases hy0
      obtain ⟨p0, hp0, rfl⟩ := get_map hx0
      walk_at "go"
      exact hQ' _ (Same.refl _)
    intro H5 s5 hD5
    refine ⟨s5 _ _ L2.upd_same, ?_⟩
    have s6 : Same H2 (L2.upd H5 d (.dK (toK (chI cs)))) := fun b o hb => by
      by_cases z : b = d
      · subst z
        rw [L2.upd_same, ← hd2, hb]
      · rw [L2.upd_ne z]
        exact s5 _ _ ((L2.upd_ne z).trans hb)
    have h6 : L2.upd H5 d (.dK (toK (chI cs))) D = some (.lst (((chI cs).map (·.1)).map V.int)) := (L2.upd_ne nD).trans hD5
    generalize L2.upd H5 d (.dK (toK (chI cs))) = H6 at s6 h6 ⊢
    walk_at "go"
    refine ⟨D, (chI cs).map (·.1), rfl, sq h6, fun qs lp pm so np => ?_⟩
    obtain ⟨S, rfl, pS, soS⟩ := sorted_nat (l := cs.map (·.1)) (by rw [← chI_keys]; exact pm) so hn
    have ndS := pS.nodup_iff.mpr hn
    have ltS : ∀ f ∈ S, f < p := fun f hf => hlt f (pS.mem_iff.mp hf)
    have lnS : S.length = cs.length := by rw [pS.length_eq, List.length_map]
    have el : (S.map fun f : Nat => (f : Int)).map V.int = S.map fun f : Nat => V.int (f : Int) := by
      rw [List.map_map]
      rfl
    rw [el]
    have u7 : Same H6 (L2.upd H6 lp (.lst (S.map fun f : Nat => V.int (f : Int)))) := Same.new np
    have l7 : L2.upd H6 lp (.lst (S.map fun f : Nat => V.int (f : Int))) lp = some (.lst (S.map fun f : Nat => V.int (f : Int))) := L2.upd_same
    generalize L2.upd H6 lp (.lst (S.map fun f : Nat => V.int (f : Int))) = H7 at u7 l7 ⊢
    have U0 : US H dm df [] [] H7 := ⟨rm3_new hne fun b o e => u7 _ _ (s6 _ _ (u3 _ _ (u1 _ _ e))), u7 _ _ (s6 _ _ (u3 _ _ u2)), u7 _ _ (s6 _ _ u4)⟩
    have lp7 : rm3 dm df df H7 lp = some (.lst (S.map fun f : Nat => V.int (f : Int))) := by
      refine rm3_of (new_ne (s6 _ _ (u3 _ _ u2)) np) (new_ne (s6 _ _ u4) np) (new_ne (s6 _ _ u4) np) l7
    clear u1 u2 u3 u4 s5 s6 h6 hD5 hd2 u7
    walk_at "go"
    refine for_list (K := K) (a := lp) (xs := S.map fun f : Nat => V.int (f : Int)) (fun j σ H' => ∃ (v5 v6 v7 v8 : Option V) (M Fi : List (Int × Int)), σ = [some (.int (p : Int)), some (.ref d), some (.int (rest : Int)), some (.ref dm), some (.ref df), v5, v6, v7, v8] ∧ US H dm df M Fi H' ∧ UM (chG cs rest) (S.take j) M Fi ∧ M.length ≤ j ∧ Fi.length ≤ j ∧ Same (rm3 dm df df H7) (rm3 dm df df H')) ⟨_, _, _, _, [], [], rfl, U0, .nil, Nat.le_refl _, Nat.le_refl _, Same.refl _⟩
      (fun j σ H' _ z => by obtain ⟨_, _, _, _, _, _, _, _, _, _, _, z⟩ := z; exact sq (rm3_le _ _ (z _ _ lp7))) ?_ ?_
    · rintro j y σ H8 hj ⟨v5, v6, v7, v8, M, Fi, rfl, U, UU, lM, lF, s8⟩
      obtain ⟨f, hf, rfl⟩ := get_map hj
      have hfm : f ∈ cs.map (·.1) := pS.mem_iff.mp (List.mem_of_getElem? hf)
      have hjl : j < S.length := (List.getElem?_eq_some_iff.mp hf).1
      have hd8 : H8 d = some (.dK (toK (chI cs))) := rm3_le _ _ (U.sm _ _ hd)
      have tk : S.take (j + 1) = S.take j ++ [f] := by rw [List.take_add_one, hf]; rfl
      have hasc : ∀ x ∈ S.take j, x < f := fun x hx => by
        have so2 : (S.take j ++ [f]).Pairwise (· < ·) := by rw [← tk]; exact soS.sublist (List.take_sublist _ _)
        exact (List.pairwise_append.mp so2).2.2 x hx f (by simp)
      walk_at "go"
      refine w_dget ?_
      walk_at "go"
      refine ⟨d, .int (chG cs rest f : Nat), rfl, ?_, ?_⟩
      · have := DGet.k (k := .inl (f : Int)) hd8
        rw [look_get' (by rw [chI_keys]; exact List.mem_map_of_mem hfm), chI_look rest hfm] at this
        exact this
      walk_at "go"
      generalize hg : chG cs rest f = b
      have lk0 : (if (b : Int) ∈ M.map (·.1) then look M (b : Int) else 0) = look M (b : Int) := by
        split
        · rfl
        · rw [look_out (by assumption)]
      refine w_dget2 ?_
      walk_at "go"
      refine ⟨.inl ⟨toK M, .inl U.m⟩, ?_⟩
      walk_at "go"
      refine ⟨_, DGet.k (k := .inl (b : Int)) U.m, ?_⟩
      rw [look_get, lk0]
      walk_at "go"
      refine w_set30 ⟨dm, _, rfl, DPut.k (k := .inl (b : Int)) U.m (by unfold toK; rw [List.length_map]; omega), ?_⟩
      rw [putK_toK]
      have U1 := U.putM nmf (b : Int) (look M (b : Int) + 1)
      have s9 : Same (rm3 dm df df H7) (rm3 dm df df (L2.upd H8 dm (.dK (toK (putE M (b : Int) (look M (b : Int) + 1)))))) := by rw [rm3_upd (.inl rfl)]; exact s8
      generalize L2.upd H8 dm (.dK (toK (putE M (b : Int) (look M (b : Int) + 1)))) = H9 at U1 s9 ⊢
      walk_at "go"
      refine w_dget2 ?_
      walk_at "go"
      refine ⟨.inl ⟨toK Fi, .inl U1.f⟩, ?_⟩
      walk_at "go"
      refine ⟨_, DGet.k (k := .inl (b : Int)) U1.f, ?_⟩
      rw [look_get]
      walk_at "go"
      refine w_set30 ⟨df, _, rfl, DPut.k (k := .inl (b : Int)) U1.f (by unfold toK; rw [List.length_map]; omega), ?_⟩
      rw [putK_toK]
      walk_at "go"
      have U2 := UU.snoc hasc
      rw [hg, ← tk] at U2
      exact ⟨_, _, _, _, _, _, rfl, U1.putF nmf _ _, U2, Nat.le_trans len_put (by omega), Nat.le_trans len_put (by omega), by rw [rm3_upd (.inr (.inl rfl))]; exact s9⟩
    · rintro σ H8 ⟨v5, v6, v7, v8, M, Fi, rfl, U, UU, lM, lF, s8⟩
      rw [List.length_map] at lM lF UU
      rw [List.take_length] at UU
      have hd8 : H8 d = some (.dK (toK (chI cs))) := rm3_le _ _ (U.sm _ _ hd)
      walk_at "go"
      refine ⟨d, toK (chI cs), rfl, hd8, ?_⟩
      have ek : (toK (chI cs)).length = cs.length := by unfold toK; rw [List.length_map]; exact List.length_map ..
      rw [ek]
      walk_at "go"
      have hin : ∀ n : Nat, (n : Int) ∈ (chI cs).map (·.1) ↔ n ∈ S := fun n => by
        rw [chI_keys, pS.mem_iff]
        constructor
        · intro z
          obtain ⟨x, hx, e⟩ := List.mem_map.mp z
          have e : (x : Int) = (n : Int) := e
          have : x = n := by omega
          rw [← this]
          exact hx
        · exact fun z => List.mem_map.mpr ⟨n, z, rfl⟩
      have hout : ∀ f, f ∉ S → chG cs rest f = rest := fun f z => chG_out fun y => z (pS.mem_iff.mpr y)
      refine ite_joinNC (fun σ H' => ∃ (v5 v6 v7 v8 : Option V) (M Fi : List (Int × Int)), σ = [some (.int (p : Int)), some (.ref d), some (.int (rest : Int)), some (.ref dm), some (.ref df), v5, v6, v7, v8] ∧ US H dm df M Fi H' ∧ UF p (chG cs rest) M Fi ∧ M.length ≤ 5000) ?_ ?_ ?_
      rotate_left
      · intro hc N0 n0
        have hc := of_decide_eq_true hc
        walk_at "go"
        refine while_m (fun μ σ H' => ∃ (n : Nat), σ = [some (.int (p : Int)), some (.ref d), some (.int (rest : Int)), some (.ref dm), some (.ref df), v5, v6, some (.int (n : Int)), v8] ∧ H' = H8 ∧ μ = p - n ∧ ∀ y, y < n → y ∈ S) p ⟨0, rfl, rfl, by omega, fun y hy => absurd hy (Nat.not_lt_zero _)⟩ ?_
        rintro μ σ H9 ⟨n, rfl, rfl, rfl, hy⟩
        have hnl := range_in hy
        walk_at "go"
        refine w_in30 (DGet.k (k := .inl (n : Int)) hd8) ?_
        rw [look_some]
        by_cases cn : n ∈ S
        · rw [decide_eq_true ((hin n).mpr cn)]
          refine ⟨_, rfl, iteT ?_⟩
          walk_at "go"
          refine ⟨p - (n + 1), by have := ltS n cn; omega, n + 1, by rw [Int.natCast_add]; rfl, rfl, rfl, fun y hy2 => ?_⟩
          by_cases e : y = n
          · rw [e]; exact cn
          · exact hy y (by omega)
        · rw [decide_eq_false (fun z => cn ((hin n).mp z))]
          refine ⟨_, rfl, iteF ?_⟩
          have FR : Free p S n := ⟨by omega, cn, hy⟩
          have lk0 : (if (rest : Int) ∈ M.map (·.1) then look M (rest : Int) else 0) = look M (rest : Int) := by
            split
            · rfl
            · rw [look_out (by assumption)]
          walk_at "go"
          refine w_dget2 ?_
          walk_at "go"
          refine ⟨.inl ⟨toK M, .inl U.m⟩, ?_⟩
          walk_at "go"
          refine ⟨_, DGet.k (k := .inl (rest : Int)) U.m, ?_⟩
          rw [look_get, lk0]
          walk_at "go"
          refine ⟨d, toK (chI cs), rfl, hd8, ?_⟩
          rw [ek]
          walk_at "go"
          refine w_set30 ⟨dm, _, rfl, DPut.k (k := .inl (rest : Int)) U.m (by unfold toK; rw [List.length_map]; omega), ?_⟩
          rw [putK_toK]
          have U1 := U.putM nmf (rest : Int) (look M (rest : Int) + (p : Int) - (cs.length : Int))
          generalize L2.upd H9 dm (.dK (toK (putE M (rest : Int) (look M (rest : Int) + (p : Int) - (cs.length : Int))))) = HA at U1 ⊢
          have lM' : (putE M (rest : Int) (look M (rest : Int) + (p : Int) - (cs.length : Int))).length ≤ 5000 := Nat.le_trans len_put (by omega)
          walk_at "go"
          refine w_dget2 ?_
          walk_at "go"
          refine ⟨.inl ⟨toK Fi, .inl U1.f⟩, ?_⟩
          walk_at "go"
          refine ⟨_, DGet.k (k := .inl (rest : Int)) U1.f, ?_⟩
          rw [look_get]
          walk_at "go"
          have hfin := fun {Fi'} e => UU.rest ndS ltS hout FR (Fi' := Fi') e
          rw [lnS] at hfin
          refine ite_d (fun cf => ?_) (fun cf => ?_)
          · walk_at "go"
            refine w_set30 ⟨df, _, rfl, DPut.k (k := .inl (rest : Int)) U1.f (by unfold toK; rw [List.length_map]; omega), ?_⟩
            rw [putK_toK]
            walk_at "go"
            exact n0 _ _ ⟨_, _, _, _, _, _, rfl, U1.putF nmf _ _, hfin (by rw [if_pos cf]), lM'⟩
          · walk_at "go"
            exact n0 _ _ ⟨_, _, _, _, _, _, rfl, U1, hfin (by rw [if_neg cf]), lM'⟩
      · intro hc N0 n0
        have hc := of_decide_eq_false hc
        walk_at "go"
        exact n0 _ _ ⟨_, _, _, _, _, _, rfl, U, UU.whole ndS ltS (by omega), by omega⟩
      rintro σ' H9 ⟨v5, v6, v7, v8, M, Fi, rfl, U, UF, lM⟩
      walk_at "go"
      refine ⟨dm, .dK (toK M), U.m, trivial, fun od => ?_⟩
      have fm : L2.upd H9 dm (.frz od (.dK (toK M))) dm = some (.frz od (.dK (toK M))) := L2.upd_same
      have ff : L2.upd H9 dm (.frz od (.dK (toK M))) df = some (.dK (toK Fi)) := by rw [L2.upd_ne nmf.symm]; exact U.f
      have fs : L2.upd (L2.upd H9 dm (.frz od (.dK (toK M)))) dm (.dK (toK M)) = H9 := by
        funext y
        by_cases c : y = dm
        · rw [c, L2.upd_same, U.m]
        · rw [L2.upd_ne c, L2.upd_ne c]
      generalize L2.upd H9 dm (.frz od (.dK (toK M))) = HF at fm ff fs ⊢
      walk_at "go"
      refine ⟨_, rfl, dm, od, rfl, .inl ⟨toK M, fm, ?_⟩⟩
      refine for_it (walk_es (es := M)) (fun i σ H' => ∃ (v6 : Option V) (v8 : V) (b : Option Int), σ = [some (.int (p : Int)), some (.ref d), some (.int (rest : Int)), some (.ref dm), some (.ref df), v5, v6, v7, some v8] ∧ H' = HF ∧ UB M Fi ((M.map (·.1)).take i) b ∧ v8 = obV b) ⟨_, _, none, rfl, rfl, rfl, rfl⟩ (fun i σ H' _ z => by obtain ⟨_, _, _, _, rfl, _⟩ := z; exact fm) ?_ ?_
      · rintro i y σ H1' H2' hi ⟨v6, v8, b, rfl, rfl, hb, hv⟩ ⟨rfl, hy⟩
        obtain ⟨c, hc, rfl⟩ := get_map hy
        have hcm : c ∈ M.map (·.1) := List.mem_of_getElem? hc
        have gM : ∀ c, c ∈ M.map (·.1) → DGet H2' dm (.int c) (some (.int (look M c))) := fun c h => .inl ⟨toK M, .inl c, .inr ⟨od, fm⟩, rfl, (look_get' h).symm⟩
        have gF : ∀ c, c ∈ M.map (·.1) → DGet H2' df (.int c) (some (.int (look Fi c))) := fun c h => by
          obtain ⟨x, hx, rfl⟩ := (UF.km c).mp h
          exact .inl ⟨toK Fi, .inl _, .inl ff, rfl, (look_get' (UF.kf x hx)).symm⟩
        have tk : (M.map (·.1)).take (i + 1) = (M.map (·.1)).take i ++ [c] := by rw [List.take_add_one, hc]; rfl
        have stp := UB.step UF (ks := (M.map (·.1)).take i) (b := b) (d := c) (fun x hx => List.mem_of_mem_take hx) hcm hb
        rw [← tk] at stp
        cases b with
        | none =>
          obtain rfl : v8 = V.non := hv
          walk_at "go"
          refine iteT (iteT ?_)
          walk_at "go"
          exact ⟨_, _, some c, rfl, rfl, stp, rfl⟩
        | some b =>
          obtain rfl : v8 = V.int b := hv
          have hbm : b ∈ M.map (·.1) := List.mem_of_mem_take hb.1
          walk_at "go"
          refine iteF ?_
          walk_at "go"
          refine w_dget ?_
          walk_at "go"
          refine ⟨dm, _, rfl, gM c hcm, ?_⟩
          refine w_dget ?_
          walk_at "go"
          refine ⟨dm, _, rfl, gM b hbm, ?_⟩
          walk_at "go"
          refine ite_d (fun h1 => ?_) (fun h1 => ?_)
          · refine iteT ?_
            walk_at "go"
            rw [show ubT M Fi (some b) c = true from by simp [ubT, h1]] at stp
            exact ⟨_, _, some c, rfl, rfl, stp, rfl⟩
          walk_at "go"
          refine w_dget ?_
          walk_at "go"
          refine ⟨dm, _, rfl, gM c hcm, ?_⟩
          refine w_dget ?_
          walk_at "go"
          refine ⟨dm, _, rfl, gM b hbm, ?_⟩
          walk_at "go"
          rw [decI]
          refine ite_d (fun h2 => ?_) (fun h2 => ?_)
          · walk_at "go"
            refine w_dget ?_
            walk_at "go"
            refine ⟨df, _, rfl, gF c hcm, ?_⟩
            refine w_dget ?_
            walk_at "go"
            refine ⟨df, _, rfl, gF b hbm, ?_⟩
            walk_at "go"
            refine ite_d (fun h3 => ?_) (fun h3 => ?_)
            · walk_at "go"
              rw [show ubT M Fi (some b) c = true from by simp [ubT, h2, h3]] at stp
              exact ⟨_, _, some c, rfl, rfl, stp, rfl⟩
            · walk_at "go"
              rw [show ubT M Fi (some b) c = false from by simp [ubT, h1, h3]] at stp
              exact ⟨_, _, some b, rfl, rfl, stp, rfl⟩
          · refine iteF ?_
            walk_at "go"
            rw [show ubT M Fi (some b) c = false from by simp [ubT, h1, h2]] at stp
            exact ⟨_, _, some b, rfl, rfl, stp, rfl⟩
      · rintro σ H1' ⟨v6, v8, b, rfl, rfl, hb, hv⟩
        refine ⟨fm, ?_⟩
        rw [fs]
        rw [List.length_map, List.take_length] at hb
        obtain ⟨f0, hu, rfl⟩ := hb.usual UF p0
        obtain rfl : v8 = V.int (chG cs rest f0 : Nat) := hv
        walk_at "go"
        exact q H9 f0 (U.sm.trans rm3_le) hu
noncomputable abbrev s_maderow : Stmt := (top 32)
theorem sc_maderow : FnScope ["prime", "place", "children", "rest", "best", "every", "figure", "some"] ["prime", "place", "children", "rest"] (defScope s_maderow) :=
  ⟨rfl, rfl, rfl, by decide +kernel, rfl, by decide +kernel, by decide +kernel⟩
theorem ok_maderow (F : Dn K mg "made_row" s_maderow ["prime", "place", "children", "rest"]) (T : Bt mg) (zsorted : mg "sorted" = none) (zdict : mg "dict" = none) (c_usual : Cal P w K mg base 1 "usual" spUsual []) : Cal P w K mg base 2 "made_row" spMadeRow [] := by
  refine F.cal sc_maderow (fun vs H Q E h => ?_) (fun f cdv A outer s H vs Q E hr h => ?_)
  · obtain ⟨p, pl, rest, d, cs, rfl, _⟩ := h
    rfl
  · obtain ⟨p, pl, rest, d, cs, rfl, hd, hc, p0, p1, q⟩ := h
    have hsz : (100000 : Nat) < sizeLine := by decide
    refine ⟨_, (pss_cons (ps_set (i := 4) sc_maderow.nd rfl (Or.inr rfl) (pe_c c_usual hr (by decide) (by rfl) (pa_cons (pv 0) (pa_cons (pv 2) (pa_cons (pv 3) pa_nil)))))
      (pss_cons (ps_set (i := 5) sc_maderow.nd rfl (Or.inr rfl) (pv 2))
      (pss_cons (ps_if (pt_cmpR op_ne (pv 3) (pv 4) (nomark _)) (pss_one (ps_set (i := 5) sc_maderow.nd rfl (Or.inr rfl) (pe_callTy (call_dictP rfl) (by rfl) zdict (by decide +kernel) (pa_cons (pe_lc (own := [("figure", 6)]) (g := gName 6) (tt := tYes) (te := (tTup (tCons (tVar 6) (tCons _ tNil)))) rfl sc_maderow.nd (pi_range1 (by rfl) T.range (pa_cons (pv 0) pa_nil)) (blkOk_by (own := [("figure", 6)]) (N := ["prime", "place", "children", "rest", "best", "every", "figure", "some"]) (sc := defScope s_maderow) (by decide +kernel)) (fun _ _ _ _ _ => (pg_name (i := 6) sc_maderow.nd rfl (Or.inl rfl))) (fun _ _ _ _ _ => pts_nil) (fun _ _ _ _ _ => (pe_tup (pa_cons (pv 6) (pa_cons (pe_dget2 (u66 hr) (pv 2) (pv 6) (pv 3) ⟨rfl, rfl, rfl, rfl⟩) pa_nil))))) pa_nil)))) pss_nil)
      (pss_cons (ps_set (i := 7) sc_maderow.nd rfl (Or.inl rfl) (pe_callB cr_sortedI (by rfl) zsorted (by decide +kernel) (pa_cons (pe_lock (pe_lc (own := [("figure", 6)]) (g := gName 6) (tt := (tTest (tOp _ (tDGet (tVar 5) (tVar 6)) (tVar 4)))) (te := (tCB _ (tCons (tVar 6) tNil))) rfl sc_maderow.nd (pi_keys (pv 5)) (blkOk_by (own := [("figure", 6)]) (N := ["prime", "place", "children", "rest", "best", "every", "figure", "some"]) (sc := defScope s_maderow) (by decide +kernel)) (fun _ _ _ _ _ => (pg_name (i := 6) sc_maderow.nd rfl (Or.inl rfl))) (fun _ _ _ _ _ => (pts_one (pt_cmpR op_ne (pe_dget (u66 hr) (pv 5) (pv 6) (fun _ _ => rfl)) (pv 4) (nomark _)))) (fun _ _ _ _ _ => (pe_callTy cInt1 (by rfl) T.int (by decide +kernel) (pa_cons (pv 6) pa_nil))))) pa_nil)))
      (pss_cons (ps_if (pt_cmpR (op_eq30 hr.units) (pv 7) (pe_lst pa_nil) (nomark _)) (pss_one (ps_ret (pv 4))) pss_nil)
      (pss_one (ps_ret (pe_tup (pa_cons (pv 1) (pa_cons (pv 4) (pa_cons (pe_callTy cTupOf (by rfl) T.tuple (by decide +kernel) (pa_cons (pe_lc (own := [("figure", 6)]) (g := gName 6) (tt := tYes) (te := (tTup (tCons (tVar 6) (tCons (tDGet (tVar 5) (tVar 6)) tNil)))) rfl sc_maderow.nd (pi_list (pv 7)) (blkOk_by (own := [("figure", 6)]) (N := ["prime", "place", "children", "rest", "best", "every", "figure", "some"]) (sc := defScope s_maderow) (by decide +kernel)) (fun _ _ _ _ _ => (pg_name (i := 6) sc_maderow.nd rfl (Or.inl rfl))) (fun _ _ _ _ _ => pts_nil) (fun _ _ _ _ _ => (pe_tup (pa_cons (pv 6) (pa_cons (pe_dget (u66 hr) (pv 5) (pv 6) (fun _ _ => rfl)) pa_nil))))) pa_nil)) pa_nil))))))))))), ?_⟩
    walk_at "go"
    refine ⟨p, rest, d, cs, rfl, hd, hc, p0, p1, fun H1 f0 s1 hu => ?_⟩
    have q := q f0 hu
    walk_at "go"
    have hd1 := s1 _ _ hd
    refine ite_joinNC (fun σ H' => ∃ (de : Addr) (cs' : List (Nat × Nat)) (v6 v7 : Option V), σ = [some (.int (p : Int)), some (.int (pl : Int)), some (.ref d), some (.int (rest : Int)), some (.int (chG cs rest f0 : Nat)), some (.ref de), v6, v7] ∧ Same H H' ∧ H' de = some (.dK (toK (chI cs'))) ∧ ChOk p cs' ∧ (∀ f ∈ cs'.map (·.1), chG cs' rest f = chG cs rest f) ∧ ∀ f, f < p → chG cs rest f ≠ chG cs rest f0 → f ∈ cs'.map (·.1)) ?_ ?_ ?_
    rotate_left
    · intro hc1 N0 n0
      walk_at "go"
      intro D nD
      refine lc30 (List.range p) ((List.range p).map fun f : Nat => V.int (f : Int)) (fun f v => v = .int (f : Int)) (paired_self _ _) (fun _ => true) (fun f v G => ∃ t, v = .ref t ∧ G t = some (.tup [.int (f : Int), .int (chG cs rest f : Nat)])) (fun x y G G' sg z => by obtain ⟨t, e1, e2⟩ := z; exact ⟨t, e1, sg _ _ e2⟩) walk_rng0 nD (fun _ _ => trivial) (by rw [List.length_range]; omega) ?_ ?_
      · rintro j fg x H' hj rfl s' ⟨acc, hacc⟩ Q0 Q1 q0 q1
        have hfp : fg < p := List.mem_range.mp (List.mem_of_getElem? hj)
        walk_at "go"
        refine ⟨rfl, w_yes ?_⟩
        rw [if_pos rfl]
        walk_at "go"
        refine w_dget2 ?_
        walk_at "go"
        refine ⟨.inl ⟨toK (chI cs), .inl (s' _ _ hd1)⟩, ?_⟩
        walk_at "go"
        refine ⟨_, DGet.k (k := .inl (fg : Int)) (s' _ _ hd1), ?_⟩
        rw [look_get, show (if (fg : Int) ∈ (chI cs).map (·.1) then look (chI cs) (fg : Int) else (rest : Int)) = (chG cs rest fg : Nat) from chI_get]
        walk_at "go"
        refine al fun t H2 n2 s2 k2 => ?_
        exact q1 _ _ s2 rfl ⟨t, rfl, rm_of (fun e => by rw [e, hacc] at n2; cases n2) k2⟩
      · intro H2 ys s2 k2 hys
        rw [filter_yes] at hys
        obtain ⟨as, rfl, has⟩ := paired_unref hys
        have has2 : Paired (Tp H2) (chI ((List.range p).map fun f => (f, chG cs rest f))) as := by
          rw [chI_map]
          refine paired_map2 (f := fun f : Nat => ((f : Int), (chG cs rest f : Int))) (g := id) (fun a b e => e) has |> fun z => by rw [List.map_id] at z; exact z
        have nd2 : ((chI ((List.range p).map fun f => (f, chG cs rest f))).map (·.1)).Nodup := by
          rw [chI_keys, List.map_map, List.map_map]
          refine List.pairwise_map.mpr ((List.nodup_range (n := p)).imp fun {a b} hne e => hne ?_)
          have e : (a : Int) = (b : Int) := e
          omega
        walk_at "go"
        refine ⟨D, as, toK (chI ((List.range p).map fun f => (f, chG cs rest f))), rfl, sq k2, toK_tp30 has2, fun dn nd => ?_⟩
        rw [show mergeK [] (toK (chI ((List.range p).map fun f => (f, chG cs rest f)))) = toK (chI ((List.range p).map fun f => (f, chG cs rest f))) from mergeK_toK _ [] nd2]
        walk_at "go"
        have ek : ((List.range p).map fun f => (f, chG cs rest f)).map (·.1) = List.range p := by
          rw [List.map_map]
          exact List.map_id' _
        refine n0 _ _ ⟨dn, (List.range p).map fun f => (f, chG cs rest f), _, _, rfl, (s1.trans s2).trans (Same.new nd), L2.upd_same, ⟨by rw [ek]; exact List.nodup_range, fun f hf => by rw [ek] at hf; exact List.mem_range.mp hf⟩, fun f hf => ?_, fun f hf _ => by rw [ek]; exact List.mem_range.mpr hf⟩
        rw [ek] at hf
        exact chG_in (by rw [ek]; exact List.nodup_range) (List.mem_map.mpr ⟨f, hf, rfl⟩)
    · intro hc1 N0 n0
      have e0 : rest = chG cs rest f0 := by
        have hc2 : V.int (rest : Int) = V.int (chG cs rest f0 : Nat) := by simpa using hc1
        have := V.int.inj hc2
        omega
      walk_at "go"
      refine n0 _ _ ⟨d, cs, _, _, rfl, s1, hd1, hc, fun f _ => rfl, fun f hf hn => ?_⟩
      refine Classical.byContradiction fun z => hn ?_
      rw [chG_out z]
      exact e0
    rintro σ H2 ⟨de, cs', v6, v7, rfl, s2, hde, ⟨nd', lt'⟩, hg', hall⟩
    walk_at "go"
    refine ⟨de, .dK (toK (chI cs')), hde, trivial, fun od => ?_⟩
    have fm : L2.upd H2 de (.frz od (.dK (toK (chI cs')))) de = some (.frz od (.dK (toK (chI cs')))) := L2.upd_same
    have hun := fun {H5 : Hp} (s : Same (L2.upd H2 de (.frz od (.dK (toK (chI cs'))))) H5) => same_unlock hde s
    generalize L2.upd H2 de (.frz od (.dK (toK (chI cs')))) = HF at fm hun ⊢
    have hkl : (cs'.map (·.1)).length ≤ p := by
      have := nd_sub30 nd' (m := List.range p) fun x hx => List.mem_range.mpr (lt' x hx)
      rwa [List.length_range] at this
    have hval : ∀ f : Nat, f ∈ cs'.map (·.1) → look (chI cs') (f : Int) = (chG cs rest f : Nat) := fun f hf => by rw [chI_look rest hf, hg' f hf]
    walk_at "go"
    refine ⟨_, rfl, de, od, rfl, .inl ⟨toK (chI cs'), fm, ?_⟩⟩
    intro D nD
    have nDe : D ≠ de := new_ne fm nD
    refine lc30 (α := Nat) (cs'.map (·.1)) (((chI cs').map (·.1)).map V.int) (fun f v => v = .int (f : Int)) (by rw [chI_keys, List.map_map]; exact paired_self _ _) (fun f => decide (chG cs rest f ≠ chG cs rest f0)) (fun f v _ => v = .int (f : Int)) (fun _ _ _ _ _ z => z) walk_es nD (fun H' s => s _ _ fm) (by omega) ?_ ?_
    · rintro j fg x H' hj rfl s' hacc Q0 Q1 q0 q1
      have hfm : fg ∈ cs'.map (·.1) := List.mem_of_getElem? hj
      walk_at "go"
      refine ⟨rfl, ?_⟩
      walk_at "go"
      refine w_dget ?_
      walk_at "go"
      refine ⟨de, _, rfl, .inl ⟨toK (chI cs'), .inl (fg : Int), .inr ⟨od, s' _ _ fm⟩, rfl, (look_get' (by rw [chI_keys]; exact List.mem_map_of_mem hfm)).symm⟩, ?_⟩
      rw [hval fg hfm]
      walk_at "go"
      by_cases hc2 : chG cs rest fg = chG cs rest f0
      · have hq := q0 _ (Same.refl _) (by rw [hc2]; simp)
        rw [hc2, decide_eq_true rfl]
        exact iteF hq
      · have hne : V.int (chG cs rest fg : Nat) ≠ V.int (chG cs rest f0 : Nat) := fun z => hc2 (by have := V.int.inj z; omega)
        rw [decide_eq_false hne]
        refine iteT ?_
        walk_at "go"
        exact q1 _ _ (Same.refl _) (by simpa using hc2) rfl
    · intro H5 ys s5 k5 hys
      have ey := paired_fun hys
      refine ⟨s5 _ _ fm, ?_⟩
      have s6 := hun s5
      have k6 : L2.upd H5 de (.dK (toK (chI cs'))) D = some (.lst ys) := by rw [L2.upd_ne nDe]; exact k5
      generalize L2.upd H5 de (.dK (toK (chI cs'))) = H6 at s6 k6 ⊢
      have e6 : ys = (((cs'.map (·.1)).filter fun f => decide (chG cs rest f ≠ chG cs rest f0)).map fun f : Nat => (f : Int)).map V.int := by
        rw [ey, List.map_map]
        rfl
      rw [e6] at k6
      walk_at "go"
      refine ⟨D, _, rfl, sq k6, fun qs lp pm so np => ?_⟩
      obtain ⟨S, rfl, pS, soS⟩ := sorted_nat pm so (nd'.filter _)
      have eS : S = (List.range p).filter fun f => decide (chG cs rest f ≠ chG cs rest f0) := by
        refine asc_uniq soS (List.pairwise_lt_range.filter _) fun x => ?_
        rw [pS.mem_iff, List.mem_filter, List.mem_filter, List.mem_range]
        constructor
        · rintro ⟨z1, z2⟩
          exact ⟨lt' x z1, z2⟩
        · rintro ⟨z1, z2⟩
          exact ⟨hall x z1 (of_decide_eq_true z2), z2⟩
      have el : (S.map fun f : Nat => (f : Int)).map V.int = S.map fun f : Nat => V.int (f : Int) := by
        rw [List.map_map]
        rfl
      rw [el]
      have s7 : Same H6 (L2.upd H6 lp (.lst (S.map fun f : Nat => V.int (f : Int)))) := Same.new np
      have k7 : L2.upd H6 lp (.lst (S.map fun f : Nat => V.int (f : Int))) lp = some (.lst (S.map fun f : Nat => V.int (f : Int))) := L2.upd_same
      generalize L2.upd H6 lp (.lst (S.map fun f : Nat => V.int (f : Int))) = H7 at s7 k7 ⊢
      have S7 : Same H H7 := s2.trans (s6.trans s7)
      walk_at "go"
      refine al fun e0 H8 n8 s8 k8 => ?_
      walk_at "go"
      refine w_eq30 (sq (s8 _ _ k7)) (sq k8) ?_
      have hSl : S.length ≤ p := by
        rw [eS]
        exact Nat.le_trans (List.length_filter_le _ _) (by rw [List.length_range]; exact Nat.le_refl _)
      by_cases hS : S = []
      · subst hS
        refine ⟨_, rfl, iteT ?_⟩
        walk_at "go"
        refine q.1 (fun f hf => ?_) H8 (S7.trans s8)
        refine Classical.byContradiction fun z => ?_
        have : f ∈ ([] : List Nat) := by
          rw [eS]
          exact List.mem_filter.mpr ⟨List.mem_range.mpr hf, decide_eq_true z⟩
        cases this
      · have hSe : (S.map fun f : Nat => V.int (f : Int)).isEmpty = false := by
          cases S with
          | nil => exact absurd rfl hS
          | cons x S => rfl
        rw [hSe]
        refine ⟨_, rfl, iteF ?_⟩
        have hde8 : H8 de = some (.dK (toK (chI cs'))) := s8 _ _ (s7 _ _ (s6 _ _ hde))
        walk_at "go"
        intro D2 nD2
        refine lc30 S (S.map fun f : Nat => V.int (f : Int)) (fun f v => v = .int (f : Int)) (paired_self _ _) (fun _ => true) (fun f v G => ∃ t, v = .ref t ∧ G t = some (.tup [.int (f : Int), .int (chG cs rest f : Nat)])) (fun x y G G' sg z => by obtain ⟨t, e1, e2⟩ := z; exact ⟨t, e1, sg _ _ e2⟩) walk_list nD2 (fun H' s => sq (s _ _ (s8 _ _ k7))) (by omega) ?_ ?_
        · rintro j fg x H' hj rfl s' ⟨acc, hacc⟩ Q0 Q1 q0 q1
          have hfS : fg ∈ S := List.mem_of_getElem? hj
          have hfm : fg ∈ cs'.map (·.1) := (List.mem_filter.mp (pS.mem_iff.mp hfS)).1
          walk_at "go"
          refine ⟨rfl, w_yes ?_⟩
          rw [if_pos rfl]
          walk_at "go"
          refine w_dget ?_
          walk_at "go"
          refine ⟨de, _, rfl, .inl ⟨toK (chI cs'), .inl (fg : Int), .inl (s' _ _ hde8), rfl, (look_get' (by rw [chI_keys]; exact List.mem_map_of_mem hfm)).symm⟩, ?_⟩
          rw [hval fg hfm]
          walk_at "go"
          refine al fun t HA nA sA kA => ?_
          exact q1 _ _ sA rfl ⟨t, rfl, rm_of (fun e => by rw [e, hacc] at nA; cases nA) kA⟩
        · intro H9 zs s9 k9 hzs
          rw [filter_yes] at hzs
          obtain ⟨as, rfl, has⟩ := paired_unref hzs
          have hx : Paired (ExE H9) (excOf p (chG cs rest) (chG cs rest f0)) as := by
            unfold excOf
            rw [← eS]
            have := paired_map2 (f := fun f : Nat => (f, chG cs rest f)) (g := id) (S := ExE H9) (fun a b e => e) has
            rwa [List.map_id] at this
          walk_at "go"
          refine w_tupL (sq k9) (al fun et HB nB sB kB => ?_)
          walk_at "go"
          refine al fun t HC nC sC kC => ?_
          obtain ⟨f1, hf1⟩ := List.exists_mem_of_ne_nil S hS
          rw [eS, List.mem_filter] at hf1
          refine q.2 ⟨f1, List.mem_range.mp hf1.1, of_decide_eq_true hf1.2⟩ HC t ((S7.trans (s8.trans (s9.trans sB))).free nC) (S7.trans (s8.trans (s9.trans (sB.trans sC)))) ⟨et, as, kC, sC _ _ kB, paired_imp (fun _ _ z => sC _ _ (sB _ _ z)) hx⟩
noncomputable abbrev s_rowat : Stmt := (top 35)
theorem sc_rowat : FnScope ["prime", "place", "one", "other", "pair", "numbers", "children", "rest", "figure", "below", "beside"] ["prime", "place", "one", "other", "pair", "numbers"] (defScope s_rowat) :=
  ⟨rfl, rfl, rfl, by decide +kernel, rfl, by decide +kernel, by decide +kernel⟩
theorem ok_rowat {tN : Tok} (F : Dn K mg "row_at" s_rowat ["prime", "place", "one", "other", "pair", "numbers"]) (T : Bt mg) (zNONE : mg "NONE" = some (.int 0 tN)) (c_pairsbelow : Cal P w K mg base 2 "pairs_below" spPairsBelow []) (c_maderow : Cal P w K mg base 2 "made_row" spMadeRow []) : Cal P w K mg base 3 "row_at" spRowAtP [] := by
  refine F.cal sc_rowat (fun vs H Q E h => ?_) (fun f cdv A outer s H vs Q E hr h => ?_)
  · obtain ⟨p, a, b, t, dn, one, two, h, k, ks, nf, rfl, _⟩ := h
    rfl
  · obtain ⟨p, a, b, t, dn, one, two, h, k, ks, nf, rfl, h1, h2, ht, hh, hk, hc, x1, x2, hd, hv, p0, p1, hp, q⟩ := h
    have hsz : (100000 : Nat) < sizeLine := by decide
    refine ⟨_, (pss_cons (ps_set (i := 6) sc_rowat.nd rfl (Or.inl rfl) pe_dnewK)
      (pss_cons (ps_set (i := 7) sc_rowat.nd rfl (Or.inl rfl) (pe_glob (v := .int 0) (by rfl) zNONE ⟨_, rfl⟩))
      (pss_cons (ps_for PassesOwn.never rfl (pi_list (pe_c c_pairsbelow hr (by decide) (by rfl) (pa_cons (pv 2) (pa_cons (pv 3) (pa_cons (pe_ix ix_tup (pv 4) pe_int (fun _ _ => rfl)) (pa_cons (pe_ix ix_tup (pv 4) pe_int (fun _ _ => rfl)) pa_nil)))))) (pg_tup rfl (pgs_cons (pg_name (i := 8) sc_rowat.nd rfl (Or.inl rfl)) (pgs_cons (pg_name (i := 9) sc_rowat.nd rfl (Or.inl rfl)) (pgs_cons (pg_name (i := 10) sc_rowat.nd rfl (Or.inl rfl)) pgs_nil)))) (pss_one (ps_if (pt_cmpR op_isN1 (pv 8) pe_non (nomark _)) (pss_one (ps_set (i := 7) sc_rowat.nd rfl (Or.inl rfl) (pe_dget (u66 hr) (pv 5) (pe_tup (pa_cons (pv 9) (pa_cons (pv 10) pa_nil))) (fun _ _ => rfl)))) (pss_one (ps_asg (pe_dget (u66 hr) (pv 5) (pe_tup (pa_cons (pv 9) (pa_cons (pv 10) pa_nil))) (fun _ _ => rfl)) (pg_sub (pv 6) (pv 8) (set_dict (u66 hr))))))))
      (pss_one (ps_ret (pe_c c_maderow hr (by decide) (by rfl) (pa_cons (pv 0) (pa_cons (pv 1) (pa_cons (pv 6) (pa_cons (pv 7) pa_nil)))))))))), ?_⟩
    walk_at "go"
    refine al fun dc H1 n1 s1 k1 => ?_
    walk_at "go"
    have ht1 := s1 _ _ ht
    walk_at "go"
    refine ⟨a, b, one, two, h, k, rfl, h1.same s1, h2.same s1, hh, hk, x1, x2, fun H2 l n2 s2 hL => ?_⟩
    obtain ⟨ts, hL1, hL2⟩ := hL
    have hne : ∀ y o, H y = some o → y ≠ dc := fun y o e => (new_ne e n1).symm
    have hd2 : H2 dn = some (.dT (pdm ks)) := s2 _ _ (s1 _ _ hd)
    have ndc : dn ≠ dc := hne _ _ hd
    have k2 := s2 _ _ k1
    have nl : l ≠ dc := new_ne k1 n2
    have hL3 : Paired (PbE (rm dc H2)) (pbOf one two h k) ts := paired_imp (fun _ _ z => rm_of (fun e => by rw [e, k2] at z; cases z) z) hL2
    have hL4 := hL3.length
    have hpl : (pbOf one two h k).length ≤ 5000 := by
      unfold pbOf
      rw [if_neg hc, List.length_map, List.length_cons, List.length_map, List.length_append]
      have y1 := figsAt_len x1 (i := plMin one two h k) hh
      have y2 := figsAt_len x2 (i := plMin one two h k) hk
      omega
    walk_at "go"
    refine for_list (K := K) (a := l) (xs := ts.map V.ref) (fun j σ H' => ∃ (cs : List (Nat × Nat)) (rest : Nat) (v8 v9 v10 : Option V), σ = [some (.int (p : Int)), some (.int (plMin one two h k : Nat)), some (.ref a), some (.ref b), some (.ref t), some (.ref dn), some (.ref dc), some (.int (rest : Int)), v8, v9, v10] ∧ Same (rm dc H2) (rm dc H') ∧ H' dc = some (.dK (toK (chI cs))) ∧ RA one two h k nf j cs rest ∧ cs.length ≤ j) ⟨[], 0, _, _, _, rfl, Same.refl _, k2, .nil, Nat.le_refl _⟩
      (fun j σ H' _ z => by obtain ⟨_, _, _, _, _, _, z, _⟩ := z; exact sq (rm_le _ _ (z _ _ (rm_of nl hL1)))) ?_ ?_
    · rintro j y σ H3 hj ⟨cs, rest, v8, v9, v10, rfl, s3, k3, R, lc⟩
      obtain ⟨tp, htp, rfl⟩ := get_map hj
      obtain ⟨x, hx, hxt⟩ := paired_get hL3 htp
      have hxm := List.mem_of_getElem? hx
      have hjl : j < (pbOf one two h k).length := (List.getElem?_eq_some_iff.mp hx).1
      have hd3 : H3 dn = some (.dT (pdm ks)) := rm_le _ _ (s3 _ _ (rm_of ndc hd2))
      have hget : ∀ {H' : Hp} {tq : Addr}, Same H3 H' → H' tq = some (.tup [.int (x.2.1 : Int), .int (x.2.2 : Int)]) → DGet H' dn (.ref tq) (some (.int (nf x.2 : Nat))) := fun s e => by
        have := DGet.t (k := pkN x.2) (s _ _ hd3) (by rw [pkN_val]; exact e)
        rw [pdm_val, hv x hxm] at this
        exact this
      refine w_gtup (sqt (rm_le _ _ (s3 _ _ hxt))) rfl ?_
      cases hxf : x.1 with
      | none =>
        walk_at "go"
        rw [decide_eq_true (show fgV none = V.non from rfl)]
        refine iteT ?_
        walk_at "go"
        refine w_dget ?_
        walk_at "go"
        refine al fun tq H4 n4 s4 k4 => ?_
        refine ⟨dn, _, rfl, hget s4 k4, ?_⟩
        walk_at "go"
        exact ⟨cs, nf x.2, _, _, _, rfl, s3.trans s4.rm, s4 _ _ k3, R.none hx hxf, by omega⟩
      | some fg =>
        walk_at "go"
        rw [decide_eq_false (show ¬ fgV (some fg) = V.non from fun z => by cases z)]
        refine iteF ?_
        walk_at "go"
        refine w_dget ?_
        walk_at "go"
        refine al fun tq H4 n4 s4 k4 => ?_
        refine ⟨dn, _, rfl, hget s4 k4, ?_⟩
        have k3' := s4 _ _ k3
        walk_at "go"
        refine w_set30 ⟨dc, _, rfl, DPut.k (k := .inl (fg : Int)) k3' (by unfold toK; rw [List.length_map]; unfold chI; rw [List.length_map]; omega), ?_⟩
        rw [putK_toK, chI_put]
        walk_at "go"
        exact ⟨putN cs fg (nf x.2), rest, _, _, _, rfl, by rw [rm_updS]; exact s3.trans s4.rm, L2.upd_same, R.some hc hx hxf, Nat.le_trans len_putN (by omega)⟩
    · rintro σ H3 ⟨cs, rest, v8, v9, v10, rfl, s3, k3, R, lc⟩
      rw [List.length_map, ← hL4] at R
      obtain ⟨hch, hg⟩ := R.done hc hp
      have S3 : Same H H3 := fun y o e => rm_le _ _ (s3 _ _ (rm_of (hne y o e) (s2 _ _ (s1 _ _ e))))
      walk_at "go"
      exact ⟨p, plMin one two h k, rest, dc, cs, rfl, k3, hch, p0, p1, (q.same S3).congr fun f _ => (hg f).symm⟩
noncomputable abbrev s_settled : Stmt := (top 37)
theorem sc_settled : FnScope ["rows", "root", "numbers", "made", "waiting", "place", "rest", "exceptions", "left", "figure", "below", "row", "some"] ["rows", "root"] (defScope s_settled) :=
  ⟨rfl, rfl, rfl, by decide +kernel, rfl, by decide +kernel, by decide +kernel⟩
theorem ok_settled {tN tE : Tok} (F : Dn K mg "settled" s_settled ["rows", "root"]) (T : Bt mg) (zNONE : mg "NONE" = some (.int 0 tN)) (zEVERY : mg "EVERY" = some (.int 1 tE)) : Cal P w K mg base 1 "settled" spSettled [] := by
  refine F.cal sc_settled (fun vs H Q E h => ?_) (fun f cdv A outer s H vs Q E hr h => ?_)
  · obtain ⟨m, P, a, t, r, rfl, _⟩ := h
    rfl
  · obtain ⟨m, P, a, t, r, rfl, ht, hc, hr0, hl, hx, q⟩ := h
    have hsz : (300000 : Nat) < sizeLine := by decide
    have hl2 := hc.wf.len
    refine ⟨_, (pss_cons (ps_set (i := 2) sc_settled.nd rfl (Or.inr rfl) (pe_disp (pps_cons (pe_glob (v := .int 0) (by rfl) zNONE ⟨_, rfl⟩) (pe_glob (v := .int 0) (by rfl) zNONE ⟨_, rfl⟩) (pps_cons (pe_glob (v := .int 1) (by rfl) zEVERY ⟨_, rfl⟩) (pe_glob (v := .int 1) (by rfl) zEVERY ⟨_, rfl⟩) pps_nil)) rfl rfl (by simp) (by decide)))
      (pss_cons (ps_set (i := 3) sc_settled.nd rfl (Or.inl rfl) (pe_lst (pa_cons (pe_ix ix_list (pv 0) (pe_glob (v := .int 0) (by rfl) zNONE ⟨_, rfl⟩) (fun _ _ => rfl)) (pa_cons (pe_ix ix_list (pv 0) (pe_glob (v := .int 1) (by rfl) zEVERY ⟨_, rfl⟩) (fun _ _ => rfl)) pa_nil))))
      (pss_cons (ps_set (i := 4) sc_settled.nd rfl (Or.inl rfl) (pe_lst (pa_cons (pv 1) pa_nil)))
      (pss_cons (ps_while PassesOwn.never (pt_cmpR (op_ne30 hr.units) (pv 4) (pe_lst pa_nil) (nomark _)) (pss_cons (ps_asg (pe_ix ix_list (pv 0) (pe_ix ix_list (pv 4) (pe_un un_neg pe_int) (fun _ _ => rfl)) (fun _ _ => rfl)) (pg_tup rfl (pgs_cons (pg_name (i := 5) sc_settled.nd rfl (Or.inl rfl)) (pgs_cons (pg_name (i := 6) sc_settled.nd rfl (Or.inl rfl)) (pgs_cons (pg_name (i := 7) sc_settled.nd rfl (Or.inl rfl)) pgs_nil)))))
      (pss_cons (ps_setLc (i := 8) (own := [("figure", 9), ("below", 10)]) (g := gTup _ 2 (gCons (gName 9) (gCons (gName 10) gNil))) (tt := (tTest (tOp rNotInT (tVar 10) (tVar 2)))) (te := (tVar 10)) rfl sc_settled.nd rfl rfl (sw_true rfl rfl rfl (by decide +kernel)) (pi_tup (pv 7)) (blkOk_by (own := [("figure", 9), ("below", 10)]) (N := ["rows", "root", "numbers", "made", "waiting", "place", "rest", "exceptions", "left", "figure", "below", "row", "some"]) (sc := defScope s_settled) (by decide +kernel)) (fun _ _ _ _ _ => (pg_tup rfl (pgs_cons (pg_name (i := 9) sc_settled.nd rfl (Or.inl rfl)) (pgs_cons (pg_name (i := 10) sc_settled.nd rfl (Or.inl rfl)) pgs_nil)))) (fun _ _ _ _ _ => (pts_one (pt_cmpR (op_notInT hr.units) (pv 10) (pv 2) (by rfl)))) (fun _ _ _ _ _ => (pv 10)))
      (pss_cons (ps_if (PW.pt (pw_and (pt_cmpR (op_eq30 hr.units) (pv 8) (pe_lst pa_nil) (nomark _)) (pw_and1 (pt_cmpR (op_notInT hr.units) (pv 6) (pv 2) (by rfl))))) (pss_one (ps_set (i := 8) sc_settled.nd rfl (Or.inl rfl) (pe_lst (pa_cons (pv 6) pa_nil)))) pss_nil)
      (pss_one (ps_if (pt_cmpR (op_ne30 hr.units) (pv 8) (pe_lst pa_nil) (nomark _)) (pss_one (ps_expr (pe_bm PySem.F.plainAttrs_list PySem.F.slot_list_append PySem.F.type_list_append mt_append (pv 4) (pa_cons (pe_ix ix_list (pv 8) pe_int (fun _ _ => rfl)) pa_nil)))) (pss_cons (ps_set (i := 11) sc_settled.nd rfl (Or.inl rfl) (pe_bm0 PySem.F.plainAttrs_list PySem.F.slot_list_pop PySem.F.type_list_pop mt_pop (pv 4)))
      (pss_one (ps_if (pt_cmpR (op_notInT hr.units) (pv 11) (pv 2) (by rfl)) (pss_cons (ps_asg (pe_callB cLen (by rfl) T.len (by decide +kernel) (pa_cons (pv 3) pa_nil)) (pg_sub (pv 2) (pv 11) (set_dict (u66 hr))))
      (pss_cons (ps_setLc (i := 12) (own := [("figure", 9), ("below", 10)]) (g := gTup _ 2 (gCons (gName 9) (gCons (gName 10) gNil))) (tt := tYes) (te := (tTup (tCons (tVar 9) (tCons (tDGet (tVar 2) (tVar 10)) tNil)))) rfl sc_settled.nd rfl rfl (sw_true rfl rfl rfl (by decide +kernel)) (pi_tup (pv 7)) (blkOk_by (own := [("figure", 9), ("below", 10)]) (N := ["rows", "root", "numbers", "made", "waiting", "place", "rest", "exceptions", "left", "figure", "below", "row", "some"]) (sc := defScope s_settled) (by decide +kernel)) (fun _ _ _ _ _ => (pg_tup rfl (pgs_cons (pg_name (i := 9) sc_settled.nd rfl (Or.inl rfl)) (pgs_cons (pg_name (i := 10) sc_settled.nd rfl (Or.inl rfl)) pgs_nil)))) (fun _ _ _ _ _ => pts_nil) (fun _ _ _ _ _ => (pe_tup (pa_cons (pv 9) (pa_cons (pe_dget (u66 hr) (pv 2) (pv 10) (fun _ _ => rfl)) pa_nil)))))
      (pss_one (ps_expr (pe_bm PySem.F.plainAttrs_list PySem.F.slot_list_append PySem.F.type_list_append mt_append (pv 3) (pa_cons (pe_tup (pa_cons (pv 5) (pa_cons (pe_dget (u66 hr) (pv 2) (pv 6) (fun _ _ => rfl)) (pa_cons (pe_callTy cTupF30 (by rfl) T.tuple (by decide +kernel) (pa_cons (pv 12) pa_nil)) pa_nil)))) pa_nil)))))) pss_nil)))))))))
      (pss_one (ps_ret (pe_tup (pa_cons (pe_callTy cTupOf (by rfl) T.tuple (by decide +kernel) (pa_cons (pv 3) pa_nil)) (pa_cons (pe_dget (u66 hr) (pv 2) (pv 1) (fun _ _ => rfl)) pa_nil))))))))), ?_⟩
    walk_at "go"
    intro dn n1
    refine ⟨L2.upd_same, [(.inl 0, .int 0), (.inl 1, .int 1)], rfl, by decide, ?_⟩
    have e1 : mergeK [] [((.inl 0 : Key), V.int 0), (.inl 1, .int 1)] = toK (chI [(0, 0), (1, 1)]) := rfl
    rw [e1, L2.upd_upd]
    have s1 : Same H (L2.upd H dn (.dK (toK (chI [(0, 0), (1, 1)])))) := Same.new n1
    have k1 : L2.upd H dn (.dK (toK (chI [(0, 0), (1, 1)]))) dn = some (.dK (toK (chI [(0, 0), (1, 1)]))) := L2.upd_same
    generalize L2.upd H dn (.dK (toK (chI [(0, 0), (1, 1)]))) = H1 at s1 k1 ⊢
    obtain ⟨ts, q0, e0, es0, g1, g2, g3, g4, g5⟩ := (ht.same s1).row (r := 0) (by omega)
    obtain ⟨ts', q1, e1', es1, f1, f2, f3, f4, f5⟩ := (ht.same s1).row (r := 1) (by omega)
    walk_at "go"
    refine w_ixL (sq g1) (at_idx30 (n := 0) (x := .ref q0) (by rw [List.getElem?_map, g2]; rfl) rfl) ?_
    walk_at "go"
    refine w_ixL (sq f1) (at_idx30 (n := 1) (x := .ref q1) (by rw [List.getElem?_map, f2]; rfl) rfl) ?_
    walk_at "go"
    refine al fun ma H2 n2 s2 k2 => ?_
    walk_at "go"
    refine al fun wa H3 n3 s3 k3 => ?_
    walk_at "go"
    have n3' : wa ≠ dn := (new_ne (s2 _ _ k1) n3)
    have n3'' : wa ≠ ma := new_ne k2 n3
    have n2' : ma ≠ dn := new_ne k1 n2
    have hne : ∀ y o, H y = some o → y ≠ dn ∧ y ≠ ma ∧ y ≠ wa := fun y o e => ⟨(new_ne e n1).symm, (new_ne (s1 _ _ e) n2).symm, (new_ne (s2 _ _ (s1 _ _ e)) n3).symm⟩
    have S0 : SH H dn ma wa (startS t r) H3 := by
      have k2' := s3 _ _ k2
      have k1' := s3 _ _ (s2 _ _ k1)
      have tup : ∀ {tq : Addr} {xs : List V}, H1 tq = some (.tup xs) → rm3 dn ma wa H3 tq = some (.tup xs) := fun {tq xs} h => by
        have h' := s3 _ _ (s2 _ _ h)
        refine rm3_of (fun z => ?_) (fun z => ?_) (fun z => ?_) h' <;> rw [z] at h'
        · rw [k1'] at h'; cases h'
        · rw [k2'] at h'; cases h'
        · rw [k3] at h'; cases h'
      refine ⟨rm3_new hne fun y o e => s3 _ _ (s2 _ _ (s1 _ _ e)), k1', ⟨[q0, q1], k2', ?_⟩, k3⟩
      have z0 : es0 = [] := by
        rw [hc.wf.none] at g5
        cases g5
        rfl
      have z1 : es1 = [] := by
        rw [hc.wf.all] at f5
        cases f5
        rfl
      exact .cons ⟨e0, es0, tup g3, .inr ⟨z0, by have := tup g4; rw [z0] at this; exact this⟩, paired_imp (fun _ _ z => tup z) g5⟩ (.cons ⟨e1', es1, tup f3, .inr ⟨z1, by have := tup f4; rw [z1] at this; exact this⟩, paired_imp (fun _ _ z => tup z) f5⟩ .nil)
    refine while_m (fun μ σ H' => ∃ (s : SS) (keys : List Nat) (k : Nat) (v5 v6 v7 v8 v9 v10 v11 v12 : Option V), σ = [some (.ref a), some (.int (r : Int)), some (.ref dn), some (.ref ma), some (.ref wa), v5, v6, v7, v8, v9, v10, v11, v12] ∧ SH H dn ma wa s H' ∧ Inv30 t r s keys ∧ s = runS t k (startS t r) ∧ μ = mu30 t keys s.wait) _ ⟨startS t r, [0, 1], 0, _, _, _, _, _, _, _, _, rfl, S0, Inv30.start hc hr0, rfl, rfl⟩ ?_
    rintro μ σ H4 ⟨s, keys, k, v5, v6, v7, v8, v9, v10, v11, v12, rfl, S, I, hk, rfl⟩
    have hkl : keys.length ≤ t.length := by
      have := nd_sub30 I.nd (m := List.range t.length) fun x hx => List.mem_range.mpr (I.lt x hx)
      rwa [List.length_range] at this
    have hwl : s.wait.length ≤ t.length := by
      have := nd_sub30 (I.wt.imp fun {a b} h => Nat.ne_of_lt h) (m := List.range t.length) fun x hx => List.mem_range.mpr (I.wl x hx)
      rwa [List.length_range] at this
    have hS := S.wa
    walk_at "go"
    refine al fun z0 H5 n5 s5 k5 => ?_
    walk_at "go"
    refine w_ne30 (sq (s5 _ _ hS)) (sq k5) ?_
    have S5 := S.same s5
    cases hw : s.wait with
    | nil =>
      refine ⟨_, rfl, iteF ?_⟩
      have hroot : ∃ n, getN s.num r = some n := by
        rcases I.root with z | z
        · obtain ⟨j, hj⟩ := List.mem_iff_getElem?.mp z
          exact ⟨j, by rw [I.num]; exact (getN_zip I.nd).mpr hj⟩
        · rw [hw] at z; cases z
      obtain ⟨n, hn⟩ := hroot
      obtain ⟨tm, m1, m2⟩ := S5.ma
      have hnu := S5.nu
      walk_at "go"
      refine w_tupL (sq m1) (al fun ta H6 n6 s6 k6 => ?_)
      walk_at "go"
      refine w_dget ?_
      walk_at "go"
      refine ⟨dn, _, rfl, .inl ⟨toK (chI s.num), .inl (r : Int), .inl (s6 _ _ hnu), rfl, (getN_look hn).symm⟩, ?_⟩
      walk_at "go"
      refine al fun tq H7 n7 s7 k7 => ?_
      have S57 : Same H5 H7 := s6.trans s7
      have hS5 : Same H H5 := S5.sm.trans rm3_le
      refine q H7 tq ta s.made n (hS5.free (s6.free n7)) (hS5.trans S57) ⟨k, by rw [← hk]; exact hw, by rw [← hk], by rw [← hk]; exact hn⟩ k7 ⟨tm, s7 _ _ k6, paired_imp (fun _ _ z => z.same (rm3_le.trans S57)) m2⟩
    | cons x xs =>
      have he : (((x :: xs).reverse.map fun r : Nat => V.int (r : Int)).isEmpty) = false := by simp
      rw [he]
      refine ⟨_, rfl, iteT ?_⟩
      have hxl : x < t.length := I.wl x (by rw [hw]; exact List.mem_cons_self)
      have hw5 : H5 wa = some (.lst ((xs.reverse.map fun r : Nat => V.int (r : Int)) ++ [V.int (x : Int)])) := by
        have := S5.wa
        rw [hw, List.reverse_cons, List.map_append] at this
        exact this
      obtain ⟨tr, qx, ex, esx, b1, b2, b3, b4, b5⟩ := (ht.same (S5.sm.trans rm3_le)).row (r := x) hxl
      have hxf := hx x hxl
      walk_at "go"
      refine w_ixL (sq hw5) (atI_last _ _) ?_
      walk_at "go"
      refine w_ixL (sq b1) (at_idx30 (n := x) (x := .ref qx) (by rw [List.getElem?_map, b2]; rfl) rfl) ?_
      refine w_gtup (sqt b3) rfl ?_
      have hnu := S5.nu
      walk_at "go"
      intro D nD
      refine lc30 (rowAt t x).2.2 (esx.map V.ref) _ (paired_ref b5) (fun e => (getN s.num e.2).isNone) (fun e v _ => v = .int (e.2 : Int)) (fun _ _ _ _ _ z => z) walk_tup nD (fun H' s' => sqt (s' _ _ b4)) (by omega) ?_ ?_
      · rintro j e y H' hj ⟨tp, rfl, hp⟩ s' hacc Q0 Q1 q0 q1
        refine w_gtup (sqt (s' _ _ hp)) rfl ?_
        walk_at "go"
        refine ⟨rfl, ?_⟩
        walk_at "go"
        refine w_notin30 (DGet.k (k := .inl (e.2 : Int)) (s' _ _ hnu)) ?_
        rw [getN_isNone]
        cases hc2 : (getN s.num e.2).isNone with
        | true =>
          refine ⟨_, rfl, iteT ?_⟩
          walk_at "go"
          exact q1 _ _ (Same.refl _) hc2 rfl
        | false =>
          exact ⟨_, rfl, iteF (q0 _ (Same.refl _) hc2)⟩
      intro H6 ys s6 k6 hys
      have ey := paired_fun hys
      rw [ey] at k6
      have S6 := S5.same s6
      have hS6 : Same H H6 := S6.sm.trans rm3_le
      have hnu6 := S6.nu
      have stp := I.step hc hw
      obtain ⟨keys', I', hmu⟩ := stp
      rw [hw] at hmu
      have hrun : stepS t x xs s = runS t (k + 1) (startS t r) := (runS_succ hk.symm hw).symm
      have fin : ∀ {σ' : L2.St} {H' : Hp} (v5 v6 v7 v8 v9 v10 v11 v12 : Option V), σ' = [some (.ref a), some (.int (r : Int)), some (.ref dn), some (.ref ma), some (.ref wa), v5, v6, v7, v8, v9, v10, v11, v12] → SH H dn ma wa (stepS t x xs s) H' → ∃ m', m' < mu30 t keys (x :: xs) ∧ ∃ (s : SS) (keys : List Nat) (k : Nat) (v5 v6 v7 v8 v9 v10 v11 v12 : Option V), σ' = [some (.ref a), some (.int (r : Int)), some (.ref dn), some (.ref ma), some (.ref wa), v5, v6, v7, v8, v9, v10, v11, v12] ∧ SH H dn ma wa s H' ∧ Inv30 t r s keys ∧ s = runS t k (startS t r) ∧ m' = mu30 t keys s.wait := fun v5 v6 v7 v8 v9 v10 v11 v12 e S => ⟨_, hmu, stepS t x xs s, keys', k + 1, v5, v6, v7, v8, v9, v10, v11, v12, e, S, I', hrun, rfl⟩
      have push : ∀ {H' : Hp} {b : Nat}, Same H6 H' → leftOf (rowAt t x) s.num = some b → SH H dn ma wa (stepS t x xs s) (L2.upd H' wa (.lst (((xs.reverse.map fun r : Nat => V.int (r : Int)) ++ [.int (x : Int)]) ++ [.int (b : Int)]))) := fun {H' b} s' hb => by
        obtain ⟨c1, c2, ⟨tm, c3, c4⟩, c5⟩ := S6.same s'
        have e : ∀ o, rm3 dn ma wa (L2.upd H' wa o) = rm3 dn ma wa H' := fun o => rm3_upd (.inr (.inr rfl))
        have es : stepS t x xs s = ⟨b :: x :: xs, s.num, s.made⟩ := by unfold stepS; rw [hb]
        rw [es]
        refine ⟨by rw [e]; exact c1, by rw [L2.upd_ne n3'.symm]; exact c2, ⟨tm, by rw [L2.upd_ne n3''.symm]; exact c3, by rw [e]; exact c4⟩, ?_⟩
        rw [L2.upd_same]
        simp
      have hwa6 : ∀ {H' : Hp}, Same H6 H' → H' wa = some (.lst ((xs.reverse.map fun r : Nat => V.int (r : Int)) ++ [V.int (x : Int)])) := fun s' => s' _ _ (s6 _ _ hw5)
      have hxsl : ((xs.reverse.map fun r : Nat => V.int (r : Int)) ++ [V.int (x : Int)]).length < sizeLine := by
        rw [hw] at hwl
        rw [List.length_append, List.length_map, List.length_reverse]
        simp only [List.length_cons, List.length_nil] at hwl ⊢
        omega
      walk_at "go"
      refine al fun z1 H7 n7 s7 k7 => ?_
      walk_at "go"
      refine w_eq30 (sq (s7 _ _ k6)) (sq k7) ?_
      cases hf : (rowAt t x).2.2.filter (fun e => (getN s.num e.2).isNone) with
      | cons e l =>
        rw [hf] at k6
        have hl := leftOf_cons hf
        refine ⟨_, rfl, iteF (iteF ?_)⟩
        walk_at "go"
        refine al fun z2 H8 n8 s8 k8 => ?_
        walk_at "go"
        refine w_ne30 (sq (s8 _ _ (s7 _ _ k6))) (sq k8) ?_
        refine ⟨_, rfl, iteT ?_⟩
        have S8 := s7.trans s8
        have hwa8 := hwa6 S8
        have hl8 := S8 _ _ k6
        walk_at "go"
        refine w_ixL (sq hl8) (at_idx30 (n := 0) (x := .int (e.2 : Int)) rfl rfl) ?_
        walk_at "go"
        refine w_append hwa8 hxsl ?_
        walk_at "go"
        exact fin _ _ _ _ _ _ _ _ rfl (push S8 hl)
      | nil =>
        rw [hf] at k6
        have hl := leftOf_nil hf
        refine ⟨_, rfl, iteT ?_⟩
        walk_at "go"
        refine w_notin30 (DGet.k (k := .inl ((rowAt t x).2.1 : Int)) (s7 _ _ hnu6)) ?_
        rw [getN_isNone]
        cases hrn : (getN s.num (rowAt t x).2.1).isNone with
        | true =>
          rw [hrn, if_pos rfl] at hl
          refine ⟨_, rfl, iteT ?_⟩
          walk_at "go"
          refine al fun lf H8 n8 s8 k8 => ?_
          walk_at "go"
          refine al fun z2 H9 n9 s9 k9 => ?_
          walk_at "go"
          refine w_ne30 (sq (s9 _ _ k8)) (sq k9) ?_
          refine ⟨_, rfl, iteT ?_⟩
          have S9 := s7.trans (s8.trans s9)
          have hwa8 := hwa6 S9
          have hl8 := s9 _ _ k8
          walk_at "go"
          refine w_append hwa8 hxsl ?_
          walk_at "go"
          exact fin _ _ _ _ _ _ _ _ rfl (push S9 hl)
        | false =>
          rw [hrn, if_neg (by decide)] at hl
          refine ⟨_, rfl, iteF ?_⟩
          walk_at "go"
          refine al fun z2 H8 n8 s8 k8 => ?_
          walk_at "go"
          refine w_ne30 (sq (s8 _ _ (s7 _ _ k6))) (sq k8) ?_
          refine ⟨_, rfl, iteF ?_⟩
          have S8 := s7.trans s8
          have hwa8 := hwa6 S8
          walk_at "go"
          refine w_pop30 hwa8 ?_
          have SA : SH H dn ma wa ⟨xs, s.num, s.made⟩ (L2.upd H8 wa (.lst (xs.reverse.map fun r : Nat => V.int (r : Int)))) := by
            obtain ⟨c1, c2, ⟨tm, c3, c4⟩, c5⟩ := S6.same S8
            have e : ∀ o, rm3 dn ma wa (L2.upd H8 wa o) = rm3 dn ma wa H8 := fun o => rm3_upd (.inr (.inr rfl))
            exact ⟨by rw [e]; exact c1, by rw [L2.upd_ne n3'.symm]; exact c2, ⟨tm, by rw [L2.upd_ne n3''.symm]; exact c3, by rw [e]; exact c4⟩, L2.upd_same⟩
          have bA : Same (rm3 dn ma wa H8) (L2.upd H8 wa (.lst (xs.reverse.map fun r : Nat => V.int (r : Int)))) := fun y o e => by
            rw [L2.upd_ne (fun z => by rw [z] at e; unfold rm3 at e; rw [if_pos (.inr (.inr rfl))] at e; cases e)]
            exact rm3_le _ _ e
          have b4' : rm3 dn ma wa H8 ex = some (.tup (esx.map V.ref)) := (S6.same S8).tup (S8 _ _ (s6 _ _ b4))
          have b5' : Paired (ExE (rm3 dn ma wa H8)) (rowAt t x).2.2 esx := paired_imp (fun _ _ z => (S6.same S8).tup (S8 _ _ (s6 _ _ z))) b5
          have b4A := bA _ _ b4'
          have b5A := paired_imp (fun _ _ z => bA _ _ z) b5'
          generalize L2.upd H8 wa (.lst (xs.reverse.map fun r : Nat => V.int (r : Int))) = HA at SA b4A b5A ⊢
          have hnuA := SA.nu
          walk_at "go"
          refine w_notin30 (DGet.k (k := .inl (x : Int)) hnuA) ?_
          rw [getN_isNone]
          obtain ⟨o1, o2⟩ := leftOf_none (w := rowAt t x) (n := s.num) hl
          cases hxn : (getN s.num x).isNone with
          | false =>
            refine ⟨_, rfl, iteF ?_⟩
            walk_at "go"
            refine fin _ _ _ _ _ _ _ _ rfl ?_
            have es : stepS t x xs s = ⟨xs, s.num, s.made⟩ := by unfold stepS; rw [hl, hxn]; rfl
            rw [es]
            exact SA
          | true =>
            refine ⟨_, rfl, iteT ?_⟩
            obtain ⟨tm, c3, c4⟩ := SA.ma
            have hml := c4.length
            have hmk : s.made.length = keys.length := I.len
            walk_at "go"
            refine w_set30 ⟨dn, _, rfl, DPut.k (k := .inl (x : Int)) hnuA (by unfold toK chI; rw [List.length_map, List.length_map, I.num, List.length_zipIdx]; omega), ?_⟩
            rw [List.length_map, ← hml, putK_toK, chI_put, putN_new hxn]
            have SB : SH H dn ma wa ⟨xs, s.num ++ [(x, s.made.length)], s.made⟩ (L2.upd HA dn (.dK (toK (chI (s.num ++ [(x, s.made.length)]))))) := by
              obtain ⟨d1, d2, ⟨tm', d3, d4⟩, d5⟩ := SA
              have e : ∀ o, rm3 dn ma wa (L2.upd HA dn o) = rm3 dn ma wa HA := fun o => rm3_upd (.inl rfl)
              exact ⟨by rw [e]; exact d1, L2.upd_same, ⟨tm', by rw [L2.upd_ne n2']; exact d3, by rw [e]; exact d4⟩, by rw [L2.upd_ne n3']; exact d5⟩
            have b4B : L2.upd HA dn (.dK (toK (chI (s.num ++ [(x, s.made.length)])))) ex = some (.tup (esx.map V.ref)) := by
              rw [L2.upd_ne (fun z => by rw [z, hnuA] at b4A; cases b4A)]
              exact b4A
            have b5B : Paired (ExE (L2.upd HA dn (.dK (toK (chI (s.num ++ [(x, s.made.length)])))))) (rowAt t x).2.2 esx := paired_imp (fun y _ z => by
              show L2.upd HA dn _ _ = _
              rw [L2.upd_ne (fun e => by have z : HA _ = some (.tup [.int (y.1 : Int), .int (y.2 : Int)]) := z; rw [e, hnuA] at z; cases z)]
              exact z) b5A
            generalize L2.upd HA dn (.dK (toK (chI (s.num ++ [(x, s.made.length)])))) = HB at SB b4B b5B ⊢
            have hnuB := SB.nu
            walk_at "go"
            intro D2 nD2
            refine lc30 (rowAt t x).2.2 (esx.map V.ref) _ (paired_ref b5B) (fun _ => true) (fun e v G => ∃ t, v = .ref t ∧ ExE G (e.1, (getN s.num e.2).getD 0) t) (fun x y G G' sg z => by obtain ⟨t, e1, e2⟩ := z; exact ⟨t, e1, sg _ _ e2⟩) walk_tup nD2 (fun H' s' => sqt (s' _ _ b4B)) (by omega) ?_ ?_
            · rintro j e y H' hj ⟨tp, rfl, hp⟩ s' ⟨acc, hacc⟩ Q0 Q1 q0 q1
              obtain ⟨jj, hjj⟩ := o2 e (List.mem_of_getElem? hj)
              refine w_gtup (sqt (s' _ _ hp)) rfl ?_
              walk_at "go"
              refine ⟨rfl, w_yes ?_⟩
              rw [if_pos rfl]
              walk_at "go"
              refine w_dget ?_
              walk_at "go"
              refine ⟨dn, _, rfl, .inl ⟨_, .inl (e.2 : Int), .inl (s' _ _ hnuB), rfl, (getN_look (getN_app hjj)).symm⟩, ?_⟩
              walk_at "go"
              refine al fun tq H2' n2' s2' k2' => ?_
              refine q1 _ _ s2' rfl ⟨tq, rfl, ?_⟩
              show rm _ _ _ = some (.tup [.int (e.1 : Int), .int (((getN s.num e.2).getD 0 : Nat) : Int)])
              rw [hjj]
              exact rm_of (fun z => by rw [z, hacc] at n2'; cases n2') k2'
            intro HC zs sC kC hzs
            rw [filter_yes] at hzs
            obtain ⟨as, rfl, has⟩ := paired_unref hzs
            obtain ⟨jr, hjr⟩ := o1
            have SC := SB.same sC
            have hnuC := SC.nu
            obtain ⟨tmC, hmaC, hmaC2⟩ := SC.ma
            walk_at "go"
            refine w_dget ?_
            walk_at "go"
            refine ⟨dn, _, rfl, .inl ⟨_, .inl ((rowAt t x).2.1 : Int), .inl hnuC, rfl, (getN_look (getN_app hjr)).symm⟩, ?_⟩
            walk_at "go"
            refine w_tupF30 (sq kC) fun et oet nD' dict0 => ?_
            have sD : Same HC (L2.upd HC et (.frz oet (.tup (as.map V.ref)))) := Same.new nD'
            have kD : L2.upd HC et (.frz oet (.tup (as.map V.ref))) et = some (.frz oet (.tup (as.map V.ref))) := L2.upd_same
            generalize L2.upd HC et (.frz oet (.tup (as.map V.ref))) = HD at sD kD ⊢
            walk_at "go"
            refine al fun rt HE nE sE kE => ?_
            walk_at "go"
            have SE := SC.same (sD.trans sE)
            obtain ⟨e1, e2, ⟨tm3, e3, e4⟩, e5⟩ := SE
            refine w_append e3 (by rw [List.length_map, ← e4.length]; show s.made.length < sizeLine; omega) ?_
            walk_at "go"
            refine fin _ _ _ _ _ _ _ _ rfl ?_
            have es : stepS t x xs s = ⟨xs, s.num ++ [(x, s.made.length)], s.made ++ [outRow (rowAt t x) s.num]⟩ := by unfold stepS; rw [hl, hxn]; rfl
            rw [es]
            have e : ∀ o, rm3 dn ma wa (L2.upd HE ma o) = rm3 dn ma wa HE := fun o => rm3_upd (.inr (.inl rfl))
            have SE := SC.same (sD.trans sE)
            refine ⟨by rw [e]; exact e1, by rw [L2.upd_ne n2'.symm]; exact e2, ⟨tm3 ++ [rt], by rw [L2.upd_same, List.map_append]; rfl, ?_⟩, by rw [L2.upd_ne n3'']; exact e5⟩
            rw [e]
            refine paired_app e4 (.cons ⟨et, as, ?_, .inl ⟨oet, dict0, SE.frz (sE _ _ kD)⟩, ?_⟩ .nil)
            · refine SE.tup ?_
              show HE rt = some (.tup [.int ((rowAt t x).1 : Int), .int (((getN s.num (rowAt t x).2.1).getD 0 : Nat) : Int), .ref et])
              rw [hjr]
              exact kE
            · have := paired_map2 (f := fun e : Nat × Nat => (e.1, (getN s.num e.2).getD 0)) (g := id) (S := ExE (rm3 dn ma wa HE)) (fun a b z => SE.tup (sE _ _ (sD _ _ z))) has
              rwa [List.map_id] at this
noncomputable abbrev s_classrows : Stmt := (top 38)
theorem sc_classrows : FnScope ["figures", "rest", "wide", "rows", "row", "place", "prime", "weight", "made"] ["figures", "rest", "wide"] (defScope s_classrows) :=
  ⟨rfl, rfl, rfl, by decide +kernel, rfl, by decide +kernel, by decide +kernel⟩
theorem ok_classrows {tN tE : Tok} (F : Dn K mg "class_rows" s_classrows ["figures", "rest", "wide"]) (T : Bt mg) (zNONE : mg "NONE" = some (.int 0 tN)) (zEVERY : mg "EVERY" = some (.int 1 tE)) (zreversed : mg "reversed" = none) (zdict : mg "dict" = none) (c_maderow : Cal P w K mg base 2 "made_row" spMadeRow []) (c_settled : Cal P w K mg base 1 "settled" spSettled []) : Cal P w K mg base 3 "class_rows" spClassRows [] := by
  refine F.cal sc_classrows (fun vs H Q E h => ?_) (fun f cdv A outer s H vs Q E hr h => ?_)
  · obtain ⟨fa, G, rest, wide, rfl, _⟩ := h
    rfl
  · obtain ⟨fa, G, rest, wide, rfl, ⟨ts, h1, h2⟩, hg, q⟩ := h
    have hl := h2.length
    have hgl := hg.len
    refine ⟨_, (pss_cons (ps_set (i := 3) sc_classrows.nd rfl (Or.inl rfl) (pe_lst (pa_cons (pe_tup (pa_cons (pe_callB cLen (by rfl) T.len (by decide +kernel) (pa_cons (pv 0) pa_nil)) (pa_cons (pe_glob (v := .int 0) (by rfl) zNONE ⟨_, rfl⟩) (pa_cons (pe_tup pa_nil) pa_nil)))) (pa_cons (pe_tup (pa_cons (pe_callB cLen (by rfl) T.len (by decide +kernel) (pa_cons (pv 0) pa_nil)) (pa_cons (pe_glob (v := .int 1) (by rfl) zEVERY ⟨_, rfl⟩) (pa_cons (pe_tup pa_nil) pa_nil)))) pa_nil))))
      (pss_cons (ps_set (i := 4) sc_classrows.nd rfl (Or.inl rfl) (pe_glob (v := .int 1) (by rfl) zEVERY ⟨_, rfl⟩))
      (pss_cons (ps_for PassesOwn.never rfl (pi_revR (by rfl) zreversed (prg_1 (by rfl) T.range (pe_callB cLen (by rfl) T.len (by decide +kernel) (pa_cons (pv 0) pa_nil)))) (pg_name (i := 5) sc_classrows.nd rfl (Or.inl rfl)) (pss_cons (ps_asg (pe_ix ix_list (pv 0) (pv 5) (fun _ _ => rfl)) (pg_tup rfl (pgs_cons (pg_name (i := 6) sc_classrows.nd rfl (Or.inl rfl)) (pgs_cons (pg_name (i := 7) sc_classrows.nd rfl (Or.inl rfl)) pgs_nil))))
      (pss_one (ps_if (pt_cmpR op_eq (pe_op op_mod (pv 2) (pe_op oMul (pv 7) (pv 6))) pe_int (nomark _)) (pss_cons (ps_set (i := 8) sc_classrows.nd rfl (Or.inl rfl) (pe_c c_maderow hr (by decide) (by rfl) (pa_cons (pv 6) (pa_cons (pv 5) (pa_cons (pe_callTy (call_dictP rfl) (by rfl) zdict (by decide +kernel) (pa_cons (pe_lst (pa_cons (pe_tup (pa_cons (pe_op op_mod (pe_callTy cInt1 (by rfl) T.int (by decide +kernel) (pa_cons (pe_op op_fdivW (pv 1) (pv 7)) pa_nil)) (pv 6)) (pa_cons (pv 4) pa_nil))) pa_nil)) pa_nil)) (pa_cons (pe_glob (v := .int 0) (by rfl) zNONE ⟨_, rfl⟩) pa_nil))))))
      (pss_cons (ps_set (i := 4) sc_classrows.nd rfl (Or.inl rfl) (pe_callB cLen (by rfl) T.len (by decide +kernel) (pa_cons (pv 3) pa_nil)))
      (pss_one (ps_expr (pe_bm PySem.F.plainAttrs_list PySem.F.slot_list_append PySem.F.type_list_append mt_append (pv 3) (pa_cons (pv 8) pa_nil)))))) pss_nil))))
      (pss_one (ps_ret (pe_c c_settled hr (by decide) (by rfl) (pa_cons (pv 3) (pa_cons (pv 4) pa_nil)))))))), ?_⟩
    walk_at "go"
    refine al fun e1 H1 n1 s1 k1 => ?_
    walk_at "go"
    refine al fun q1 H2 n2 s2 k2 => ?_
    walk_at "go"
    refine al fun e2 H3 n3 s3 k3 => ?_
    walk_at "go"
    refine al fun q2 H4 n4 s4 k4 => ?_
    walk_at "go"
    refine al fun rl H5 n5 s5 k5 => ?_
    rw [List.length_map, ← hl] at k2 k4
    have S14 := s1.trans (s2.trans (s3.trans s4))
    have S15 := S14.trans s5
    have nrl := S14.free n5
    have G0 : GrowL H rl [(G.length, 0, []), (G.length, 1, [])] H5 := by
      have h : TabL H5 rl [(G.length, 0, []), (G.length, 1, [])] := ⟨[q1, q2], k5, .cons ⟨e1, [], s5 _ _ (s4 _ _ (s3 _ _ k2)), s5 _ _ (s4 _ _ (s3 _ _ (s2 _ _ k1))), .nil⟩ (.cons ⟨e2, [], s5 _ _ k4, s5 _ _ (s4 _ _ k3), .nil⟩ .nil)⟩
      obtain ⟨us, u1, u2⟩ := h
      exact ⟨S15.rm, us, u1, paired_imp (fun _ _ z => z.rm k5) u2⟩
    walk_at "go"
    refine w_iRev30 ?_
    walk_at "go"
    rw [List.length_map, ← hl]
    refine ⟨by omega, by omega, by omega, by omega, ?_⟩
    rw [show ((G.length : Int) - 0).toNat = G.length by omega, show (0 : Int) + (G.length : Int) - 1 = (G.length : Int) - 1 by omega]
    refine for_it walk_rangeC (fun j σ H' => ∃ (t : Tab) (row : Nat) (v5 v6 v7 v8 : Option V), σ = [some (.ref fa), some (.int rest), some (.int wide), some (.ref rl), some (.int (row : Int)), v5, v6, v7, v8] ∧ GrowL H rl t H' ∧ Cls G.length (pF G) t row (G.length - j) (dig G rest) (onW G wide) ∧ t.length ≤ j + 2) ⟨_, 1, none, none, none, none, rfl, G0, Cls.start, Nat.le_refl _⟩ (fun i σ H' _ h => trivial) ?_ ?_
    · rintro j y σ H6 H6' hj ⟨t, row, v5, v6, v7, v8, rfl, GR, C, lt⟩ ⟨rfl, hy⟩
      have S6 : Same H H6' := fun b o e => rm_le _ _ (GR.sm _ _ (rm_of (fun z => by rw [z, nrl] at e; cases e) e))
      have hi : G.length - 1 - j < G.length := by omega
      obtain ⟨i, hii⟩ : ∃ i, i = G.length - 1 - j := ⟨_, rfl⟩
      have hij : (G.length : Int) - 1 + ((j : Nat) : Int) * -1 = (i : Int) := by omega
      have hsub : G.length - j = i + 1 := by omega
      have hsub2 : G.length - (j + 1) = i := by omega
      rw [hsub] at C
      have hx : G[i]? = some G[i] := List.getElem?_eq_getElem (by omega)
      obtain ⟨tq, htq, htt⟩ := paired_getL h2 hx
      obtain ⟨g1, g2, g3, g4⟩ := hg.e _ (List.mem_of_getElem? hx)
      have hdg := dig_at (b := rest) hx
      have hpf := pF_at hx
      have hon : onW G wide i = decide (wide % ((G[i].2 : Int) * (G[i].1 : Int)) = 0) := by unfold onW; rw [hx]
      generalize G[i] = ee at *
      have htt : H tq = some (.tup [.int (ee.1 : Int), .int (ee.2 : Int)]) := htt
      have d1 : CDivW rest (ee.2 : Int) := wdiv (b := 1000) (by omega) (by rw [Int.natAbs_natCast]; exact g4) (by decide)
      have d2 : CDivW (rest / (ee.2 : Int)) (ee.1 : Int) := wdiv60 (by omega) (by omega)
      have hmul : CMx (ee.2 : Int) (ee.1 : Int) := mx_r (by omega)
      have hmp : (0 : Int) < (ee.2 : Int) * (ee.1 : Int) := Int.mul_pos (by omega) (by omega)
      have d3 : CDivW wide ((ee.2 : Int) * (ee.1 : Int)) := wdiv (b := 1010) hmp (by
        rw [Int.natAbs_mul, Int.natAbs_natCast, Int.natAbs_natCast]
        calc ee.2 * ee.1 < 2 ^ 1000 * 2 ^ 10 := Nat.mul_lt_mul_of_lt_of_le g4 (by omega) (by decide)
          _ = 2 ^ 1010 := (Nat.pow_add 2 1000 10).symm) (by decide)
      have hy : y = .int (i : Int) := by
        rw [hy]
        exact congrArg V.int hij
      subst hy
      have htt6 := S6 _ _ htt
      have h16 := S6 _ _ h1
      walk_at "go"
      refine w_ixL (sq h16) (atI_map (x := tq) (by omega) (by rw [Int.toNat_natCast]; exact htq)) ?_
      refine w_gtup (sqt htt6) rfl ?_
      walk_at "go"
      rw [decI]
      refine ite_d (fun hc => ?_) (fun hc => ?_)
      · have e0 := Int.emod_nonneg (rest / (ee.2 : Int)) (show ((ee.1 : Nat) : Int) ≠ 0 by omega)
        have efg : rest / (ee.2 : Int) % (ee.1 : Int) = (dig G rest i : Nat) := by rw [hdg, Int.toNat_of_nonneg e0]
        have hci : dig G rest i < pF G i := by
          have := Int.emod_lt_of_pos (rest / (ee.2 : Int)) (show (0 : Int) < (ee.1 : Int) by omega)
          omega
        walk_at "go"
        refine al fun t1 H7 n7 s7 k7 => ?_
        rw [efg] at k7
        walk_at "go"
        refine al fun l1 H8 n8 s8 k8 => ?_
        walk_at "go"
        have ek : mergeK [] (toK (chI [(dig G rest i, row)])) = toK (chI [(dig G rest i, row)]) := rfl
        refine ⟨l1, [t1], toK (chI [(dig G rest i, row)]), rfl, sq k8, .cons (sqt (s8 _ _ k7)) .nil, fun dd nd => ?_⟩
        rw [ek]
        have s9 : Same H8 (L2.upd H8 dd (.dK (toK (chI [(dig G rest i, row)])))) := Same.new nd
        have k9 : L2.upd H8 dd (.dK (toK (chI [(dig G rest i, row)]))) dd = some (.dK (toK (chI [(dig G rest i, row)]))) := L2.upd_same
        generalize L2.upd H8 dd (.dK (toK (chI [(dig G rest i, row)]))) = H9 at s9 k9 ⊢
        have s69 : Same H6' H9 := s7.trans (s8.trans s9)
        walk_at "go"
        have hci2 : dig G rest i < ee.1 := by rw [← hpf]; exact hci
        refine ⟨ee.1, i, 0, dd, [(dig G rest i, row)], rfl, k9, ⟨by simp, fun f hf => by simp only [List.map_cons, List.map_nil, List.mem_singleton] at hf; rw [hf]; exact hci2⟩, by omega, g2, fun f0 hu => ?_⟩
        rw [chG_one] at hu
        have CS := C.step (by rw [hon]; exact decide_eq_true hc) (by omega) hci (by omega) (by rw [hpf]; exact hu)
        refine ⟨fun hall => ?_, fun _ H' tr nt s' hr => ?_⟩
        · exfalso
          have h0 := hall 0 (by omega)
          have h1 := hall 1 (by omega)
          have h2 := hall (dig G rest i) hci2
          rw [chG_one] at h0 h1 h2
          have h2' : row = if f0 = dig G rest i then row else 0 := by
            have : (if dig G rest i = dig G rest i then row else 0) = if f0 = dig G rest i then row else 0 := h2
            rwa [if_pos rfl] at this
          have h0' : (if 0 = dig G rest i then row else 0) = if f0 = dig G rest i then row else 0 := h0
          have h1' : (if 1 = dig G rest i then row else 0) = if f0 = dig G rest i then row else 0 := h1
          have hne := C.ne
          by_cases z : dig G rest i = 0
          · rw [if_neg (by omega)] at h1'
            omega
          · rw [if_neg (by omega)] at h0'
            omega
        · rw [chG_one] at hr
          have GR' := GR.same (s69.trans s')
          obtain ⟨us, hus, hus2⟩ := GR'.li
          have hul := hus2.length
          have hsz : (100000 : Nat) < sizeLine := by decide
          walk_at "go"
          refine w_append hus (by rw [List.length_map, ← hul]; omega) ?_
          walk_at "go"
          rw [List.length_map, ← hul]
          refine ⟨_, t.length, _, _, _, _, rfl, ?_, by rw [hsub2]; exact CS, by rw [List.length_append, List.length_singleton]; omega⟩
          have := GR'.push hus hr
          unfold newRow
          rw [hpf]
          exact this
      · walk_at "go"
        exact ⟨t, row, _, _, _, _, rfl, GR, by rw [hsub2]; exact C.skip (by rw [hon]; exact decide_eq_false hc), by omega⟩
    · rintro σ H6 ⟨t, row, v5, v6, v7, v8, rfl, GR, C, lt⟩
      have S6 : Same H H6 := fun b o e => rm_le _ _ (GR.sm _ _ (rm_of (fun z => by rw [z, nrl] at e; cases e) e))
      rw [Nat.sub_self] at C
      walk_at "go"
      exact ⟨G.length, pF G, rl, t, row, rfl, GR.tab, C.can, C.lt, by omega, C.can.few hg.sml, fun H' qq ta u n nq s' St k1 k2 => q H' qq ta u n (S6.free nq) (S6.trans s') ⟨t, row, C, lt, St⟩ k1 k2⟩
noncomputable abbrev s_together : Stmt := (top 36)
theorem sc_together : FnScope ["figures", "one", "first", "other", "second", "table", "pairs", "rows", "known", "numbers", "place", "here", "there", "pair", "at", "made"] ["figures", "one", "first", "other", "second", "table"] (defScope s_together) :=
  ⟨rfl, rfl, rfl, by decide +kernel, rfl, by decide +kernel, by decide +kernel⟩
theorem ok_together {tN tE : Tok} (F : Dn K mg "together" s_together ["figures", "one", "first", "other", "second", "table"]) (T : Bt mg) (zNONE : mg "NONE" = some (.int 0 tN)) (zEVERY : mg "EVERY" = some (.int 1 tE)) (zreversed : mg "reversed" = none) (c_metpairs : Cal P w K mg base 3 "met_pairs" spMetPairs []) (c_rowat : Cal P w K mg base 3 "row_at" spRowAtP []) (c_settled : Cal P w K mg base 1 "settled" spSettled []) : Cal P w K mg base 4 "together" (spTogether K) [] := by
  refine F.cal sc_together (fun vs H Q E h => ?_) (fun f cdv A outer s H vs Q E hr h => ?_)
  · obtain ⟨fa, a, b, tb, G, one, two, h, k, N, op, rfl, _⟩ := h
    rfl
  · obtain ⟨fa, a, b, tb, G, one, two, h, k, N, op, rfl, ⟨ts, hf1, hf2⟩, hg, ha, hb, c1, c2, hh, hk, rb, hN, hT, q⟩ := h
    have hl := hf2.length
    have hgl := hg.len
    have few1 := c1.few hg.sml
    have few2 := c2.few hg.sml
    have hsz : (300000 : Nat) < sizeLine := by decide
    refine ⟨_, (pss_cons (ps_set (i := 6) sc_together.nd rfl (Or.inl rfl) (pe_c c_metpairs hr (by decide) (by rfl) (pa_cons (pv 1) (pa_cons (pv 2) (pa_cons (pv 3) (pa_cons (pv 4) pa_nil))))))
      (pss_cons (ps_set (i := 7) sc_together.nd rfl (Or.inl rfl) (pe_lst (pa_cons (pe_tup (pa_cons (pe_callB cLen (by rfl) T.len (by decide +kernel) (pa_cons (pv 0) pa_nil)) (pa_cons (pe_glob (v := .int 0) (by rfl) zNONE ⟨_, rfl⟩) (pa_cons (pe_tup pa_nil) pa_nil)))) (pa_cons (pe_tup (pa_cons (pe_callB cLen (by rfl) T.len (by decide +kernel) (pa_cons (pv 0) pa_nil)) (pa_cons (pe_glob (v := .int 1) (by rfl) zEVERY ⟨_, rfl⟩) (pa_cons (pe_tup pa_nil) pa_nil)))) pa_nil))))
      (pss_cons (ps_set (i := 8) sc_together.nd rfl (Or.inl rfl) pe_dnewN)
      (pss_cons (ps_set (i := 9) sc_together.nd rfl (Or.inl rfl) pe_dnewT)
      (pss_cons (ps_for PassesOwn.never rfl (pi_list (pv 6)) (pg_tup rfl (pgs_cons (pg_name (i := 10) sc_together.nd rfl (Or.inr rfl)) (pgs_cons (pg_name (i := 11) sc_together.nd rfl (Or.inl rfl)) (pgs_cons (pg_name (i := 12) sc_together.nd rfl (Or.inl rfl)) pgs_nil)))) (pss_one (ps_if (pt_cmpR op_eq (pv 10) (pe_callB cLen (by rfl) T.len (by decide +kernel) (pa_cons (pv 0) pa_nil)) (nomark _)) (pss_one (ps_asg (pe_ix ix_tup (pe_ix ix_tup (pv 5) (pv 11) (fun _ _ => rfl)) (pv 12) (fun _ _ => rfl)) (pg_sub (pv 9) (pe_tup (pa_cons (pv 11) (pa_cons (pv 12) pa_nil))) (set_dict (u66 hr))))) pss_nil)))
      (pss_cons (ps_for PassesOwn.never rfl (pi_revR (by rfl) zreversed (prg_1 (by rfl) T.range (pe_callB cLen (by rfl) T.len (by decide +kernel) (pa_cons (pv 0) pa_nil)))) (pg_name (i := 10) sc_together.nd rfl (Or.inr rfl)) (pss_one (ps_for PassesOwn.never rfl (pi_list (pe_lc (own := [("at", 14), ("here", 11), ("there", 12)]) (g := gTup _ 3 (gCons (gName 14) (gCons (gName 11) (gCons (gName 12) gNil)))) (tt := (tTest (tOp _ (tVar 14) (tVar 10)))) (te := (tTup (tCons (tVar 11) (tCons (tVar 12) tNil)))) rfl sc_together.nd (pi_list (pv 6)) (blkOk_by (own := [("at", 14), ("here", 11), ("there", 12)]) (N := ["figures", "one", "first", "other", "second", "table", "pairs", "rows", "known", "numbers", "place", "here", "there", "pair", "at", "made"]) (sc := defScope s_together) (by decide +kernel)) (fun _ _ _ _ _ => (pg_tup rfl (pgs_cons (pg_name (i := 14) sc_together.nd rfl (Or.inl rfl)) (pgs_cons (pg_name (i := 11) sc_together.nd rfl (Or.inl rfl)) (pgs_cons (pg_name (i := 12) sc_together.nd rfl (Or.inl rfl)) pgs_nil))))) (fun _ _ _ _ _ => (pts_one (pt_cmpR op_eq (pv 14) (pv 10) (nomark _)))) (fun _ _ _ _ _ => (pe_tup (pa_cons (pv 11) (pa_cons (pv 12) pa_nil)))))) (pg_name (i := 13) sc_together.nd rfl (Or.inl rfl)) (pss_cons (ps_set (i := 15) sc_together.nd rfl (Or.inl rfl) (pe_c c_rowat hr (by decide) (by rfl) (pa_cons (pe_ix ix_tup (pe_ix ix_list (pv 0) (pv 10) (fun _ _ => rfl)) pe_int (fun _ _ => rfl)) (pa_cons (pv 10) (pa_cons (pv 1) (pa_cons (pv 3) (pa_cons (pv 13) (pa_cons (pv 9) pa_nil))))))))
      (pss_cons (ps_if (pt_val (pe_callB call_isi (by rfl) T.isinstance (by decide +kernel) (pa_cons (pv 15) (pa_cons (pe_bltn (v := .ty "tuple") (by rfl) T.tuple (by decide +kernel) rfl) pa_nil)))) (pss_cons (ps_if (pt_cmpR (op_notInN hr.units) (pv 15) (pv 8) (by rfl)) (pss_cons (ps_asg (pe_callB cLen (by rfl) T.len (by decide +kernel) (pa_cons (pv 7) pa_nil)) (pg_sub (pv 8) (pv 15) (set_dictN hr.units)))
      (pss_one (ps_expr (pe_bm PySem.F.plainAttrs_list PySem.F.slot_list_append PySem.F.type_list_append mt_append (pv 7) (pa_cons (pv 15) pa_nil))))) pss_nil)
      (pss_one (ps_set (i := 15) sc_together.nd rfl (Or.inl rfl) (pe_dgetN hr.units (pv 8) (pv 15) (fun _ _ => rfl))))) pss_nil)
      (pss_one (ps_asg (pv 15) (pg_sub (pv 9) (pv 13) (set_dict (u66 hr))))))))))
      (pss_one (ps_ret (pe_c c_settled hr (by decide) (by rfl) (pa_cons (pv 7) (pa_cons (pe_dget (u66 hr) (pv 9) (pe_tup (pa_cons (pv 2) (pa_cons (pv 4) pa_nil))) (fun _ _ => rfl)) pa_nil))))))))))), ?_⟩
    walk_at "go"
    refine ⟨G.length, pF G, a, b, one, two, h, k, N, rfl, ha, hb, c1, c2, hh, hk, few1, few2, rb, hN, fun H0 pl L n0 s0 M hTL => ?_⟩
    obtain ⟨tp, hp1, hp2⟩ := hTL
    have hLl := rb L M.nd M.rc
    have hf10 := s0 _ _ hf1
    walk_at "go"
    refine al fun e1 H1 n1 s1 k1 => ?_
    walk_at "go"
    refine al fun q1 H2 n2 s2 k2 => ?_
    walk_at "go"
    refine al fun e2 H3 n3 s3 k3 => ?_
    walk_at "go"
    refine al fun q2 H4 n4 s4 k4 => ?_
    walk_at "go"
    refine al fun rl H5 n5 s5 k5 => ?_
    rw [List.length_map, ← hl] at k2 k4
    have S05 := s1.trans (s2.trans (s3.trans (s4.trans s5)))
    walk_at "go"
    refine w_dnewN30 fun kn H6 n6 s6 k6 => ?_
    have k6 : H6 kn = some (ndO P w kn []) := k6
    walk_at "go"
    refine w_dnewT30 (al fun nd H7 n7 s7 k7 => ?_)
    have S07 := S05.trans (s6.trans s7)
    have hne : ∀ y o, H0 y = some o → y ≠ rl ∧ y ≠ kn ∧ y ≠ nd := fun y o e => ⟨(new_ne e ((s1.trans (s2.trans (s3.trans s4))).free n5)).symm, (new_ne (S05 _ _ e) n6).symm, (new_ne (s6 _ _ (S05 _ _ e)) n7).symm⟩
    have nkr : kn ≠ rl := new_ne k5 n6
    have nnr : nd ≠ rl := new_ne (s6 _ _ k5) n7
    have nnk : nd ≠ kn := new_ne k6 n7
    have TH0 : TH P w H0 rl kn nd [(G.length, 0, []), (G.length, 1, [])] [] [] H7 := by
      have k5' := s7 _ _ (s6 _ _ k5)
      have k6' := s7 _ _ k6
      have tup : ∀ {tq : Addr} {xs : List V}, H7 tq = some (.tup xs) → rm3 rl kn nd H7 tq = some (.tup xs) := fun {tq xs} h => by
        refine rm3_of (fun z => ?_) (fun z => ?_) (fun z => ?_) h <;> rw [z] at h
        · rw [k5'] at h; cases h
        · rw [k6'] at h
          have e : HO.ext _ = HO.tup xs := Option.some.inj h
          cases e
        · rw [k7] at h; cases h
      have u : ∀ {tq : Addr} {o : HO}, H5 tq = some o → H7 tq = some o := fun h => s7 _ _ (s6 _ _ h)
      refine ⟨rm3_new hne S07, ⟨[q1, q2], k5', ?_⟩, k6', (fun x hx => by cases hx), k7⟩
      exact .cons ⟨e1, [], tup (u (s5 _ _ (s4 _ _ (s3 _ _ k2)))), tup (u (s5 _ _ (s4 _ _ (s3 _ _ (s2 _ _ k1))))), .nil⟩ (.cons ⟨e2, [], tup (u (s5 _ _ k4)), tup (u (s5 _ _ (s4 _ _ k3))), .nil⟩ .nil)
    clear s1 s2 s3 s4 s5 k1 k2 k3 k4 S05
    have hp7 : H7 pl = some (.lst (tp.map V.ref)) := S07 _ _ hp1
    have hp2' : Paired (fun (x : Nat × Nat) t => H0 t = some (.tup [.int (plMin one two x.1 x.2 : Nat), .int (x.1 : Int), .int (x.2 : Int)])) L tp := paired_mapL hp2
    have hpl := hp2'.length
    have sub0 : ∀ {T : Tab} {kvs : List NE} {NS : List ((Nat × Nat) × Nat)} {H' : Hp}, TH P w H0 rl kn nd T kvs NS H' → Same H0 H' := fun h => h.sm.trans rm3_le
    walk_at "go"
    refine for_list (K := K) (a := pl) (xs := tp.map V.ref) (fun j σ H' => ∃ (NS : List ((Nat × Nat) × Nat)) (v10 v11 v12 v13 v14 v15 : Option V), σ = [some (.ref fa), some (.ref a), some (.int (h : Int)), some (.ref b), some (.int (k : Int)), some (.ref tb), some (.ref pl), some (.ref rl), some (.ref kn), some (.ref nd), v10, v11, v12, v13, v14, v15] ∧ TH P w H0 rl kn nd [(G.length, 0, []), (G.length, 1, [])] [] NS H' ∧ TG G.length (pF G) one two op L (fun q => q ∈ L.take j ∧ plMin one two q.1 q.2 = G.length) [(G.length, 0, []), (G.length, 1, [])] NS) ⟨[], _, _, _, _, _, _, rfl, TH0, TG.nil.congr fun p _ => by rw [List.take_zero]; exact ⟨False.elim, fun z => by cases z.1⟩⟩
      (fun j σ H' _ z => by obtain ⟨_, _, _, _, _, _, _, _, z, _⟩ := z; exact sq (sub0 z _ _ hp1)) ?_ ?_
    · rintro j y σ H8 hj ⟨NS, v10, v11, v12, v13, v14, v15, rfl, TH8, TG8⟩
      obtain ⟨t, ht, rfl⟩ := get_map hj
      obtain ⟨p, hp, hpt⟩ := paired_get hp2' ht
      have hpm := List.mem_of_getElem? hp
      obtain ⟨tk1, tk2⟩ := take_new M.nd hp
      obtain ⟨l1, l2⟩ := (M.rc p hpm).lt c1 c2 hh hk
      obtain ⟨pt1, pt2⟩ := plMin_top c1 c2 l1 l2
      have hf18 := sub0 TH8 _ _ hf10
      refine w_gtup (sqt (sub0 TH8 _ _ hpt)) rfl ?_
      walk_at "go"
      rw [decI, List.length_map, ← hl]
      refine ite_d (fun hc => ?_) (fun hc => ?_)
      · have hc : plMin one two p.1 p.2 = G.length := by omega
        obtain ⟨lo1, lo2⟩ := pt2.mp hc
        obtain ⟨r0, r1, r, ys, n, t1, t2, t3, t4, t5, t6⟩ := hT.get lo1 lo2
        walk_at "go"
        refine w_ixT (t1 _) (at_idx30 (n := p.1) t2 rfl) ?_
        walk_at "go"
        refine w_ixT (t3 _) (at_idx30 (n := p.2) t4 rfl) ?_
        walk_at "go"
        refine al fun tq H9 n9 s9 k9 => ?_
        have TH9 := TH8.same s9
        obtain ⟨fw1, fw2⟩ := TG8.few hLl
        have pg : pget (pnm NS) p = none := pget_none.mpr (by rw [pnm_keys]; exact fun z => tk1 ((TG8.dn p).mp z).2.1)
        walk_at "go"
        refine w_set30 ⟨nd, _, rfl, DPut.t (k := pkN p) TH9.nu (by rw [pkN_val]; exact k9) (by unfold pdm pnm; rw [List.length_map, List.length_map]; omega), ?_⟩
        rw [pdm_put pg, show pnm NS ++ [(p, V.int (n : Int))] = pnm (NS ++ [(p, n)]) by unfold pnm; rw [List.map_append]; rfl]
        walk_at "go"
        refine ⟨NS ++ [(p, n)], _, _, _, _, _, _, rfl, TH9.putNu nnr nnk, ?_⟩
        have g := Tog.low (P := pF G) c1.wf c2.wf TG8.can.wf lo1 lo2 t5 t6
        refine (TG8.snoc hpm (fun z => tk1 z.1) TG8.can TG8.tg (Nat.le_succ _) g).congr fun q _ => ?_
        constructor
        · rintro (⟨z1, z2⟩ | z)
          · exact ⟨(tk2 q).mpr (.inl z1), z2⟩
          · exact ⟨(tk2 q).mpr (.inr z), by rw [z]; exact hc⟩
        · rintro ⟨z1, z2⟩
          exact ((tk2 q).mp z1).imp (fun z => ⟨z, z2⟩) id
      · walk_at "go"
        exact ⟨NS, _, _, _, _, _, _, rfl, TH8, TG8.congr fun q _ => ⟨fun ⟨z1, z2⟩ => ⟨(tk2 q).mpr (.inl z1), z2⟩, fun ⟨z1, z2⟩ => ⟨((tk2 q).mp z1).elim id fun z => absurd (by rw [← z, z2]) hc, z2⟩⟩⟩
    rintro σ H8 ⟨NS, v10, v11, v12, v13, v14, v15, rfl, TH8, TG8⟩
    rw [List.length_map, ← hpl, List.take_length] at TG8
    have hf18 := sub0 TH8 _ _ hf10
    walk_at "go"
    refine w_iRev30 ?_
    walk_at "go"
    rw [List.length_map, ← hl]
    refine ⟨by omega, by omega, by omega, by omega, ?_⟩
    rw [show ((G.length : Int) - 0).toNat = G.length by omega, show (0 : Int) + (G.length : Int) - 1 = (G.length : Int) - 1 by omega]
    refine for_it walk_rangeC (fun j σ H' => ∃ (T : Tab) (kvs : List NE) (NS : List ((Nat × Nat) × Nat)) (v10 v11 v12 v13 v14 v15 : Option V), σ = [some (.ref fa), some (.ref a), some (.int (h : Int)), some (.ref b), some (.int (k : Int)), some (.ref tb), some (.ref pl), some (.ref rl), some (.ref kn), some (.ref nd), v10, v11, v12, v13, v14, v15] ∧ TH P w H0 rl kn nd T kvs NS H' ∧ Kn30 T kvs ∧ TG G.length (pF G) one two op L (fun q => G.length - j ≤ plMin one two q.1 q.2) T NS) ⟨_, _, NS, _, _, _, _, _, _, rfl, TH8, Kn30.nil, TG8.congr fun q hq => by
        obtain ⟨l1, l2⟩ := (M.rc q hq).lt c1 c2 hh hk
        have := (plMin_top c1 c2 l1 l2).1
        rw [Nat.sub_zero]
        exact ⟨fun z => by rw [z.2]; exact Nat.le_refl _, fun z => ⟨hq, by omega⟩⟩⟩ (fun i σ H' _ h => trivial) ?_ ?_
    · rintro j y σ H9 H9' hj ⟨T1, kvs, NS, v10, v11, v12, v13, v14, v15, rfl, TH9, KN9, TG9⟩ ⟨rfl, hy⟩
      obtain ⟨i, hii⟩ : ∃ i, i = G.length - 1 - j := ⟨_, rfl⟩
      have hij : (G.length : Int) - 1 + ((j : Nat) : Int) * -1 = (i : Int) := by omega
      have hy : y = .int (i : Int) := by
        rw [hy]
        exact congrArg V.int hij
      subst hy
      have hiG : i < G.length := by omega
      have hx : G[i]? = some G[i] := List.getElem?_eq_getElem hiG
      obtain ⟨tq, htq, htt⟩ := paired_getL hf2 hx
      have hpf := pF_at hx
      obtain ⟨g1, g2, g3, g4⟩ := hg.e _ (List.mem_of_getElem? hx)
      generalize G[i] = ee at *
      have htt : H tq = some (.tup [.int (ee.1 : Int), .int (ee.2 : Int)]) := htt
      have hp9 := sub0 TH9 _ _ hp1
      walk_at "go"
      intro D nD
      refine lc30 L (tp.map V.ref) _ (paired_ref hp2') (fun x => decide (plMin one two x.1 x.2 = i)) (fun x v G => ∃ t, v = .ref t ∧ G t = some (.tup [.int (x.1 : Int), .int (x.2 : Int)])) (fun x y G G' sg z => by obtain ⟨t, e1, e2⟩ := z; exact ⟨t, e1, sg _ _ e2⟩) walk_list nD (fun H' s' => sq (s' _ _ hp9)) (by omega) ?_ ?_
      · rintro jj x v H' hjj ⟨t, rfl, ht⟩ s' ⟨acc, hacc⟩ Q0 Q1 q0 q1
        refine w_gtup (sqt (s' _ _ (sub0 TH9 _ _ ht))) rfl ?_
        walk_at "go"
        refine ⟨rfl, ?_⟩
        walk_at "go"
        rw [decI]
        by_cases hc : plMin one two x.1 x.2 = i
        · rw [decide_eq_true (show ((plMin one two x.1 x.2 : Nat) : Int) = (i : Int) by omega)]
          refine iteT ?_
          walk_at "go"
          refine al fun tz HZ nZ sZ kZ => ?_
          exact q1 _ _ sZ (decide_eq_true hc) ⟨tz, rfl, rm_of (fun e => by rw [e, hacc] at nZ; cases nZ) kZ⟩
        · rw [decide_eq_false (show ¬ ((plMin one two x.1 x.2 : Nat) : Int) = (i : Int) by omega)]
          exact iteF (q0 _ (Same.refl _) (decide_eq_false hc))
      intro HA ys sA kA hys
      obtain ⟨tl, rfl, htl⟩ := paired_unref hys
      have THA := TH9.same sA
      have nDn : D ≠ rl ∧ D ≠ kn ∧ D ≠ nd := ⟨(by obtain ⟨_, z, _⟩ := TH9.ro; exact new_ne z nD), new_ne TH9.kno nD, new_ne TH9.nu nD⟩
      have kA' : rm3 rl kn nd HA D = some (.lst (tl.map V.ref)) := rm3_of nDn.1 nDn.2.1 nDn.2.2 kA
      have htl' := paired_imp (fun _ _ z => THA.tup z) htl
      have ndF : (L.filter fun x => decide (plMin one two x.1 x.2 = i)).Nodup := M.nd.filter _
      have htll := htl'.length
      walk_at "go"
      refine for_list (K := K) (a := D) (xs := tl.map V.ref) (fun jj σ H' => ∃ (T : Tab) (kvs : List NE) (NS : List ((Nat × Nat) × Nat)) (v11 v12 v13 v14 v15 : Option V), σ = [some (.ref fa), some (.ref a), some (.int (h : Int)), some (.ref b), some (.int (k : Int)), some (.ref tb), some (.ref pl), some (.ref rl), some (.ref kn), some (.ref nd), some (.int (i : Int)), v11, v12, v13, v14, v15] ∧ TH P w H0 rl kn nd T kvs NS H' ∧ Kn30 T kvs ∧ TG G.length (pF G) one two op L (fun q => i < plMin one two q.1 q.2 ∨ q ∈ (L.filter fun x => decide (plMin one two x.1 x.2 = i)).take jj) T NS ∧ Same (rm3 rl kn nd HA) (rm3 rl kn nd H')) ⟨T1, kvs, NS, _, _, _, _, _, rfl, THA, KN9, TG9.congr fun q _ => by
          rw [List.take_zero]
          exact ⟨fun z => .inl (by omega), fun z => z.elim (fun z => by omega) fun z => by cases z⟩, Same.refl _⟩
        (fun jj σ H' _ z => by obtain ⟨_, _, _, _, _, _, _, _, _, _, _, _, z⟩ := z; exact sq (rm3_le _ _ (z _ _ kA'))) ?_ ?_
      · rintro jj y σ HB hjj ⟨T2, kvs2, NS2, v11, v12, v13, v14, v15, rfl, THB, KNB, TGB, sB⟩
        obtain ⟨t, ht, rfl⟩ := get_map hjj
        obtain ⟨p, hp, hpt⟩ := paired_get htl' ht
        have hpt' : HB t = some (.tup [.int (p.1 : Int), .int (p.2 : Int)]) := rm3_le _ _ (sB _ _ hpt)
        have hpF := List.mem_of_getElem? hp
        have hpm : p ∈ L := (List.mem_filter.mp hpF).1
        have hpi : plMin one two p.1 p.2 = i := of_decide_eq_true (List.mem_filter.mp hpF).2
        obtain ⟨tk1, tk2⟩ := take_new ndF hp
        obtain ⟨l1, l2⟩ := (M.rc p hpm).lt c1 c2 hh hk
        have hlow : ¬ (p.1 < 2 ∧ p.2 < 2) := fun z => by
          have := (plMin_top c1 c2 l1 l2).2.mpr z
          omega
        have nDp : ¬ (i < plMin one two p.1 p.2 ∨ p ∈ (L.filter fun x => decide (plMin one two x.1 x.2 = i)).take jj) := fun z => z.elim (fun z => by omega) tk1
        obtain ⟨hin, B⟩ := TGB.below c1 c2 M hh hk (fun q _ z => .inl z) hpm hpi hlow
        have hfB := sub0 THB _ _ hf10
        have httB := sub0 THB _ _ (s0 _ _ htt)
        have S0B : Same H HB := s0.trans (sub0 THB)
        obtain ⟨fw1, fw2⟩ := TGB.few hLl
        have pgn : pget (pnm NS2) p = none := pget_none.mpr (by rw [pnm_keys]; exact fun z => nDp ((TGB.dn p).mp z).2)
        -- the number is put down
        have dcl : ∀ {T3 : Tab} {kvs3 : List NE} {n : Nat}, Canon G.length (pF G) T3 → (∀ e ∈ NS2, Tog G.length (pF G) one two op T3 e.1.1 e.1.2 e.2) → T3.length ≤ T2.length + 1 → Tog G.length (pF G) one two op T3 p.1 p.2 n → TG G.length (pF G) one two op L (fun q => i < plMin one two q.1 q.2 ∨ q ∈ (L.filter fun x => decide (plMin one two x.1 x.2 = i)).take (jj + 1)) T3 (NS2 ++ [(p, n)]) := fun {T3 _ n} hc ht hl g =>
          (TGB.snoc hpm nDp hc ht hl g).congr fun q _ => by
            rw [tk2 q, or_assoc]
        walk_at "go"
        refine w_ixL (sq hfB) (at_idx30 (n := i) (x := .ref tq) (by rw [List.getElem?_map, htq]; rfl) rfl) ?_
        walk_at "go"
        refine ⟨ee.1, a, b, t, nd, one, two, p.1, p.2, pnm NS2, nfOf NS2, by rw [hpi]; rfl, ha.same S0B, hb.same S0B, hpt', l1, l2, hlow, few1, few2, THB.nu, fun x hx => pget_pnm (hin x hx), by omega, g2, fun x hx fg hfg => by rw [← hpf, ← hpi]; exact figs_lt c1 c2 l1 l2 hx hfg, ?_⟩
        rw [hpi]
        intro f0 hu
        have hu' : Usual (pF G i) (gPair (nfOf NS2) one two p.1 p.2) f0 := by rw [hpf]; exact hu
        refine ⟨fun hall HC sC => ?_, fun hdif HC tr ntr sC hrow => ?_⟩
        · have THC := THB.same sC
          have hk0 := B.konst c1.wf c2.wf hg.pos (fun f hf => by rw [hpf] at hf; rw [hall f hf, hall 0 (by omega)])
          rw [hall 0 (by omega)] at hk0
          have hptC := sC _ _ hpt'
          walk_at "go"
          refine w_isi (b := false) (.base (.int _)) (kit_ty (by decide +kernel)) ?_
          walk_at "go"
          refine iteF ?_
          walk_at "go"
          refine w_set30 ⟨nd, _, rfl, DPut.t (k := pkN p) THC.nu (by rw [pkN_val]; exact hptC) (by unfold pdm pnm; rw [List.length_map, List.length_map]; omega), ?_⟩
          rw [pdm_put pgn, show pnm NS2 ++ [(p, V.int ((gPair (nfOf NS2) one two p.1 p.2 f0 : Nat) : Int))] = pnm (NS2 ++ [(p, gPair (nfOf NS2) one two p.1 p.2 f0)]) by unfold pnm; rw [List.map_append]; rfl]
          walk_at "go"
          refine ⟨T2, kvs2, _, _, _, _, _, _, rfl, THC.putNu nnr nnk, KNB, dcl (kvs3 := []) TGB.can TGB.tg (Nat.le_succ _) hk0, ?_⟩
          rw [rm3_upd (.inr (.inr rfl))]
          exact sB.trans (rm3_mono sC)
        · have THC := THB.same sC
          have hdif' : ∃ f, f < pF G i ∧ gPair (nfOf NS2) one two p.1 p.2 f ≠ gPair (nfOf NS2) one two p.1 p.2 f0 := by rw [hpf]; exact hdif
          have hrow' : RowE HC (newRow (pF G) i f0 (gPair (nfOf NS2) one two p.1 p.2)) tr := by
            unfold newRow
            rw [hpf]
            exact hrow
          have hptC := sC _ _ hpt'
          have hki := rowKey_is hrow'
          have hkd := rowKey_depth (newRow (pF G) i f0 (gPair (nfOf NS2) one two p.1 p.2))
          obtain ⟨er, esr, hr1, hr2, hr3⟩ := id hrow'
          generalize hwr : newRow (pF G) i f0 (gPair (nfOf NS2) one two p.1 p.2) = wr at *
          walk_at "go"
          refine w_isi (b := true) (.base (.tup hr1)) (kit_ty (by decide +kernel)) ?_
          walk_at "go"
          refine iteT ?_
          walk_at "go"
          refine w_notInND THC.nd hki hkd ?_
          cases hnv : nval kvs2 (rowKey wr) with
          | some v =>
            obtain ⟨r, r2, rl2, er1, er2⟩ := KNB.a _ _ hnv
            have erow : rowAt T2 r = newRow (pF G) i f0 (gPair (nfOf NS2) one two p.1 p.2) := by rw [hwr]; exact (rowKey_inj er1).symm
            have hth := B.there c1.wf c2.wf TGB.can.wf r2 rl2 erow
            refine ⟨_, rfl, iteF ?_⟩
            walk_at "go"
            refine w_dgetND ?_
            walk_at "go"
            refine ⟨kn, tr, kvs2, rowKey wr, v, rfl, rfl, THC.nd, hki, hkd, hnv, ?_⟩
            rw [er2]
            walk_at "go"
            refine w_set30 ⟨nd, _, rfl, DPut.t (k := pkN p) THC.nu (by rw [pkN_val]; exact hptC) (by unfold pdm pnm; rw [List.length_map, List.length_map]; omega), ?_⟩
            rw [pdm_put pgn, show pnm NS2 ++ [(p, V.int (r : Int))] = pnm (NS2 ++ [(p, r)]) by unfold pnm; rw [List.map_append]; rfl]
            walk_at "go"
            refine ⟨T2, kvs2, _, _, _, _, _, _, rfl, THC.putNu nnr nnk, KNB, dcl (kvs3 := []) TGB.can TGB.tg (Nat.le_succ _) hth, ?_⟩
            rw [rm3_upd (.inr (.inr rfl))]
            exact sB.trans (rm3_mono sC)
          | none =>
            have hout := KNB.out hnv
            obtain ⟨kp1, kp2⟩ := KNB.put (a := tr) hnv
            have hnew := B.new c1.wf c2.wf hu' hdif'
            have hcan : Canon G.length (pF G) (T2 ++ [wr]) := by
              have := TGB.can.snoc hnew fun r r2 hr e => hout r r2 hr (by rw [e]; exact hwr)
              rw [hwr] at this
              exact this
            have hlast : Tog G.length (pF G) one two op (T2 ++ [wr]) p.1 p.2 T2.length := by
              have := B.last c1.wf c2.wf TGB.can.wf hu' hdif'
              rw [hwr] at this
              exact this
            obtain ⟨trs, hro, hro2⟩ := THC.ro
            have hrl := hro2.length
            refine ⟨_, rfl, iteT ?_⟩
            walk_at "go"
            refine w_setN30 THC.nd hki hkd (by have := KNB.c; omega) fun HD hHD => ?_
            have hHD : HD = L2.upd HC kn (ndO P w kn (nput kvs2 (rowKey wr) tr (.int ((trs.map V.ref).length : Int)))) := hHD
            rw [List.length_map, ← hrl, kp1] at hHD
            clear hro hro2 hrl
            have THD : TH P w H0 rl kn nd T2 (kvs2 ++ [(rowKey wr, tr, .int (T2.length : Int))]) NS2 HD := by
              rw [hHD]
              exact THC.putKn nkr nnk hki hkd hr1
            have hr1D : HD tr = some (.tup [.int (wr.1 : Int), .int (wr.2.1 : Int), .ref er]) := by
              rw [hHD, L2.upd_ne (fun z => by rw [z, THC.kno] at hr1; have e : HO.ext _ = HO.tup _ := Option.some.inj hr1; cases e)]
              exact hr1
            have hrow3 : RowE (rm3 rl kn nd HC) wr tr := ⟨er, esr, THC.tup hr1, THC.tup hr2, paired_imp (fun _ _ z => THC.tup z) hr3⟩
            have hptD : rm3 rl kn nd HC t = some (.tup [.int (p.1 : Int), .int (p.2 : Int)]) := THC.tup hptC
            have eD : rm3 rl kn nd HD = rm3 rl kn nd HC := by rw [hHD]; exact rm3_upd (.inr (.inl rfl))
            rw [← eD] at hrow3 hptD
            have sD : Same (rm3 rl kn nd HA) (rm3 rl kn nd HD) := by rw [eD]; exact sB.trans (rm3_mono sC)
            clear hHD eD
            obtain ⟨trs, hro, hro2⟩ := THD.ro
            have hrl := hro2.length
            walk_at "go"
            refine w_append hro (by rw [List.length_map, ← hrl]; omega) ?_
            have THE := THD.push hro hrow3 nkr nnr
            have eE : rm3 rl kn nd (L2.upd HD rl (.lst (trs.map V.ref ++ [.ref tr]))) = rm3 rl kn nd HD := rm3_upd (.inl rfl)
            rw [← eE] at hrow3 hptD sD
            generalize L2.upd HD rl (.lst (trs.map V.ref ++ [.ref tr])) = HE at THE hrow3 hptD sD ⊢
            have hkiE := rowKey_is (hrow3.le rm3_le)
            have hnvE : nval (kvs2 ++ [(rowKey wr, tr, .int (T2.length : Int))]) (rowKey wr) = some (.int (T2.length : Int)) := by
              rw [nval_app, hnv]
              exact if_pos rfl
            walk_at "go"
            refine w_dgetND ?_
            walk_at "go"
            refine ⟨kn, tr, _, rowKey wr, _, rfl, rfl, THE.nd, hkiE, hkd, hnvE, ?_⟩
            walk_at "go"
            refine w_set30 ⟨nd, _, rfl, DPut.t (k := pkN p) THE.nu (by rw [pkN_val]; exact rm3_le _ _ hptD) (by unfold pdm pnm; rw [List.length_map, List.length_map]; omega), ?_⟩
            rw [pdm_put pgn, show pnm NS2 ++ [(p, V.int (T2.length : Int))] = pnm (NS2 ++ [(p, T2.length)]) by unfold pnm; rw [List.map_append]; rfl]
            walk_at "go"
            refine ⟨T2 ++ [wr], _, _, _, _, _, _, _, rfl, THE.putNu nnr nnk, kp2, dcl (kvs3 := []) hcan (fun e he => (TGB.tg e he).left TGB.can.wf hcan.wf) (by rw [List.length_append, List.length_singleton]; exact Nat.le_refl _) hlast, ?_⟩
            rw [rm3_upd (.inr (.inr rfl))]
            exact sD
      · rintro σ HB ⟨T2, kvs2, NS2, v11, v12, v13, v14, v15, rfl, THB, KNB, TGB, sB⟩
        rw [List.length_map, ← htll, List.take_length] at TGB
        walk_at "go"
        refine ⟨T2, kvs2, NS2, _, _, _, _, _, _, rfl, THB, KNB, TGB.congr fun q hq => ?_⟩
        constructor
        · rintro (z | z)
          · omega
          · have := of_decide_eq_true (List.mem_filter.mp z).2
            omega
        · intro z
          by_cases e : plMin one two q.1 q.2 = i
          · exact .inr (List.mem_filter.mpr ⟨hq, decide_eq_true e⟩)
          · exact .inl (by omega)
    · rintro σ H9 ⟨T1, kvs, NS, v10, v11, v12, v13, v14, v15, rfl, TH9, KN9, TG9⟩
      have hroot : (h, k) ∈ NS.map (·.1) := (TG9.dn _).mpr ⟨M.st, by omega⟩
      have htg := TG9.tg _ (nfOf_mem hroot)
      obtain ⟨fw1, fw2⟩ := TG9.few hLl
      walk_at "go"
      refine w_dget ?_
      walk_at "go"
      refine al fun tq HA nA sA kA => ?_
      have THA := TH9.same sA
      have hget : DGet HA nd (.ref tq) (some (.int (nfOf NS (h, k) : Nat))) := by
        have := DGet.t (k := pkN (h, k)) THA.nu (by rw [pkN_val]; exact kA)
        rw [pdm_val, pget_pnm hroot] at this
        exact this
      refine ⟨nd, _, rfl, hget, ?_⟩
      obtain ⟨trs, hro, hro2⟩ := THA.ro
      have SA : Same H HA := s0.trans (sub0 THA)
      walk_at "go"
      exact ⟨G.length, pF G, rl, T1, nfOf NS (h, k), rfl, ⟨trs, hro, paired_imp (fun _ _ z => z.same rm3_le) hro2⟩, TG9.can, htg.lt, by omega, TG9.can.few hg.sml, fun H' qq ta u n nq s' St k1 k2 => q H' qq ta u n (SA.free nq) (SA.trans s') ⟨T1, nfOf NS (h, k), TG9.can, htg, fw2, St⟩ k1 k2⟩
noncomputable abbrev s_rwinit : Stmt := (inClass (top 47) 0)
theorem sc_rwinit : FnScope ["self", "rows", "root"] ["self", "rows", "root"] (defScope s_rwinit) :=
  ⟨rfl, rfl, rfl, by decide +kernel, rfl, by decide +kernel, by decide +kernel⟩
theorem ok_rwinit {Cr : Addr} {f : Addr} {fd : FuncData} (F : FunD K "__init__" "Rows.__init__" (defArgs s_rwinit) (defBody s_rwinit) (defScope s_rwinit) [] [] f fd) (T : Bt mg) (W : KRw K mg Cr) : FnOk P w K mg base L2.CX0 1 f fd ["self", "rows", "root"] (spRwInit Cr) := by
  refine fnD_ok F sc_rwinit (fun vs H Q E h => ?_) (fun cdv A outer s H vs Q E hr h => ?_)
  · obtain ⟨o, dx, ta, u, n, rfl, _⟩ := h
    rfl
  · obtain ⟨o, dx, ta, u, n, rfl, ho, ht, q⟩ := h
    have nto : ta ≠ o := fun z => by
      obtain ⟨ts, h1, _⟩ := ht
      rw [z, ho] at h1
      cases h1
    refine ⟨_, (pss_cons (ps_fld (pv 0) (pv 1) rfl)
      (pss_one (ps_fld (pv 0) (pv 2) rfl))), ?_⟩
    walk_at "go"
    refine w_sfldi ho W.cl.cl W.rows (by decide) ?_
    walk_at "go"
    refine w_sfldi L2.upd_same W.cl.cl W.root (by show 1 < 1000; decide) ?_
    walk_at "go"
    have hk : ∀ b o', b ≠ o → H b = some o' → L2.upd (L2.upd H o (.ins Cr dx (putF "rows" (.ref ta) []))) o (.ins Cr dx (putF "root" (.int (n : Int)) (putF "rows" (.ref ta) []))) b = some o' := fun b o' nb hb => by
      rw [L2.upd_ne nb, L2.upd_ne nb]
      exact hb
    refine q _ hk ⟨dx, ta, ?_, ?_⟩
    · rw [L2.upd_same, put0, putS (by decide +kernel), put0]
      rfl
    · obtain ⟨ts, h1, h2⟩ := ht
      have ne : ∀ {x : Addr} {xs : List V}, H x = some (.tup xs) → x ≠ o := fun hx z => by
        rw [z, ho] at hx
        cases hx
      refine ⟨ts, hk _ _ nto h1, paired_imp (fun _ _ z => ?_) h2⟩
      obtain ⟨e, es, g1, g2, g3⟩ := z
      exact ⟨e, es, hk _ _ (ne g1) g1, g2.elim (fun ⟨o', d', z'⟩ => .inl ⟨o', d', hk _ _ (fun y => by rw [y, ho] at z'; cases z') z'⟩) (fun ⟨z1, z2⟩ => .inr ⟨z1, hk _ _ (ne z2) z2⟩), paired_imp (fun _ _ y => hk _ _ (ne y) y) g3⟩
noncomputable abbrev s_iscls : Stmt := (top 48)
theorem sc_iscls : FnScope ["thing", "number"] ["thing", "number"] (defScope s_iscls) :=
  ⟨rfl, rfl, rfl, by decide +kernel, rfl, by decide +kernel, by decide +kernel⟩
theorem ok_iscls (F : Dn K mg "is_class" s_iscls ["thing", "number"]) (T : Bt mg) (c_isint : Cal P w K mg base 1 "is_integer" (spIsInt K) []) : Cal P w K mg base 2 "is_class" spIsCls [] := by
  refine F.cal sc_iscls (fun vs H Q E h => ?_) (fun f cdv A outer s H vs Q E hr h => ?_)
  · obtain ⟨t, r, w', n, rfl, _⟩ := h
    rfl
  · obtain ⟨t, r, wi, n, rfl, ht, w0, hn, q⟩ := h
    refine ⟨_, (pss_cons (ps_if (PW.pt (pw_or (pt_not (pt_val (pe_callB call_isi (by rfl) T.isinstance (by decide +kernel) (pa_cons (pv 0) (pa_cons (pe_bltn (v := .ty "tuple") (by rfl) T.tuple (by decide +kernel) rfl) pa_nil))))) (pw_or (pt_cmpR op_ne (pe_callB cLen (by rfl) T.len (by decide +kernel) (pa_cons (pv 0) pa_nil)) pe_int (nomark _)) (pw_or (pt_not (pt_val (pe_c c_isint hr (by decide) (by rfl) (pa_cons (pe_ix ix_tup (pv 0) pe_int (fun _ _ => rfl)) pa_nil)))) (pw_or1 (pt_not (pt_val (pe_c c_isint hr (by decide) (by rfl) (pa_cons (pe_ix ix_tup (pv 0) pe_int (fun _ _ => rfl)) pa_nil))))))))) (pss_one (ps_ret pe_bl)) pss_nil)
      (pss_one (ps_ret (pe_and (pe_cmpR op_gt (pe_ix ix_tup (pv 0) pe_int (fun _ _ => rfl)) pe_int (nomark _)) (pe_one (pe_cmpR op_eq (pe_op op_mod (pv 1) (pe_ix ix_tup (pv 0) pe_int (fun _ _ => rfl))) pe_int (nomark _))))))), ?_⟩
    walk_at "go"
    refine w_isi (b := true) (.base (.tup ht)) (kit_ty (by decide +kernel)) ?_
    walk_at "go"
    refine iteF ?_
    walk_at "go"
    show (if (!decide (V.int 2 = V.int 2)) = true then _ else _)
    rw [decide_eq_true rfl]
    refine iteF ?_
    walk_at "go"
    refine use_isInt ⟨_, rfl, iteF ?_⟩
    walk_at "go"
    refine use_isInt ⟨_, rfl, iteF ?_⟩
    walk_at "go"
    refine ite_d (fun _ => ?_) (fun z => absurd w0 z)
    walk_at "go"
    rw [hn]
    exact q
noncomputable abbrev s_reqcls : Stmt := (top 49)
theorem sc_reqcls : FnScope ["thing", "number", "place", "part"] ["thing", "number"] (defScope s_reqcls) :=
  ⟨rfl, rfl, rfl, by decide +kernel, rfl, by decide +kernel, by decide +kernel⟩
theorem ok_reqcls (F : Dn K mg "require_classes" s_reqcls ["thing", "number"]) (T : Bt mg) (c_iscls : Cal P w K mg base 2 "is_class" spIsCls []) : Cal P w K mg base 3 "require_classes" (spReqCls K) [] := by
  refine F.cal sc_reqcls (fun vs H Q E h => ?_) (fun f cdv A outer s H vs Q E hr h => ?_)
  · obtain ⟨l, n, cs, rfl, _⟩ := h
    rfl
  · obtain ⟨l, n, cs, rfl, ⟨ts, hl, hp⟩, hcl, hc, q⟩ := h
    have hpl := hp.length
    rcases hl with hl | hl
    · refine ⟨_, (pss_cons (ps_if (pt_not (pt_val (pe_callB call_isiT (by rfl) T.isinstance (by decide +kernel) (pa_cons (pv 0) (pa_cons (pe_tup (pa_cons (pe_bltn (v := .ty "list") (by rfl) T.list (by decide +kernel) rfl) (pa_cons (pe_bltn (v := .ty "tuple") (by rfl) T.tuple (by decide +kernel) rfl) pa_nil))) pa_nil))))) (pss_one ps_never) pss_nil)
      (pss_one (ps_for PassesOwn.never rfl (pi_enum (by rfl) T.enumerate (pa_cons (pv 0) pa_nil)) (pg_tup rfl (pgs_cons (pg_name (i := 2) sc_reqcls.nd rfl (Or.inl rfl)) (pgs_cons (pg_name (i := 3) sc_reqcls.nd rfl (Or.inl rfl)) pgs_nil))) (pss_one (ps_if (pt_not (pt_val (pe_c c_iscls hr (by decide) (by rfl) (pa_cons (pv 3) (pa_cons (pv 1) pa_nil))))) (pss_one ps_never) pss_nil))))), ?_⟩
      walk_at "go"
      refine al fun p1 H1 n1 s1 k1 => ?_
      walk_at "go"
      refine w_isi2 (b := true) k1 (.base (.lst (s1 _ _ hl))) (kitA (by decide +kernel)) ?_
      walk_at "go"
      refine iteF ?_
      have hl1 := s1 _ _ hl
      walk_at "go"
      refine w_enumi (sq hl1) ?_
      refine for_it (walk_enum (xs := ts.map V.ref)) (fun i σ H' => ∃ (v2 v3 : Option V), σ = [some (.ref l), some (.int n), v2, v3] ∧ Same H H') ⟨_, _, rfl, s1⟩ (fun i σ H' _ z => by obtain ⟨_, _, _, z⟩ := z; exact sq (z _ _ hl)) ?_ ?_
      · rintro i y σ H2 H3 hi ⟨v2, v3, rfl, s2⟩ ⟨tp, z1, z2, rfl, ntp, rfl, e1, e2⟩
        cases e1
        obtain ⟨t, ht, rfl⟩ := get_map e2
        obtain ⟨c, hcc, hct⟩ := paired_get hp ht
        obtain ⟨w0, hw⟩ := hc c (List.mem_of_getElem? hcc)
        refine w_gtup (sqt L2.upd_same) rfl ?_
        have S3 : Same H2 (L2.upd H2 tp (.tup [.int (i : Nat), .ref t])) := Same.new ntp
        generalize L2.upd H2 tp (.tup [.int (i : Nat), .ref t]) = H3 at S3 ⊢
        have S := s2.trans S3
        walk_at "go"
        refine ⟨t, c.1, c.2, n, rfl, S _ _ hct, w0, hw, ?_⟩
        walk_at "go"
        exact ⟨_, _, rfl, S⟩
      · rintro σ H2 ⟨v2, v3, rfl, s2⟩
        exact q H2 s2
    · refine ⟨_, (pss_cons (ps_if (pt_not (pt_val (pe_callB call_isiT (by rfl) T.isinstance (by decide +kernel) (pa_cons (pv 0) (pa_cons (pe_tup (pa_cons (pe_bltn (v := .ty "list") (by rfl) T.list (by decide +kernel) rfl) (pa_cons (pe_bltn (v := .ty "tuple") (by rfl) T.tuple (by decide +kernel) rfl) pa_nil))) pa_nil))))) (pss_one ps_never) pss_nil)
      (pss_one (ps_for PassesOwn.never rfl (pi_enumT (by rfl) T.enumerate (pa_cons (pv 0) pa_nil)) (pg_tup rfl (pgs_cons (pg_name (i := 2) sc_reqcls.nd rfl (Or.inl rfl)) (pgs_cons (pg_name (i := 3) sc_reqcls.nd rfl (Or.inl rfl)) pgs_nil))) (pss_one (ps_if (pt_not (pt_val (pe_c c_iscls hr (by decide) (by rfl) (pa_cons (pv 3) (pa_cons (pv 1) pa_nil))))) (pss_one ps_never) pss_nil))))), ?_⟩
      walk_at "go"
      refine al fun p1 H1 n1 s1 k1 => ?_
      walk_at "go"
      refine w_isi2 (b := true) k1 (.base (.tup (s1 _ _ hl))) (kitA (by decide +kernel)) ?_
      walk_at "go"
      refine iteF ?_
      have hl1 := s1 _ _ hl
      walk_at "go"
      unfold iEnumT
      walk_at "go"
      refine w_enumT (sqt hl1) ?_
      refine for_it (walk_enumT (xs := ts.map V.ref)) (fun i σ H' => ∃ (v2 v3 : Option V), σ = [some (.ref l), some (.int n), v2, v3] ∧ Same H H') ⟨_, _, rfl, s1⟩ (fun i σ H' _ z => by obtain ⟨_, _, _, z⟩ := z; exact sqt (z _ _ hl)) ?_ ?_
      · rintro i y σ H2 H3 hi ⟨v2, v3, rfl, s2⟩ ⟨tp, z1, z2, rfl, ntp, rfl, e1, e2⟩
        cases e1
        obtain ⟨t, ht, rfl⟩ := get_map e2
        obtain ⟨c, hcc, hct⟩ := paired_get hp ht
        obtain ⟨w0, hw⟩ := hc c (List.mem_of_getElem? hcc)
        refine w_gtup (sqt L2.upd_same) rfl ?_
        have S3 : Same H2 (L2.upd H2 tp (.tup [.int (i : Nat), .ref t])) := Same.new ntp
        generalize L2.upd H2 tp (.tup [.int (i : Nat), .ref t]) = H3 at S3 ⊢
        have S := s2.trans S3
        walk_at "go"
        refine ⟨t, c.1, c.2, n, rfl, S _ _ hct, w0, hw, ?_⟩
        walk_at "go"
        exact ⟨_, _, rfl, S⟩
      · rintro σ H2 ⟨v2, v3, rfl, s2⟩
        exact q H2 s2
noncomputable abbrev s_merged : Stmt := (top 50)
theorem sc_merged : FnScope ["figures", "classes", "rows", "root", "rest", "wide", "some", "row"] ["figures", "classes"] (defScope s_merged) :=
  ⟨rfl, rfl, rfl, by decide +kernel, rfl, by decide +kernel, by decide +kernel⟩
theorem ok_merged {tN tE : Tok} {Cr aE : Addr} (F : Dn K mg "merged_rows" s_merged ["figures", "classes"]) (T : Bt mg) (W : KRw K mg Cr) (zNONE : mg "NONE" = some (.int 0 tN)) (zEITHER : mg "EITHER" = some (.ref aE)) (hE : TblK K aE (fun a b => a || b)) (c_firstrows : Cal P w K mg base 1 "first_rows" spFirstRows []) (c_settled : Cal P w K mg base 1 "settled" spSettled []) (c_classrows : Cal P w K mg base 3 "class_rows" spClassRows []) (c_together : Cal P w K mg base 4 "together" (spTogether K) []) (c_rwinit : Mak P w K mg base 1 "Rows" Cr (spRwInit Cr) []) : Cal P w K mg base 5 "merged_rows" (spMerged K Cr) [] := by
  refine F.cal sc_merged (fun vs H Q E h => ?_) (fun f cdv A outer s H vs Q E hr h => ?_)
  · obtain ⟨fa, l, G, cs, N, rfl, _⟩ := h
    rfl
  · obtain ⟨fa, l, G, cs, N, rfl, hf, hg, rb, hGN, hN, ⟨ts, hl, hp⟩, q⟩ := h
    have hpl := hp.length
    rcases hl with hl | hl
    · refine ⟨_, (pss_cons (ps_asg (pe_c c_settled hr (by decide) (by rfl) (pa_cons (pe_c c_firstrows hr (by decide) (by rfl) (pa_cons (pv 0) pa_nil)) (pa_cons (pe_glob (v := .int 0) (by rfl) zNONE ⟨_, rfl⟩) pa_nil))) (pg_tup rfl (pgs_cons (pg_name (i := 2) sc_merged.nd rfl (Or.inl rfl)) (pgs_cons (pg_name (i := 3) sc_merged.nd rfl (Or.inl rfl)) pgs_nil))))
      (pss_cons (ps_for PassesOwn.never rfl (pi_list (pv 1)) (pg_tup rfl (pgs_cons (pg_name (i := 4) sc_merged.nd rfl (Or.inl rfl)) (pgs_cons (pg_name (i := 5) sc_merged.nd rfl (Or.inl rfl)) pgs_nil))) (pss_cons (ps_asg (pe_c c_classrows hr (by decide) (by rfl) (pa_cons (pv 0) (pa_cons (pv 4) (pa_cons (pv 5) pa_nil)))) (pg_tup rfl (pgs_cons (pg_name (i := 6) sc_merged.nd rfl (Or.inl rfl)) (pgs_cons (pg_name (i := 7) sc_merged.nd rfl (Or.inl rfl)) pgs_nil))))
      (pss_one (ps_asg (pe_c c_together hr (by decide) (by rfl) (pa_cons (pv 0) (pa_cons (pv 2) (pa_cons (pv 3) (pa_cons (pv 6) (pa_cons (pv 7) (pa_cons (pe_glob (v := .ref aE) (by rfl) zEITHER rfl) pa_nil))))))) (pg_tup rfl (pgs_cons (pg_name (i := 2) sc_merged.nd rfl (Or.inl rfl)) (pgs_cons (pg_name (i := 3) sc_merged.nd rfl (Or.inl rfl)) pgs_nil)))))))
      (pss_one (ps_ret (pe_mk c_rwinit hr (by decide) (by rfl) (pa_cons (pv 2) (pa_cons (pv 3) pa_nil))))))), ?_⟩
      walk_at "go"
      refine ⟨fa, G, rfl, hf, fun H1 a n1 s1 hT => ?_⟩
      have c0 : Canon G.length (pF G) [(G.length, 0, []), (G.length, 1, [])] := Canon.nil trivial
      walk_at "go"
      refine ⟨G.length, pF G, a, [(G.length, 0, []), (G.length, 1, [])], 0, rfl, hT, c0, (by show 0 < 2; decide), (by show 2 ≤ 200000; decide), c0.few hg.sml, fun H2 qt ta u n nq s2 St k2 hu => ?_⟩
      refine w_gtup (sqt k2) rfl ?_
      have f0 := St.facts c0 (by show 0 < 2; decide)
      have S02 := s1.trans s2
      have hl2 := S02 _ _ hl
      walk_at "go"
      refine for_list (K := K) (a := l) (xs := ts.map V.ref) (fun j σ H' => ∃ (u : Tab) (n : Nat) (ta : Addr) (v4 v5 v6 v7 : Option V), σ = [some (.ref fa), some (.ref l), some (.ref ta), some (.int (n : Int)), v4, v5, v6, v7] ∧ Same H H' ∧ TabT H' ta u ∧ SetF G N u n ∧ ∀ d, Val G.length (pF G) d → (sem u n d = true ↔ InCls G (cs.take j) d)) ⟨u, n, ta, _, _, _, _, rfl, S02, hu, ⟨f0.1, f0.2.1, Nat.le_trans f0.2.2.2 (by show 2 ≤ _; omega), _, _, c0, (by show 0 < 2; decide), St⟩, fun d _ => by
          rw [f0.2.2.1, sem_lt (by decide), List.take_zero]
          exact ⟨(fun z => by cases z), (fun ⟨c, hc, _⟩ => by cases hc)⟩⟩
        (fun j σ H' _ z => by obtain ⟨_, _, _, _, _, _, _, _, z, _⟩ := z; exact sq (z _ _ hl)) ?_ ?_
      · rintro j y σ H3 hj ⟨u, n, ta, v4, v5, v6, v7, rfl, s3, hu, hS, hsem⟩
        obtain ⟨t, ht, rfl⟩ := get_map hj
        obtain ⟨c, hc, hct⟩ := paired_get hp ht
        refine w_gtup (sqt (s3 _ _ hct)) rfl ?_
        walk_at "go"
        refine ⟨fa, G, c.1, c.2, rfl, hf.same s3, hg, fun H4 q4 ta4 u4 n4 nq4 s4 C4 k4 hu4 => ?_⟩
        refine w_gtup (sqt k4) rfl ?_
        obtain ⟨d1, d2, d3, d4⟩ := C4.facts
        have S4 := s3.trans s4
        walk_at "go"
        refine ⟨fa, ta, ta4, aE, G, u, u4, n, n4, N, (fun a b => a || b), rfl, hf.same S4, hg, hu.same s4, hu4, hS.can, d1, hS.lt, d2, rb u u4 n n4 hS.can d1 hS.lt d2, hN, hE, fun H5 q5 ta5 u5 n5 nq5 s5 C5 k5 hu5 => ?_⟩
        refine w_gtup (sqt k5) rfl ?_
        obtain ⟨e1, e2, e3, e4⟩ := C5.facts
        walk_at "go"
        refine ⟨u5, n5, ta5, _, _, _, _, rfl, S4.trans s5, hu5, ⟨e1, e2, e3, (by obtain ⟨T', r', a1, a2, a3, a4⟩ := C5; exact ⟨T', r', a1, a2.lt, a4⟩)⟩, fun d hd => ?_⟩
        rw [e4 d hd]
        show (sem u n d || sem u4 n4 d) = true ↔ _
        rw [Bool.or_eq_true, hsem d hd, d4 d hd, List.take_add_one, hc]
        constructor
        · rintro (⟨z, hz, y⟩ | y)
          · exact ⟨z, List.mem_append_left _ hz, y⟩
          · exact ⟨c, List.mem_append_right _ (by simp), y⟩
        · rintro ⟨z, hz, y⟩
          rcases List.mem_append.mp hz with x | x
          · exact .inl ⟨z, x, y⟩
          · rw [show z = c from by simpa using x] at y
            exact .inr y
      · rintro σ H3 ⟨u, n, ta, v4, v5, v6, v7, rfl, s3, hu, hS, hsem⟩
        rw [List.length_map, ← hpl, List.take_length] at hsem
        walk_at "go"
        refine use_rw hu fun o H4 no s4 hr => ?_
        walk_at "go"
        exact q H4 o u n (s3.free no) (s3.trans s4) hr hS hsem
    · refine ⟨_, (pss_cons (ps_asg (pe_c c_settled hr (by decide) (by rfl) (pa_cons (pe_c c_firstrows hr (by decide) (by rfl) (pa_cons (pv 0) pa_nil)) (pa_cons (pe_glob (v := .int 0) (by rfl) zNONE ⟨_, rfl⟩) pa_nil))) (pg_tup rfl (pgs_cons (pg_name (i := 2) sc_merged.nd rfl (Or.inl rfl)) (pgs_cons (pg_name (i := 3) sc_merged.nd rfl (Or.inl rfl)) pgs_nil))))
      (pss_cons (ps_for PassesOwn.never rfl (pi_tup (pv 1)) (pg_tup rfl (pgs_cons (pg_name (i := 4) sc_merged.nd rfl (Or.inl rfl)) (pgs_cons (pg_name (i := 5) sc_merged.nd rfl (Or.inl rfl)) pgs_nil))) (pss_cons (ps_asg (pe_c c_classrows hr (by decide) (by rfl) (pa_cons (pv 0) (pa_cons (pv 4) (pa_cons (pv 5) pa_nil)))) (pg_tup rfl (pgs_cons (pg_name (i := 6) sc_merged.nd rfl (Or.inl rfl)) (pgs_cons (pg_name (i := 7) sc_merged.nd rfl (Or.inl rfl)) pgs_nil))))
      (pss_one (ps_asg (pe_c c_together hr (by decide) (by rfl) (pa_cons (pv 0) (pa_cons (pv 2) (pa_cons (pv 3) (pa_cons (pv 6) (pa_cons (pv 7) (pa_cons (pe_glob (v := .ref aE) (by rfl) zEITHER rfl) pa_nil))))))) (pg_tup rfl (pgs_cons (pg_name (i := 2) sc_merged.nd rfl (Or.inl rfl)) (pgs_cons (pg_name (i := 3) sc_merged.nd rfl (Or.inl rfl)) pgs_nil)))))))
      (pss_one (ps_ret (pe_mk c_rwinit hr (by decide) (by rfl) (pa_cons (pv 2) (pa_cons (pv 3) pa_nil))))))), ?_⟩
      walk_at "go"
      refine ⟨fa, G, rfl, hf, fun H1 a n1 s1 hT => ?_⟩
      have c0 : Canon G.length (pF G) [(G.length, 0, []), (G.length, 1, [])] := Canon.nil trivial
      walk_at "go"
      refine ⟨G.length, pF G, a, [(G.length, 0, []), (G.length, 1, [])], 0, rfl, hT, c0, (by show 0 < 2; decide), (by show 2 ≤ 200000; decide), c0.few hg.sml, fun H2 qt ta u n nq s2 St k2 hu => ?_⟩
      refine w_gtup (sqt k2) rfl ?_
      have f0 := St.facts c0 (by show 0 < 2; decide)
      have S02 := s1.trans s2
      have hl2 := S02 _ _ hl
      walk_at "go"
      refine for_tup (K := K) (a := l) (xs := ts.map V.ref) (fun j σ H' => ∃ (u : Tab) (n : Nat) (ta : Addr) (v4 v5 v6 v7 : Option V), σ = [some (.ref fa), some (.ref l), some (.ref ta), some (.int (n : Int)), v4, v5, v6, v7] ∧ Same H H' ∧ TabT H' ta u ∧ SetF G N u n ∧ ∀ d, Val G.length (pF G) d → (sem u n d = true ↔ InCls G (cs.take j) d)) ⟨u, n, ta, _, _, _, _, rfl, S02, hu, ⟨f0.1, f0.2.1, Nat.le_trans f0.2.2.2 (by show 2 ≤ _; omega), _, _, c0, (by show 0 < 2; decide), St⟩, fun d _ => by
          rw [f0.2.2.1, sem_lt (by decide), List.take_zero]
          exact ⟨(fun z => by cases z), (fun ⟨c, hc, _⟩ => by cases hc)⟩⟩
        (fun j σ H' _ z => by obtain ⟨_, _, _, _, _, _, _, _, z, _⟩ := z; exact sqt (z _ _ hl)) ?_ ?_
      · rintro j y σ H3 hj ⟨u, n, ta, v4, v5, v6, v7, rfl, s3, hu, hS, hsem⟩
        obtain ⟨t, ht, rfl⟩ := get_map hj
        obtain ⟨c, hc, hct⟩ := paired_get hp ht
        refine w_gtup (sqt (s3 _ _ hct)) rfl ?_
        walk_at "go"
        refine ⟨fa, G, c.1, c.2, rfl, hf.same s3, hg, fun H4 q4 ta4 u4 n4 nq4 s4 C4 k4 hu4 => ?_⟩
        refine w_gtup (sqt k4) rfl ?_
        obtain ⟨d1, d2, d3, d4⟩ := C4.facts
        have S4 := s3.trans s4
        walk_at "go"
        refine ⟨fa, ta, ta4, aE, G, u, u4, n, n4, N, (fun a b => a || b), rfl, hf.same S4, hg, hu.same s4, hu4, hS.can, d1, hS.lt, d2, rb u u4 n n4 hS.can d1 hS.lt d2, hN, hE, fun H5 q5 ta5 u5 n5 nq5 s5 C5 k5 hu5 => ?_⟩
        refine w_gtup (sqt k5) rfl ?_
        obtain ⟨e1, e2, e3, e4⟩ := C5.facts
        walk_at "go"
        refine ⟨u5, n5, ta5, _, _, _, _, rfl, S4.trans s5, hu5, ⟨e1, e2, e3, (by obtain ⟨T', r', a1, a2, a3, a4⟩ := C5; exact ⟨T', r', a1, a2.lt, a4⟩)⟩, fun d hd => ?_⟩
        rw [e4 d hd]
        show (sem u n d || sem u4 n4 d) = true ↔ _
        rw [Bool.or_eq_true, hsem d hd, d4 d hd, List.take_add_one, hc]
        constructor
        · rintro (⟨z, hz, y⟩ | y)
          · exact ⟨z, List.mem_append_left _ hz, y⟩
          · exact ⟨c, List.mem_append_right _ (by simp), y⟩
        · rintro ⟨z, hz, y⟩
          rcases List.mem_append.mp hz with x | x
          · exact .inl ⟨z, x, y⟩
          · rw [show z = c from by simpa using x] at y
            exact .inr y
      · rintro σ H3 ⟨u, n, ta, v4, v5, v6, v7, rfl, s3, hu, hS, hsem⟩
        rw [List.length_map, ← hpl, List.take_length] at hsem
        walk_at "go"
        refine use_rw hu fun o H4 no s4 hr => ?_
        walk_at "go"
        exact q H4 o u n (s3.free no) (s3.trans s4) hr hS hsem
noncomputable abbrev s_inverse : Stmt := (top 10)
theorem sc_inverse : FnScope ["unit", "number", "one", "other", "first", "second", "times"] ["unit", "number"] (defScope s_inverse) :=
  ⟨rfl, rfl, rfl, by decide +kernel, rfl, by decide +kernel, by decide +kernel⟩
theorem ok_inverse (F : Dn K mg "inverse" s_inverse ["unit", "number"]) (T : Bt mg) : Cal P w K mg base 1 "inverse" spInverse [] := by
  refine F.cal sc_inverse (fun vs H Q E h => ?_) (fun f cdv A outer s H vs Q E hr h => ?_)
  · obtain ⟨u, n, rfl, _⟩ := h
    rfl
  · obtain ⟨u, n, rfl, hn, hb, hg, q⟩ := h
    refine ⟨_, (pss_cons (ps_par (i := 2) (j := 3) (by rfl) sc_inverse.nd rfl rfl (by decide) rfl rfl (pa_cons (pv 1) (pa_cons (pe_op op_mod (pv 0) (pv 1)) pa_nil)) (by rfl))
      (pss_cons (ps_asg (pe_tup (pa_cons pe_int (pa_cons pe_int pa_nil))) (pg_tup rfl (pgs_cons (pg_name (i := 4) sc_inverse.nd rfl (Or.inl rfl)) (pgs_cons (pg_name (i := 5) sc_inverse.nd rfl (Or.inl rfl)) pgs_nil))))
      (pss_cons (ps_while PassesOwn.never (pt_cmpR op_ne (pv 3) pe_int (nomark _)) (pss_cons (ps_set (i := 6) sc_inverse.nd rfl (Or.inl rfl) (pe_op op_fdivW (pv 2) (pv 3)))
      (pss_cons (ps_par (i := 2) (j := 3) (by rfl) sc_inverse.nd rfl rfl (by decide) rfl rfl (pa_cons (pv 3) (pa_cons (pe_op op_sub (pv 2) (pe_op oMul (pv 6) (pv 3))) pa_nil)) (by rfl))
      (pss_one (ps_par (i := 4) (j := 5) (by rfl) sc_inverse.nd rfl rfl (by decide) rfl rfl (pa_cons (pv 5) (pa_cons (pe_op op_sub (pv 4) (pe_op oMul (pv 6) (pv 5))) pa_nil)) (by rfl))))))
      (pss_one (ps_ret (pe_op op_mod (pv 4) (pv 1))))))), ?_⟩
    walk_at "go"
    refine al fun p0 H1 n1 s1 h1 => ?_
    walk_at "go"
    have h00 := Int.emod_lt_of_pos u hn
    refine while_m (fun m σ H' => ∃ (one other first second : Int) (v : Option V), σ = [some (.int u), some (.int n), some (.int one), some (.int other), some (.int first), some (.int second), v] ∧ H' = H1 ∧ InvOk u n one other first second ∧ one ≤ n ∧ other ≤ n ∧ 0 < one ∧ m = other.toNat) _ ⟨n, u % n, 0, 1, none, rfl, rfl, InvOk.start hn, Int.le_refl _, by omega, hn, rfl⟩ ?_
    rintro m σ H' ⟨one, other, first, second, v, rfl, rfl, hI, hon, hot, hop, rfl⟩
    walk_at "go"
    refine ite_nd (fun h2 => ?_) (fun h2 => ?_)
    · have ho : 0 < other := by
        have := hI.2.1
        have : other ≠ 0 := fun z => h2 (by rw [z])
        omega
      obtain ⟨l1, l2, l3, l4⟩ := hI.le hn ho
      have l2 := l2 hop
      have hN := hI.step hn ho
      have hr1 := Int.emod_lt_of_pos one ho
      have hr : one - one / other * other = one % other := by
        have := Int.mul_ediv_add_emod one other
        rw [Int.mul_comm] at this
        omega
      have hd : CDivW one other := wdiv (b := 8000) ho (by omega) (by decide)
      have m1 : CMx (one / other) other := mx_w (a := 8000) (b := 8000) (by omega) (by omega) (by decide)
      have m2 : CMx (one / other) second := mx_w (a := 8000) (b := 8000) (by omega) (by omega) (by decide)
      walk_at "go"
      refine ⟨_, ?_, _, _, _, _, _, rfl, rfl, hN, hot, by omega, ho, rfl⟩
      have := hI.2.1
      omega
    · have hz : other = 0 := by injection h2
      subst hz
      walk_at "go"
      exact q _ _ s1 (Int.emod_nonneg _ (by omega)) (Int.emod_lt_of_pos _ hn) (hI.done hn hg)
noncomputable abbrev s_led : Stmt := (top 11)
theorem sc_led : FnScope ["rest", "number", "other_rest", "other_number", "shared", "multiple", "steps"] ["rest", "number", "other_rest", "other_number"] (defScope s_led) :=
  ⟨rfl, rfl, rfl, by decide +kernel, rfl, by decide +kernel, by decide +kernel⟩
theorem ok_led (F : Dn K mg "led_together" s_led ["rest", "number", "other_rest", "other_number"]) (T : Bt mg) (c_gcd : Cal P w K mg base 1 "common_divisor" spGcd []) (c_inverse : Cal P w K mg base 1 "inverse" spInverse []) : Cal P w K mg base 2 "led_together" spLed [] := by
  refine F.cal sc_led (fun vs H Q E h => ?_) (fun f cdv A outer s H vs Q E hr h => ?_)
  · obtain ⟨r, n, r', n', rfl, _⟩ := h
    rfl
  · obtain ⟨r, n, r', n', rfl, hn, hn', bn, bn', br, br', q⟩ := h
    obtain ⟨u, v, hu, hv, u0, v0, e1, e2, e3, e4, hL⟩ := ledM_eq hn hn'
    have g0 := gcd_pos' (m := n') hn
    have hcop := led_cop hn hn'
    have ule : u ≤ n := by
      rw [hu]
      have := Int.mul_le_mul_of_nonneg_right (show (1 : Int) ≤ (Int.gcd n n' : Int) by omega) (Int.le_of_lt u0)
      omega
    have vle : v ≤ n' := by
      conv => rhs; rw [hv]
      have := Int.mul_le_mul_of_nonneg_right (show (1 : Int) ≤ (Int.gcd n n' : Int) by omega) (Int.le_of_lt v0)
      omega
    have gle : (Int.gcd n n' : Int) ≤ n := Int.le_of_dvd hn (Int.gcd_dvd_left ..)
    have bu : u.natAbs < 2 ^ 200 := wide_le (Int.le_of_lt u0) ule bn
    have bv : v.natAbs < 2 ^ 200 := wide_le (Int.le_of_lt v0) vle bn'
    have bg : (Int.gcd n n' : Int).natAbs < 2 ^ 200 := wide_le (Int.le_of_lt g0) gle bn
    refine ⟨_, (pss_cons (ps_set (i := 4) sc_led.nd rfl (Or.inl rfl) (pe_c c_gcd hr (by decide) (by rfl) (pa_cons (pv 1) (pa_cons (pv 3) pa_nil))))
      (pss_cons (ps_set (i := 5) sc_led.nd rfl (Or.inl rfl) (pe_op oMul (pe_op op_fdivW (pv 1) (pv 4)) (pv 3)))
      (pss_cons (ps_if (pt_cmpR op_ne (pe_op op_mod (pe_op op_sub (pv 2) (pv 0)) (pv 4)) pe_int (nomark _)) (pss_one (ps_ret (pe_tup (pa_cons pe_non (pa_cons (pv 5) pa_nil))))) pss_nil)
      (pss_cons (ps_set (i := 6) sc_led.nd rfl (Or.inl rfl) (pe_op oMul (pe_op op_fdivW (pe_op op_sub (pv 2) (pv 0)) (pv 4)) (pe_c c_inverse hr (by decide) (by rfl) (pa_cons (pe_op op_fdivW (pv 1) (pv 4)) (pa_cons (pe_op op_fdivW (pv 3) (pv 4)) pa_nil)))))
      (pss_one (ps_ret (pe_tup (pa_cons (pe_op op_mod (pe_op op_add (pv 0) (pe_op oMul (pv 1) (pv 6))) (pv 5)) (pa_cons (pv 5) pa_nil))))))))), ?_⟩
    walk_at "go"
    refine ⟨n, n', rfl, ?_⟩
    have hd : CDivW n (Int.gcd n n' : Int) := wdiv (b := 200) g0 bg (by decide)
    have hd' : CDivW n' (Int.gcd n n' : Int) := wdiv (b := 200) g0 bg (by decide)
    have hdd : CDivW (r' - r) (Int.gcd n n' : Int) := wdiv (b := 200) g0 bg (by decide)
    have m1 : CMx (n / (Int.gcd n n' : Int)) n' := by
      rw [e1]
      exact mx_w bu bn' (by decide)
    have em : n / (Int.gcd n n' : Int) * n' = ledM n n' := rfl
    walk_at "go"
    rw [decI]
    refine ite_nd (fun h1 => ?_) (fun h1 => ?_)
    · walk_at "go"
      refine al fun p H1 _ s1 hp => ?_
      walk_at "go"
      exact q p H1 none s1 h1 hp
    · walk_at "go"
      refine ⟨_, _, rfl, by rw [e2]; exact v0, by rw [e2]; exact Nat.lt_trans bv (Nat.pow_lt_pow_right (by decide) (by decide)), hcop, fun i H1 s1 i0 i1 hi => ?_⟩
      rw [e2] at i1
      have bi : i.natAbs < 2 ^ 200 := wide_le i0 (Int.le_of_lt i1) bv
      have b201 : (2 : Nat) ^ 201 = 2 * 2 ^ 200 := by decide
      have bs : (r' - r).natAbs < 2 ^ 201 := by omega
      have bd : ((r' - r) / (Int.gcd n n' : Int)).natAbs < 2 ^ 201 := Nat.lt_of_le_of_lt (Int.natAbs_ediv_le_natAbs _ _) bs
      have m2 : CMx ((r' - r) / (Int.gcd n n' : Int)) i := mx_w bd bi (by decide)
      have m3 : CMx n ((r' - r) / (Int.gcd n n' : Int) * i) := by
        refine mx_w (b := 401) bn ?_ (by decide)
        rw [Int.natAbs_mul, show (2 : Nat) ^ 401 = 2 ^ 201 * 2 ^ 200 by decide]
        exact Nat.mul_lt_mul'' bd bi
      walk_at "go"
      refine al fun p H2 _ s2 hp => ?_
      walk_at "go"
      exact q p H2 (some _) (s1.trans s2) (led_ok hn hn' h1 hi rfl) hp
noncomputable abbrev s_withfig : Stmt := (top 20)
theorem sc_withfig : FnScope ["rest", "wide", "figures", "place", "figure", "prime", "weight"] ["rest", "wide", "figures", "place", "figure"] (defScope s_withfig) :=
  ⟨rfl, rfl, rfl, by decide +kernel, rfl, by decide +kernel, by decide +kernel⟩
theorem ok_withfig (F : Dn K mg "with_figure" s_withfig ["rest", "wide", "figures", "place", "figure"]) (T : Bt mg) (c_led : Cal P w K mg base 2 "led_together" spLed []) : Cal P w K mg base 3 "with_figure" spWithFig [] := by
  refine F.cal sc_withfig (fun vs H Q E h => ?_) (fun f cdv A outer s H vs Q E hr h => ?_)
  · obtain ⟨fa, G, t, nr, i, fg, r, wi, N, rfl, _⟩ := h
    rfl
  · obtain ⟨fa, G, t, nr, i, fg, r, wi, N, rfl, ⟨ts, h1, h2⟩, hg, C, N0, N60, hi, hf, S, A, q⟩ := h
    have hx : G[i]? = some G[i] := List.getElem?_eq_getElem hi
    obtain ⟨tq, htq, htt⟩ := paired_getL h2 hx
    obtain ⟨g1, g2, g3, g4⟩ := hg.e _ (List.mem_of_getElem? hx)
    have hp := pF_at hx
    have hw := wt_at hx
    have htt : H tq = some (.tup [.int (pF G i : Int), .int (wt G i : Int)]) := by rw [hp, hw]; exact htt
    rw [← hp] at g1 g2
    rw [← hw] at g3
    have tell := fun {o : Option Int} => tell_fig (r := r) hg C S hi A hf (o := o)
    have hdv := Int.le_of_dvd N0 (C.dv i hi)
    have r0 := S.r0
    have r1 := S.r1
    have wN := Int.le_of_dvd N0 S.wN
    have p0 : (0 : Int) < (pF G i : Int) := by omega
    have t0 : (0 : Int) < (wt G i : Int) := by omega
    have tN : (wt G i : Int) ≤ N := by
      have := Int.mul_le_mul_of_nonneg_left (show (1 : Int) ≤ (pF G i : Int) by omega) (Int.le_of_lt t0)
      omega
    have m0 := Int.emod_nonneg r (show (wt G i : Int) ≠ 0 by omega)
    have m1 := Int.emod_lt_of_pos r t0
    have fm : (fg : Int) * (wt G i : Int) ≤ N := by
      have := Int.mul_le_mul_of_nonneg_right (show (fg : Int) ≤ (pF G i : Int) by omega) (Int.le_of_lt t0)
      rw [Int.mul_comm (pF G i : Int)] at this
      omega
    have fm0 : (0 : Int) ≤ (fg : Int) * (wt G i : Int) := Int.mul_nonneg (by omega) (by omega)
    have n0 : (0 : Int) < (wt G i : Int) * (pF G i : Int) := Int.mul_pos t0 p0
    have c1 : CMx (fg : Int) (wt G i : Int) := mx_l (by omega)
    have c2 : CMx (wt G i : Int) (pF G i : Int) := mx_r (by omega)
    have b60 : (2 : Int) ^ 60 < 2 ^ 200 := by decide
    refine ⟨_, (pss_cons (ps_asg (pe_ix ix_list (pv 2) (pv 3) (fun _ _ => rfl)) (pg_tup rfl (pgs_cons (pg_name (i := 5) sc_withfig.nd rfl (Or.inl rfl)) (pgs_cons (pg_name (i := 6) sc_withfig.nd rfl (Or.inl rfl)) pgs_nil))))
      (pss_one (ps_ret (pe_c c_led hr (by decide) (by rfl) (pa_cons (pv 0) (pa_cons (pv 1) (pa_cons (pe_op op_add (pe_op op_mod (pv 0) (pv 6)) (pe_op oMul (pv 4) (pv 6))) (pa_cons (pe_op oMul (pv 6) (pv 5)) pa_nil)))))))), ?_⟩
    walk_at "go"
    refine w_ixL (sq h1) (at_idx30 (n := i) (x := .ref tq) (by rw [List.getElem?_map, htq]; rfl) rfl) ?_
    refine w_gtup (sqt htt) rfl ?_
    walk_at "go"
    refine ⟨r, wi, r % (wt G i : Int) + (fg : Int) * (wt G i : Int), (wt G i : Int) * (pF G i : Int), rfl, by omega, n0, lt200 (by omega) (by omega), lt200 (by omega) (by omega), lt200 (by omega) (by omega), lt200 (by omega) (by omega), fun p H' o s' ho hp' => ?_⟩
    obtain ⟨z, rfl, e1, e2, e3⟩ := tell ho
    rw [e1] at hp'
    exact q H' p z s' hp' e2 e3
noncomputable abbrev s_withall : Stmt := (top 21)
theorem sc_withall : FnScope ["figures", "rows", "number", "place", "rest", "wide", "found", "figure", "some_rest", "some_wide"] ["figures", "rows", "number", "place", "rest", "wide"] (defScope s_withall) :=
  ⟨rfl, rfl, rfl, by decide +kernel, rfl, by decide +kernel, by decide +kernel⟩
theorem ok_withall {n L : Nat} (hL : 10 ≤ L) (F : Dn K mg "with_all_figures" s_withall ["figures", "rows", "number", "place", "rest", "wide"]) (T : Bt mg) (c_withfig : Cal P w K mg base 3 "with_figure" spWithFig []) (c_rec : Cal P w K mg base L "signed_classes" (spSigN n) []) : Cal P w K mg base (L + 1) "with_all_figures" (spWithAll n) [] := by
  refine F.cal sc_withall (fun vs H Q E h => ?_) (fun f cdv A outer s H vs Q E hr h => ?_)
  · obtain ⟨fa, ra, G, t, nr, i, r, wi, N, rfl, _⟩ := h
    rfl
  · obtain ⟨fa, ra, G, t, nr, i, r, wi, N, rfl, ⟨ts, h1, h2⟩, hg, C, N0, N60, ht, hc, hn, hi, him, S, A, hB, hmu, q⟩ := h
    have hsz : (10000000 : Nat) < sizeLine := by decide
    have hx : G[i]? = some G[i] := List.getElem?_eq_getElem him
    obtain ⟨tq, htq, htt⟩ := paired_getL h2 hx
    obtain ⟨g1, g2, g3, g4⟩ := hg.e _ (List.mem_of_getElem? hx)
    have hp := pF_at hx
    have hBi := sgB_at him
    have htt : H tq = some (.tup [.int (pF G i : Int), .int (G[i].2 : Int)]) := by rw [hp]; exact htt
    rw [← hp] at g1 g2
    have hmu2 : muS G t nr (i + 1) < n := by
      unfold muS at hmu ⊢
      rw [if_neg (by omega)] at hmu
      split <;> omega
    have hB1 : sgB G (i + 1) ≤ 10000000 := by
      have := Nat.le_mul_of_pos_left (sgB G (i + 1)) (show 0 < 2 * pF G i + 1 by omega)
      omega
    have hBp : pF G i * sgB G (i + 1) ≤ sgB G i := by
      rw [hBi]
      exact Nat.mul_le_mul_right _ (by omega)
    refine ⟨_, (pss_cons (ps_set (i := 6) sc_withall.nd rfl (Or.inl rfl) (pe_lst pa_nil))
      (pss_cons (ps_for PassesOwn.never rfl (pi_range1 (by rfl) T.range (pa_cons (pe_ix ix_tup (pe_ix ix_list (pv 0) (pv 3) (fun _ _ => rfl)) pe_int (fun _ _ => rfl)) pa_nil)) (pg_name (i := 7) sc_withall.nd rfl (Or.inl rfl)) (pss_cons (ps_asg (pe_c c_withfig hr (by omega) (by rfl) (pa_cons (pv 4) (pa_cons (pv 5) (pa_cons (pv 0) (pa_cons (pv 3) (pa_cons (pv 7) pa_nil)))))) (pg_tup rfl (pgs_cons (pg_name (i := 8) sc_withall.nd rfl (Or.inl rfl)) (pgs_cons (pg_name (i := 9) sc_withall.nd rfl (Or.inl rfl)) pgs_nil))))
      (pss_one (ps_aug (i := 6) sc_withall.nd rfl (Or.inl rfl) (pe_c c_rec hr (by omega) (by rfl) (pa_cons (pv 0) (pa_cons (pv 1) (pa_cons (pv 2) (pa_cons (pe_op op_add (pv 3) pe_int) (pa_cons (pv 8) (pa_cons (pv 9) pa_nil))))))) iop_ext))))
      (pss_one (ps_ret (pv 6))))), ?_⟩
    walk_at "go"
    refine al fun fl H1 n1 s1 k1 => ?_
    have G0 : GSg H fl [] H1 := .start n1 s1 k1
    have h11 := s1 _ _ h1
    walk_at "go"
    refine w_ixL (sq h11) (at_idx30 (n := i) (x := .ref tq) (by rw [List.getElem?_map, htq]; rfl) rfl) ?_
    have htt1 := s1 _ _ htt
    walk_at "go"
    refine for_range (lo := 0) (n := pF G i) (fun j σ H' => ∃ (v7 v8 v9 : Option V) (zs : List Int) (ls : List (List SC)), σ = [some (.ref fa), some (.ref ra), some (.int (nr : Int)), some (.int (i : Int)), some (.int r), some (.int wi), some (.ref fl), v7, v8, v9] ∧ GSg H fl ls.flatten H' ∧ zs.length = j ∧ ls.length = j ∧ ls.flatten.length ≤ j * sgB G (i + 1) ∧ (∀ f z l, zs[f]? = some z → ls[f]? = some l → (∀ x : Int, (x - z) % (wi * (pF G i : Int)) = 0 ↔ (x - r) % wi = 0 ∧ dig G x i = f) ∧ SgRes G t nr z (wi * (pF G i : Int)) l)) ⟨_, _, _, [], [], rfl, G0, rfl, rfl, Nat.zero_le _, fun f z l e _ => by cases e⟩ ?_ ?_
    · rintro j σ H2 hj ⟨v7, v8, v9, zs, ls, rfl, GS, lz, ll, lf, hz⟩
      have S2 : Same H H2 := GS.sm.trans rm_le
      walk_at "go"
      refine ⟨fa, G, t, nr, i, j, r, wi, N, by rw [Int.zero_add]; rfl, FigL.same ⟨ts, h1, h2⟩ S2, hg, C, N0, N60, him, hj, S, A, fun H3 a z s3 k3 hsig hzx => ?_⟩
      refine w_gtup (sqt k3) rfl ?_
      have S3 := S2.trans s3
      have GS3 := GS.same s3
      walk_at "go"
      refine ⟨fa, ra, G, t, nr, i + 1, z, wi * (pF G i : Int), N, rfl, FigL.same ⟨ts, h1, h2⟩ S3, hg, C, N0, N60, ht.same S3, hc, hn, hi, hsig nr, hB1, hmu2, fun H4 a4 L4 n4 s4 hL4 hres hlen => ?_⟩
      have hlen := Nat.le_trans hlen lenS_le
      obtain ⟨us, hu1, hu2⟩ := hL4
      have GS4 := GS3.same s4
      obtain ⟨fs, hf1, hf2⟩ := GS4.li
      have e1 := hf2.length
      have e2 := hu2.length
      have hjj : (j + 1) * sgB G (i + 1) ≤ pF G i * sgB G (i + 1) := Nat.mul_le_mul_right _ hj
      rw [Nat.succ_mul] at hjj
      walk_at "go"
      refine ⟨fl, a4, _, _, rfl, rfl, hf1, hu1, by rw [List.length_map, List.length_map]; omega, ?_⟩
      walk_at "go"
      refine ⟨_, _, _, zs ++ [z], ls ++ [L4], rfl, ?_, by rw [List.length_append, lz]; rfl, by rw [List.length_append, ll]; rfl, ?_, fun f z' l' hz' hl' => ?_⟩
      · rw [List.flatten_append, show [L4].flatten = L4 by simp]
        exact GS4.ext hf1 hf2 hu2
      · rw [List.flatten_append, show [L4].flatten = L4 by simp, List.length_append, Nat.succ_mul]
        omega
      · rcases get_snoc30 hz' with a1 | ⟨a1, a2⟩
        · rcases get_snoc30 hl' with b1 | ⟨b1, b2⟩
          · exact hz f z' l' a1 b1
          · have := (List.getElem?_eq_some_iff.mp a1).1
            omega
        · rcases get_snoc30 hl' with b1 | ⟨b1, b2⟩
          · have := (List.getElem?_eq_some_iff.mp b1).1
            omega
          · rw [a2, b2, show f = j by omega]
            exact ⟨hzx, hres⟩
    · rintro σ H2 ⟨v7, v8, v9, zs, ls, rfl, GS, lz, ll, lf, hz⟩
      walk_at "go"
      have hfun := lists_fun ll ([] : List SC)
      have hall : ∀ f, f < pF G i → (∀ x : Int, (x - zs.getD f 0) % (wi * (pF G i : Int)) = 0 ↔ (x - r) % wi = 0 ∧ dig G x i = f) ∧ SgRes G t nr (zs.getD f 0) (wi * (pF G i : Int)) (ls.getD f []) := fun f hf => hz f _ _ (getD_some30 lz hf 0) (getD_some30 ll hf [])
      refine q H2 fl ls.flatten n1 (GS.sm.trans rm_le) GS.all ⟨?_, fun x => ?_⟩ (by omega)
      · rw [hfun]
        refine Sg1.flat fun l hl => ?_
        obtain ⟨f, hf, rfl⟩ := List.mem_map.mp hl
        exact (hall f (List.mem_range.mp hf)).2.sg
      · have := sig_figs (t := t) (i := i) (r := r) (w := wi) (p := pF G i) (z := fun f => zs.getD f 0) (g := fun _ => nr) (L := fun f => ls.getD f []) (fun f hf => (hall f hf).1) (fun x => (dig_val (fun e he => by have := (hg.e e he).1; omega)) i him) (fun f hf => (hall f hf).2) x
        rw [← hfun] at this
        exact this
noncomputable abbrev s_byeach : Stmt := (top 22)
theorem sc_byeach : FnScope ["figures", "rows", "number", "rest", "wide", "place", "usual", "exceptions", "told", "found", "figure", "some_rest", "some_wide"] ["figures", "rows", "number", "rest", "wide"] (defScope s_byeach) :=
  ⟨rfl, rfl, rfl, by decide +kernel, rfl, by decide +kernel, by decide +kernel⟩
theorem ok_byeach {n L : Nat} (hL : 10 ≤ L) (F : Dn K mg "by_each_figure" s_byeach ["figures", "rows", "number", "rest", "wide"]) (T : Bt mg) (zdict : mg "dict" = none) (c_withfig : Cal P w K mg base 3 "with_figure" spWithFig []) (c_rec : Cal P w K mg base L "signed_classes" (spSigN n) []) : Cal P w K mg base (L + 1) "by_each_figure" (spByEach n) [] := by
  refine F.cal sc_byeach (fun vs H Q E h => ?_) (fun f cdv A outer s H vs Q E hr h => ?_)
  · obtain ⟨fa, ra, G, t, nr, r, wi, N, rfl, _⟩ := h
    rfl
  · obtain ⟨fa, ra, G, t, nr, r, wi, N, rfl, ⟨ts, h1, h2⟩, hg, C, N0, N60, ht, hc, hn2, hn, S, A, hB, hmu, q⟩ := h
    have hsz : (10000000 : Nat) < sizeLine := by decide
    have him := hc.wf.pl nr hn2 hn
    obtain ⟨i, hi⟩ : ∃ i, i = (rowAt t nr).1 := ⟨_, rfl⟩
    rw [← hi] at S A hB hmu q him
    have hx : G[i]? = some G[i] := List.getElem?_eq_getElem him
    obtain ⟨tq, htq, htt⟩ := paired_getL h2 hx
    obtain ⟨g1, g2, g3, g4⟩ := hg.e _ (List.mem_of_getElem? hx)
    have hp := pF_at hx
    have hBi := sgB_at him
    have htt : H tq = some (.tup [.int (pF G i : Int), .int (G[i].2 : Int)]) := by rw [hp]; exact htt
    rw [← hp] at g1 g2
    obtain ⟨trs, qx, ex, esx, b1, b2, b3, b4, b5⟩ := ht.frz hc hn2 hn
    have hmu2 : ∀ b, muS G t b (i + 1) < n := fun b => by
      unfold muS at hmu ⊢
      rw [if_pos hi.symm] at hmu
      split <;> omega
    have hB1 : sgB G (i + 1) ≤ 10000000 := Nat.le_trans sgB_le hB
    have hBp : pF G i * sgB G (i + 1) ≤ sgB G i := by
      rw [hBi]
      exact Nat.mul_le_mul_right _ (by omega)
    have hexc := hc.ex nr hn2 hn
    have hnd : ((chI (rowAt t nr).2.2).map (·.1)).Nodup := by
      rw [nd_chI, hexc]
      unfold excOf
      rw [List.map_map]
      refine List.pairwise_map.mpr ((List.nodup_range.filter _).imp fun {a b} hne e => hne e)
    have hbel : ∀ f, chG (rowAt t nr).2.2 (rowAt t nr).2.1 f = belowF (rowAt t nr) f := fun f => rfl
    rw [← hi] at b3
    refine ⟨_, (pss_cons (ps_asg (pe_ix ix_tup (pv 1) (pv 2) (fun _ _ => rfl)) (pg_tup rfl (pgs_cons (pg_name (i := 5) sc_byeach.nd rfl (Or.inl rfl)) (pgs_cons (pg_name (i := 6) sc_byeach.nd rfl (Or.inl rfl)) (pgs_cons (pg_name (i := 7) sc_byeach.nd rfl (Or.inl rfl)) pgs_nil)))))
      (pss_cons (ps_set (i := 8) sc_byeach.nd rfl (Or.inl rfl) (pe_callTy (call_dictF30 rfl) (by rfl) zdict (by decide +kernel) (pa_cons (pv 7) pa_nil)))
      (pss_cons (ps_set (i := 9) sc_byeach.nd rfl (Or.inl rfl) (pe_lst pa_nil))
      (pss_cons (ps_for PassesOwn.never rfl (pi_range1 (by rfl) T.range (pa_cons (pe_ix ix_tup (pe_ix ix_list (pv 0) (pv 5) (fun _ _ => rfl)) pe_int (fun _ _ => rfl)) pa_nil)) (pg_name (i := 10) sc_byeach.nd rfl (Or.inl rfl)) (pss_cons (ps_asg (pe_c c_withfig hr (by omega) (by rfl) (pa_cons (pv 3) (pa_cons (pv 4) (pa_cons (pv 0) (pa_cons (pv 5) (pa_cons (pv 10) pa_nil)))))) (pg_tup rfl (pgs_cons (pg_name (i := 11) sc_byeach.nd rfl (Or.inl rfl)) (pgs_cons (pg_name (i := 12) sc_byeach.nd rfl (Or.inl rfl)) pgs_nil))))
      (pss_one (ps_aug (i := 9) sc_byeach.nd rfl (Or.inl rfl) (pe_c c_rec hr (by omega) (by rfl) (pa_cons (pv 0) (pa_cons (pv 1) (pa_cons (pe_dget2 (u66 hr) (pv 8) (pv 10) (pv 6) ⟨rfl, rfl, rfl, rfl⟩) (pa_cons (pe_op op_add (pv 5) pe_int) (pa_cons (pv 11) (pa_cons (pv 12) pa_nil))))))) iop_ext))))
      (pss_one (ps_ret (pv 9))))))), ?_⟩
    walk_at "go"
    refine w_ixT (sqt b1) (at_idx30 (n := nr) (x := .ref qx) (by rw [List.getElem?_map, b2]; rfl) rfl) ?_
    refine w_gtup (sqt b3) rfl ?_
    walk_at "go"
    refine ⟨ex, esx, toK (chI (rowAt t nr).2.2), rfl, b4, toK_tp30 (paired_map2 (f := fun e : Nat × Nat => ((e.1 : Int), (e.2 : Int))) (g := id) (fun a b z => z) b5 |> fun z => by rw [List.map_id] at z; exact z), fun td ntd => ?_⟩
    rw [show mergeK [] (toK (chI (rowAt t nr).2.2)) = toK (chI (rowAt t nr).2.2) from mergeK_toK _ [] hnd]
    have s0 : Same H (L2.upd H td (.dK (toK (chI (rowAt t nr).2.2)))) := Same.new ntd
    have k0 : L2.upd H td (.dK (toK (chI (rowAt t nr).2.2))) td = some (.dK (toK (chI (rowAt t nr).2.2))) := L2.upd_same
    generalize L2.upd H td (.dK (toK (chI (rowAt t nr).2.2))) = H0 at s0 k0 ⊢
    walk_at "go"
    refine al fun fl H1 n1 s1 k1 => ?_
    have S1 := s0.trans s1
    have ntf : td ≠ fl := (new_ne k0 n1).symm
    have G0 : GSg H0 fl [] H1 := .start n1 s1 k1
    have h11 := S1 _ _ h1
    walk_at "go"
    refine w_ixL (sq h11) (at_idx30 (n := i) (x := .ref tq) (by rw [List.getElem?_map, htq]; rfl) rfl) ?_
    have htt1 := S1 _ _ htt
    walk_at "go"
    refine for_range (lo := 0) (n := pF G i) (fun j σ H' => ∃ (v7 v8 v9 : Option V) (zs : List Int) (ls : List (List SC)), σ = [some (.ref fa), some (.ref ra), some (.int (nr : Int)), some (.int r), some (.int wi), some (.int (i : Int)), some (.int ((rowAt t nr).2.1 : Int)), some (.ref ex), some (.ref td), some (.ref fl), v7, v8, v9] ∧ GSg H0 fl ls.flatten H' ∧ zs.length = j ∧ ls.length = j ∧ ls.flatten.length ≤ j * sgB G (i + 1) ∧ (∀ f z l, zs[f]? = some z → ls[f]? = some l → (∀ x : Int, (x - z) % (wi * (pF G i : Int)) = 0 ↔ (x - r) % wi = 0 ∧ dig G x i = f) ∧ SgRes G t (belowF (rowAt t nr) f) z (wi * (pF G i : Int)) l)) ⟨_, _, _, [], [], rfl, G0, rfl, rfl, Nat.zero_le _, fun f z l e _ => by cases e⟩ ?_ ?_
    · rintro j σ H2 hj ⟨v7, v8, v9, zs, ls, rfl, GS, lz, ll, lf, hz⟩
      have S02 : Same H0 H2 := GS.sm.trans rm_le
      have S2 : Same H H2 := s0.trans S02
      walk_at "go"
      refine ⟨fa, G, t, nr, i, j, r, wi, N, by rw [Int.zero_add]; rfl, FigL.same ⟨ts, h1, h2⟩ S2, hg, C, N0, N60, him, hj, S, A, fun H3 a z s3 k3 hsig hzx => ?_⟩
      refine w_gtup (sqt k3) rfl ?_
      have S3 := S2.trans s3
      have GS3 := GS.same s3
      have k03 := s3 _ _ (S02 _ _ k0)
      walk_at "go"
      refine w_dget2 ?_
      walk_at "go"
      refine ⟨.inl ⟨_, .inl k03⟩, ?_⟩
      walk_at "go"
      rw [Int.zero_add]
      refine ⟨_, DGet.k (k := .inl (j : Int)) k03, ?_⟩
      rw [look_get, chI_get, hbel]
      have hbl := hc.wf.dn nr hn2 hn j
      have hbu := hc.wf.up nr hn2 hn j
      walk_at "go"
      refine ⟨fa, ra, G, t, belowF (rowAt t nr) j, i + 1, z, wi * (pF G i : Int), N, rfl, FigL.same ⟨ts, h1, h2⟩ S3, hg, C, N0, N60, ht.same S3, hc, by omega, by omega, hsig _, hB1, hmu2 _, fun H4 a4 L4 n4 s4 hL4 hres hlen => ?_⟩
      have hlen := Nat.le_trans hlen lenS_le
      obtain ⟨us, hu1, hu2⟩ := hL4
      have GS4 := GS3.same s4
      obtain ⟨fs, hf1, hf2⟩ := GS4.li
      have e1 := hf2.length
      have e2 := hu2.length
      have hjj : (j + 1) * sgB G (i + 1) ≤ pF G i * sgB G (i + 1) := Nat.mul_le_mul_right _ hj
      rw [Nat.succ_mul] at hjj
      walk_at "go"
      refine ⟨fl, a4, _, _, rfl, rfl, hf1, hu1, by rw [List.length_map, List.length_map]; omega, ?_⟩
      walk_at "go"
      refine ⟨_, _, _, zs ++ [z], ls ++ [L4], rfl, ?_, by rw [List.length_append, lz]; rfl, by rw [List.length_append, ll]; rfl, ?_, fun f z' l' hz' hl' => ?_⟩
      · rw [List.flatten_append, show [L4].flatten = L4 by simp]
        exact GS4.ext hf1 hf2 hu2
      · rw [List.flatten_append, show [L4].flatten = L4 by simp, List.length_append, Nat.succ_mul]
        omega
      · rcases get_snoc30 hz' with a1 | ⟨a1, a2⟩
        · rcases get_snoc30 hl' with b1 | ⟨b1, b2⟩
          · exact hz f z' l' a1 b1
          · have := (List.getElem?_eq_some_iff.mp a1).1
            omega
        · rcases get_snoc30 hl' with b1 | ⟨b1, b2⟩
          · have := (List.getElem?_eq_some_iff.mp b1).1
            omega
          · rw [a2, b2, show f = j by omega]
            exact ⟨hzx, hres⟩
    · rintro σ H2 ⟨v7, v8, v9, zs, ls, rfl, GS, lz, ll, lf, hz⟩
      walk_at "go"
      have hfun := lists_fun ll ([] : List SC)
      have hall : ∀ f, f < pF G i → (∀ x : Int, (x - zs.getD f 0) % (wi * (pF G i : Int)) = 0 ↔ (x - r) % wi = 0 ∧ dig G x i = f) ∧ SgRes G t (belowF (rowAt t nr) f) (zs.getD f 0) (wi * (pF G i : Int)) (ls.getD f []) := fun f hf => hz f _ _ (getD_some30 lz hf 0) (getD_some30 ll hf [])
      have nfl : H fl = none := s0.free n1
      refine q H2 fl ls.flatten nfl (s0.trans (GS.sm.trans rm_le)) GS.all ⟨?_, fun x => ?_⟩ (by omega)
      · rw [hfun]
        refine Sg1.flat fun l hl => ?_
        obtain ⟨f, hf, rfl⟩ := List.mem_map.mp hl
        exact (hall f (List.mem_range.mp hf)).2.sg
      · have := sig_figs (t := t) (i := i) (r := r) (w := wi) (p := pF G i) (z := fun f => zs.getD f 0) (g := fun f => belowF (rowAt t nr) f) (L := fun f => ls.getD f []) (fun f hf => (hall f hf).1) (fun x => (dig_val (fun e he => by have := (hg.e e he).1; omega)) i him) (fun f hf => (hall f hf).2) x
        rw [← hfun] at this
        rw [this, sem_ge hc.wf hn2 hn, ← hi]
noncomputable abbrev s_sigcls : Stmt := (top 23)
theorem sc_sigcls : FnScope ["figures", "rows", "number", "place", "rest", "wide", "here", "usual", "exceptions", "found", "figure", "below", "some_rest", "some_wide", "one_rest", "one_wide", "sign"] ["figures", "rows", "number", "place", "rest", "wide"] (defScope s_sigcls) :=
  ⟨rfl, rfl, rfl, by decide +kernel, rfl, by decide +kernel, by decide +kernel⟩
theorem ok_sigcls {n L : Nat} {tN tE : Tok} (hL : 10 ≤ L) (F : Dn K mg "signed_classes" s_sigcls ["figures", "rows", "number", "place", "rest", "wide"]) (T : Bt mg) (zNONE : mg "NONE" = some (.int 0 tN)) (zEVERY : mg "EVERY" = some (.int 1 tE)) (c_withfig : Cal P w K mg base 3 "with_figure" spWithFig []) (c_withall : Cal P w K mg base (L + 1) "with_all_figures" (spWithAll n) []) (c_byeach : Cal P w K mg base (L + 1) "by_each_figure" (spByEach n) []) (c_rec : Cal P w K mg base L "signed_classes" (spSigN n) []) : Cal P w K mg base (L + 2) "signed_classes" (spSigN (n + 1)) [] := by
  refine F.cal sc_sigcls (fun vs H Q E h => ?_) (fun f cdv A outer s H vs Q E hr h => ?_)
  · obtain ⟨fa, ra, G, t, nr, i, r, wi, N, rfl, _⟩ := h
    rfl
  · obtain ⟨fa, ra, G, t, nr, i, r, wi, N, rfl, hf0, hg, C, N0, N60, ht, hc, hn, hi, S, hB, hmu, q⟩ := h
    obtain ⟨ts, h1, h2⟩ := id hf0
    have hsz : (10000000 : Nat) < sizeLine := by decide
    have r0 := S.r0
    have r1 := S.r1
    have wN := Int.le_of_dvd N0 S.wN
    have hB1 : sgB G (i + 1) ≤ 10000000 := Nat.le_trans sgB_le hB
    have hBp := sgB_pos G (i + 1)
    refine ⟨_, (pss_cons (ps_if (pt_cmpR op_eq (pv 2) (pe_glob (v := .int 0) (by rfl) zNONE ⟨_, rfl⟩) (nomark _)) (pss_one (ps_ret (pe_lst pa_nil))) pss_nil)
      (pss_cons (ps_if (pt_cmpR op_eq (pv 2) (pe_glob (v := .int 1) (by rfl) zEVERY ⟨_, rfl⟩) (nomark _)) (pss_one (ps_ret (pe_lst (pa_cons (pe_tup (pa_cons (pv 4) (pa_cons (pv 5) (pa_cons pe_int pa_nil)))) pa_nil)))) pss_nil)
      (pss_cons (ps_asg (pe_ix ix_tup (pv 1) (pv 2) (fun _ _ => rfl)) (pg_tup rfl (pgs_cons (pg_name (i := 6) sc_sigcls.nd rfl (Or.inl rfl)) (pgs_cons (pg_name (i := 7) sc_sigcls.nd rfl (Or.inl rfl)) (pgs_cons (pg_name (i := 8) sc_sigcls.nd rfl (Or.inl rfl)) pgs_nil)))))
      (pss_cons (ps_if (pt_cmpR op_gt (pv 6) (pv 3) (nomark _)) (pss_cons (ps_if (pt_cmpR op_eq (pe_ix ix_tup (pe_ix ix_list (pv 0) (pv 6) (fun _ _ => rfl)) pe_int (fun _ _ => rfl)) (pe_ix ix_tup (pe_ix ix_list (pv 0) (pv 3) (fun _ _ => rfl)) pe_int (fun _ _ => rfl)) (nomark _)) (pss_one (ps_ret (pe_c c_withall hr (by omega) (by rfl) (pa_cons (pv 0) (pa_cons (pv 1) (pa_cons (pv 2) (pa_cons (pv 3) (pa_cons (pv 4) (pa_cons (pv 5) pa_nil))))))))) pss_nil)
      (pss_one (ps_ret (pe_c c_rec hr (by omega) (by rfl) (pa_cons (pv 0) (pa_cons (pv 1) (pa_cons (pv 2) (pa_cons (pe_op op_add (pv 3) pe_int) (pa_cons (pv 4) (pa_cons (pv 5) pa_nil)))))))))) pss_nil)
      (pss_cons (ps_if (PW.pt (pw_and (pt_cmpR op_notIn_seq (pv 7) (pe_tup (pa_cons (pe_glob (v := .int 0) (by rfl) zNONE ⟨_, rfl⟩) (pa_cons (pe_glob (v := .int 1) (by rfl) zEVERY ⟨_, rfl⟩) pa_nil))) (by rfl)) (pw_and1 (pt_cmpR op_eq (pe_ix ix_tup (pe_ix ix_list (pv 0) (pe_ix ix_tup (pe_ix ix_tup (pv 1) (pv 7) (fun _ _ => rfl)) pe_int (fun _ _ => rfl)) (fun _ _ => rfl)) pe_int (fun _ _ => rfl)) (pe_ix ix_tup (pe_ix ix_list (pv 0) (pv 3) (fun _ _ => rfl)) pe_int (fun _ _ => rfl)) (nomark _))))) (pss_one (ps_ret (pe_c c_byeach hr (by omega) (by rfl) (pa_cons (pv 0) (pa_cons (pv 1) (pa_cons (pv 2) (pa_cons (pv 4) (pa_cons (pv 5) pa_nil)))))))) pss_nil)
      (pss_cons (ps_set (i := 9) sc_sigcls.nd rfl (Or.inl rfl) (pe_c c_rec hr (by omega) (by rfl) (pa_cons (pv 0) (pa_cons (pv 1) (pa_cons (pv 7) (pa_cons (pv 3) (pa_cons (pv 4) (pa_cons (pv 5) pa_nil))))))))
      (pss_cons (ps_for PassesOwn.never rfl (pi_tup (pv 8)) (pg_tup rfl (pgs_cons (pg_name (i := 10) sc_sigcls.nd rfl (Or.inl rfl)) (pgs_cons (pg_name (i := 11) sc_sigcls.nd rfl (Or.inl rfl)) pgs_nil))) (pss_cons (ps_asg (pe_c c_withfig hr (by omega) (by rfl) (pa_cons (pv 4) (pa_cons (pv 5) (pa_cons (pv 0) (pa_cons (pv 3) (pa_cons (pv 10) pa_nil)))))) (pg_tup rfl (pgs_cons (pg_name (i := 12) sc_sigcls.nd rfl (Or.inl rfl)) (pgs_cons (pg_name (i := 13) sc_sigcls.nd rfl (Or.inl rfl)) pgs_nil))))
      (pss_cons (ps_aug (i := 9) sc_sigcls.nd rfl (Or.inl rfl) (pe_c c_rec hr (by omega) (by rfl) (pa_cons (pv 0) (pa_cons (pv 1) (pa_cons (pv 11) (pa_cons (pe_op op_add (pv 3) pe_int) (pa_cons (pv 12) (pa_cons (pv 13) pa_nil))))))) iop_ext)
      (pss_one (ps_for PassesOwn.never rfl (pi_list (pe_c c_rec hr (by omega) (by rfl) (pa_cons (pv 0) (pa_cons (pv 1) (pa_cons (pv 7) (pa_cons (pe_op op_add (pv 3) pe_int) (pa_cons (pv 12) (pa_cons (pv 13) pa_nil)))))))) (pg_tup rfl (pgs_cons (pg_name (i := 14) sc_sigcls.nd rfl (Or.inl rfl)) (pgs_cons (pg_name (i := 15) sc_sigcls.nd rfl (Or.inl rfl)) (pgs_cons (pg_name (i := 16) sc_sigcls.nd rfl (Or.inl rfl)) pgs_nil)))) (pss_one (ps_expr (pe_bm PySem.F.plainAttrs_list PySem.F.slot_list_append PySem.F.type_list_append mt_append (pv 9) (pa_cons (pe_tup (pa_cons (pv 14) (pa_cons (pv 15) (pa_cons (pe_un un_neg (pv 16)) pa_nil)))) pa_nil)))))))))
      (pss_one (ps_ret (pv 9)))))))))), ?_⟩
    walk_at "go"
    rw [decI]
    refine ite_d (fun c0 => ?_) (fun c0 => ?_)
    · have c0 : nr = 0 := by omega
      subst c0
      walk_at "go"
      refine al fun a H1 n1 s1 k1 => ?_
      refine q H1 a [] n1 s1 ⟨[], k1, .nil⟩ ⟨fun e he => (by cases he), fun x => ?_⟩ (Nat.zero_le _)
      rw [sem_lt (by decide)]
      show (0 : Int) = if (inC r wi x && false) = true then 1 else 0
      rw [Bool.and_false]
      rfl
    walk_at "go"
    rw [decI]
    refine ite_d (fun c1 => ?_) (fun c1 => ?_)
    · have c1 : nr = 1 := by omega
      subst c1
      walk_at "go"
      refine al fun tp H1 n1 s1 k1 => ?_
      walk_at "go"
      refine al fun a H2 n2 s2 k2 => ?_
      refine q H2 a [(r, wi, 1)] (s1.free n2) (s1.trans s2) ⟨[tp], k2, .cons (s2 _ _ k1) .nil⟩ ⟨fun e he => ?_, fun x => ?_⟩ ?_
      · rw [List.mem_singleton.mp he]
        exact ⟨r0, r1, by show wi < 2 ^ 60; omega, .inl rfl⟩
      · rw [sem_lt (by decide)]
        show (([(r, wi, 1)] : List SC).map fun e => if (x - e.1) % e.2.1 = 0 then e.2.2 else 0).sum = if (inC r wi x && true) = true then 1 else 0
        rw [Bool.and_true, List.map_cons, List.map_nil, List.sum_cons, List.sum_nil, Int.add_zero]
        by_cases z : (x - r) % wi = 0
        · rw [if_pos z, if_pos (inC_iff.mpr z)]
        · rw [if_neg z, if_neg (fun y => z (inC_iff.mp y))]
      · unfold lenS
        rw [if_pos (.inl (by decide))]
        exact hBp
    have hn2 : 2 ≤ nr := by omega
    have hhm := hc.wf.pl nr hn2 hn
    obtain ⟨trs, qx, ex, esx, b1, b2, b3, b4, b5⟩ := ht.frz hc hn2 hn
    have b4s : SqT K H ex (esx.map V.ref) := by obtain ⟨o, _, z⟩ := b4; exact .inl (.inr ⟨o, z⟩)
    have him : i < G.length := by omega
    obtain ⟨tq, htq, htt⟩ := paired_getL h2 (show G[i]? = some G[i] from List.getElem?_eq_getElem him)
    obtain ⟨tq', htq', htt'⟩ := paired_getL h2 (show G[(rowAt t nr).1]? = some G[(rowAt t nr).1] from List.getElem?_eq_getElem hhm)
    have htt : H tq = some (.tup [.int (pF G i : Int), .int (G[i].2 : Int)]) := by rw [pF_at (List.getElem?_eq_getElem him)]; exact htt
    have htt' : H tq' = some (.tup [.int (pF G (rowAt t nr).1 : Int), .int (G[(rowAt t nr).1].2 : Int)]) := by rw [pF_at (List.getElem?_eq_getElem hhm)]; exact htt'
    have hBi := sgB_at him
    walk_at "go"
    refine w_ixT (sqt b1) (at_idx30 (n := nr) (x := .ref qx) (by rw [List.getElem?_map, b2]; rfl) rfl) ?_
    refine w_gtup (sqt b3) rfl ?_
    walk_at "go"
    refine ite_d (fun c2 => ?_) (fun c2 => ?_)
    · have c2 : i < (rowAt t nr).1 := by omega
      have hmu1 : muS G t nr (i + 1) < n := by
        unfold muS at hmu ⊢
        rw [if_neg (by omega)] at hmu
        split <;> omega
      walk_at "go"
      refine w_ixL (sq h1) (at_idx30 (n := (rowAt t nr).1) (x := .ref tq') (by rw [List.getElem?_map, htq']; rfl) rfl) ?_
      walk_at "go"
      refine w_ixL (sq h1) (at_idx30 (n := i) (x := .ref tq) (by rw [List.getElem?_map, htq]; rfl) rfl) ?_
      walk_at "go"
      rw [decI]
      refine ite_d (fun c3 => ?_) (fun c3 => ?_)
      · have c3 : pF G (rowAt t nr).1 = pF G i := by omega
        walk_at "go"
        refine ⟨fa, ra, G, t, nr, i, r, wi, N, rfl, hf0, hg, C, N0, N60, ht, hc, hn, c2, him, S, S.p2 him hn2 c3, hB, hmu, fun H' a L na s' hL hR hl => ?_⟩
        refine q H' a L na s' hL hR ?_
        unfold lenS
        rw [if_neg (fun z => z.elim (fun z => by omega) fun z => z c3)]
        exact hl
      · have c3 : pF G (rowAt t nr).1 ≠ pF G i := by omega
        walk_at "go"
        refine ⟨fa, ra, G, t, nr, i + 1, r, wi, N, rfl, hf0, hg, C, N0, N60, ht, hc, hn, c2, S.skip C (fun _ => c3), hB1, hmu1, fun H' a L na s' hL hR hl => ?_⟩
        refine q H' a L na s' hL hR ?_
        unfold lenS
        rw [if_pos (.inr c3)]
        exact Nat.le_trans hl lenS_le
    have hie : i = (rowAt t nr).1 := by omega
    have A : Af G i wi := S.p2 him hn2 (by rw [hie])
    obtain ⟨hus, hel⟩ := hc.exc_lt hn2 hn
    have husl : (rowAt t nr).2.1 < t.length := by omega
    have husp : i < (rowAt t (rowAt t nr).2.1).1 := by
      obtain ⟨f0, _, hf0'⟩ := hc.us nr hn2 hn
      have := hc.wf.up nr hn2 hn f0
      rw [← hf0'] at this
      omega
    have hmu2 : ∀ b, muS G t b (i + 1) < n := fun b => by
      unfold muS at hmu ⊢
      rw [if_pos hie.symm] at hmu
      split <;> omega
    have hmu3 : muS G t (rowAt t nr).2.1 i < n := by
      unfold muS at hmu ⊢
      rw [if_pos hie.symm] at hmu
      rw [if_neg (by omega)]
      omega
    have hlen1 : lenS G t nr i = sgB G i := by
      unfold lenS
      rw [if_neg (fun z => z.elim (fun z => by omega) fun z => z (by rw [hie]))]
    rw [hlen1] at q
    obtain ⟨trs2, qu, eu, esu, u1, u2, u3, u4, u5⟩ := ht.row husl
    have husn : 2 ≤ (rowAt t nr).2.1 → (rowAt t (rowAt t nr).2.1).1 < G.length := fun z => hc.wf.pl _ z husl
    have hexc := hc.ex nr hn2 hn
    have hnd : ((rowAt t nr).2.2.map (·.1)).Nodup := by
      rw [hexc]
      unfold excOf
      rw [List.map_map]
      refine List.pairwise_map.mpr ((List.nodup_range.filter _).imp fun {a b} hne e => hne e)
    have hepl : ∀ e ∈ (rowAt t nr).2.2, e.1 < pF G i ∧ i + 1 ≤ (rowAt t e.2).1 := fun e he => by
      rw [hexc] at he
      obtain ⟨y, hy, rfl⟩ := List.mem_map.mp he
      have := List.mem_range.mp (List.mem_filter.mp hy).1
      rw [← hie] at this
      have h2 := hc.wf.up nr hn2 hn y
      exact ⟨this, by show i + 1 ≤ (rowAt t (belowF (rowAt t nr) y)).1; omega⟩
    have hexl : (rowAt t nr).2.2.length ≤ pF G i := by
      rw [hexc, ← hie]
      unfold excOf
      rw [List.length_map]
      exact Nat.le_trans (List.length_filter_le _ _) (by rw [List.length_range]; exact Nat.le_refl _)
    have hsem := fun x : Int => sem_ge hc.wf hn2 hn (d := dig G x)
    have hbF : ∀ f, belowF (rowAt t nr) f = belowF (0, (rowAt t nr).2.1, (rowAt t nr).2.2) f := fun f => rfl
    simp only [hbF, ← hie] at hsem
    generalize hus' : (rowAt t nr).2.1 = us at *
    generalize hes' : (rowAt t nr).2.2 = es at *
    walk_at "go"
    refine al fun p1 H1 n1 s1 k1 => ?_
    walk_at "go"
    refine w_notLow k1 ?_
    walk_at "go"
    refine test_joinB (decide (2 ≤ us ∧ pF G (rowAt t us).1 = pF G i)) (fun H' => Same H H') ?_ ?_ ?_
    rotate_left
    · intro c Q' q'
      have c : 2 ≤ us := by
        have c : decide (us < 2) = false := by rw [Bool.not_eq_true'] at c; exact c
        have := of_decide_eq_false c
        omega
      have hux := List.getElem?_eq_getElem (husn c)
      obtain ⟨tu, htu, htv⟩ := paired_getL h2 hux
      have htv : H tu = some (.tup [.int (pF G (rowAt t us).1 : Int), .int ((G[(rowAt t us).1]'(husn c)).2 : Int)]) := by rw [pF_at hux]; exact htv
      have u3' := s1 _ _ u3
      have htv' := s1 _ _ htv
      have htt1 := s1 _ _ htt
      walk_at "go"
      refine w_ixT (sqt (s1 _ _ u1)) (at_idx30 (n := us) (x := .ref qu) (by rw [List.getElem?_map, u2]; rfl) rfl) ?_
      walk_at "go"
      refine w_ixL (sq (s1 _ _ h1)) (at_idx30 (n := (rowAt t us).1) (x := .ref tu) (by rw [List.getElem?_map, htu]; rfl) rfl) ?_
      walk_at "go"
      refine w_ixL (sq (s1 _ _ h1)) (at_idx30 (n := i) (x := .ref tq) (by rw [List.getElem?_map, htq]; rfl) rfl) ?_
      walk_at "go"
      rw [decI, show decide (((pF G (rowAt t us).1 : Nat) : Int) = ((pF G i : Nat) : Int)) = decide (2 ≤ us ∧ pF G (rowAt t us).1 = pF G i) from decide_eq_decide.mpr ⟨fun z => ⟨c, by omega⟩, fun z => by rw [z.2]⟩]
      exact q' _ s1
    · intro c
      have c : us < 2 := by
        have c : decide (us < 2) = true := by rw [Bool.not_eq_false'] at c; exact c
        exact of_decide_eq_true c
      exact ⟨decide_eq_false fun z => by omega, s1⟩
    intro HA sA
    by_cases c : 2 ≤ us ∧ pF G (rowAt t us).1 = pF G i
    · rw [decide_eq_true c]
      refine iteT ?_
      walk_at "go"
      refine ⟨fa, ra, G, t, nr, r, wi, N, rfl, hf0.same sA, hg, C, N0, N60, ht.same sA, hc, hn2, hn, by rw [← hie]; exact S, by rw [← hie]; exact A, by rw [← hie]; exact hB, by rw [← hie]; exact hmu, fun H' a L na s' hL hR hl => ?_⟩
      rw [← hie] at hl
      exact q H' a L (sA.free na) (sA.trans s') hL hR hl
    · rw [decide_eq_false c]
      refine iteF ?_
      have hcl : lenS G t us i = sgB G (i + 1) := by
        unfold lenS
        rw [if_pos]
        by_cases c2 : us < 2
        · exact .inl c2
        · exact .inr fun z => c ⟨by omega, z⟩
      walk_at "go"
      refine ⟨fa, ra, G, t, us, i, r, wi, N, rfl, hf0.same sA, hg, C, N0, N60, ht.same sA, hc, husl, by omega, S.usual (fun z _ => fun y => c ⟨z, y⟩), hB, hmu3, fun H0 fl L0 nfl s0 hL0 hR0 hl0 => ?_⟩
      rw [hcl] at hl0
      obtain ⟨fs0, hfs0, hfp0⟩ := hL0
      have G0 : GSg HA fl L0 H0 := ⟨fun b o e => rm_of (fun z => by rw [z, nfl] at e; cases e) (s0 _ _ e), fs0, hfs0, paired_imp (fun _ _ z => ScE.rm z hfs0) hfp0⟩
      walk_at "go"
      have hexs : ∀ H', Same H H' → SqT K H' ex (esx.map V.ref) := fun H' s => by
        obtain ⟨o, _, y⟩ := b4.same s
        exact .inl (.inr ⟨o, y⟩)
      refine ⟨⟨_, hexs _ (sA.trans s0)⟩, ?_⟩
      refine for_tup (K := K) (a := ex) (xs := esx.map V.ref) (fun j σ H' => ∃ (v10 v11 v12 v13 v14 v15 v16 : Option V) (z : Nat → Int) (Lb Lu : Nat → List SC), σ = [some (.ref fa), some (.ref ra), some (.int (nr : Int)), some (.int (i : Int)), some (.int r), some (.int wi), some (.int ((rowAt t nr).1 : Int)), some (.int (us : Int)), some (.ref ex), some (.ref fl), v10, v11, v12, v13, v14, v15, v16] ∧ GSg HA fl (excL L0 (es.take j) Lb Lu) H' ∧ (excL L0 (es.take j) Lb Lu).length ≤ (1 + 2 * j) * sgB G (i + 1) ∧ (∀ e ∈ es.take j, (∀ x : Int, (x - z e.1) % (wi * (pF G i : Int)) = 0 ↔ (x - r) % wi = 0 ∧ dig G x i = e.1) ∧ SgRes G t e.2 (z e.1) (wi * (pF G i : Int)) (Lb e.1) ∧ SgRes G t us (z e.1) (wi * (pF G i : Int)) (Lu e.1))) ⟨_, _, _, _, _, _, _, fun _ => 0, fun _ => [], fun _ => [], rfl, by unfold excL; rw [List.take_zero]; simpa using G0, by unfold excL; rw [List.take_zero]; simpa using hl0, fun e he => by rw [List.take_zero] at he; cases he⟩ (fun j σ H' _ z => by obtain ⟨_, _, _, _, _, _, _, _, _, _, _, z, _⟩ := z; exact hexs _ (sA.trans (z.sm.trans rm_le))) ?_ ?_
      · rintro j y σ H2 hj ⟨v10, v11, v12, v13, v14, v15, v16, z, Lb, Lu, rfl, GS, hlen, hz⟩
        obtain ⟨pp, hpp, rfl⟩ := get_map hj
        obtain ⟨e, hee, hpx⟩ := paired_get b5 hpp
        have hem := List.mem_of_getElem? hee
        obtain ⟨he1, he2⟩ := hepl e hem
        have S2 : Same H H2 := sA.trans (GS.sm.trans rm_le)
        have hpx : H2 pp = some (.tup [.int (e.1 : Int), .int (e.2 : Int)]) := S2 _ _ hpx
        refine w_gtup (sqt hpx) rfl ?_
        walk_at "go"
        refine ⟨fa, G, t, nr, i, e.1, r, wi, N, rfl, hf0.same S2, hg, C, N0, N60, him, he1, S, A, fun H3 a z1 s3 k3 hsig hzx => ?_⟩
        refine w_gtup (sqt k3) rfl ?_
        have S3 := S2.trans s3
        have GS3 := GS.same s3
        walk_at "go"
        refine ⟨fa, ra, G, t, e.2, i + 1, z1, wi * (pF G i : Int), N, rfl, hf0.same S3, hg, C, N0, N60, ht.same S3, hc, Nat.lt_trans (hel e hem) hn, he2, hsig _, hB1, hmu2 _, fun H4 a4 L4 n4 s4 hL4 hR4 hl4 => ?_⟩
        have hl4 := Nat.le_trans hl4 lenS_le
        obtain ⟨us4, hu1, hu2⟩ := hL4
        have GS4 := GS3.same s4
        obtain ⟨fs, hf1, hf2⟩ := GS4.li
        have e1 := hf2.length
        have e2 := hu2.length
        have hjp : j + 1 ≤ pF G i := by
          have := (List.getElem?_eq_some_iff.mp hee).1
          omega
        have hjj : (1 + 2 * (j + 1)) * sgB G (i + 1) ≤ sgB G i := by
          rw [hBi]
          exact Nat.mul_le_mul_right _ (by omega)
        rw [show 1 + 2 * (j + 1) = 1 + 2 * j + 1 + 1 by omega, Nat.succ_mul, Nat.succ_mul] at hjj
        walk_at "go"
        refine ⟨fl, a4, _, _, rfl, rfl, hf1, hu1, by rw [List.length_map, List.length_map]; omega, ?_⟩
        have GS5 := GS4.ext hf1 hf2 hu2
        have S5 : Same H (L2.upd H4 fl (.lst (fs.map V.ref ++ us4.map V.ref))) := sA.trans (GS5.sm.trans rm_le)
        generalize L2.upd H4 fl (.lst (fs.map V.ref ++ us4.map V.ref)) = H5 at GS5 S5 ⊢
        walk_at "go"
        refine ⟨fa, ra, G, t, us, i + 1, z1, wi * (pF G i : Int), N, rfl, hf0.same S5, hg, C, N0, N60, ht.same S5, hc, husl, by omega, hsig _, hB1, hmu2 _, fun H6 a6 L6 n6 s6 hL6 hR6 hl6 => ?_⟩
        have hl6 := Nat.le_trans hl6 lenS_le
        obtain ⟨us6, hw1, hw2⟩ := hL6
        have GS6 := GS5.same s6
        obtain ⟨fs6, hf61, _⟩ := GS6.li
        have ne6 : a6 ≠ fl := fun y => by
          obtain ⟨_, y2, _⟩ := GS5.li
          rw [← y, n6] at y2
          cases y2
        have e6 := hw2.length
        walk_at "go"
        refine for_list (K := K) (a := a6) (xs := us6.map V.ref) (fun k σ H' => ∃ (v14 v15 v16 : Option V), σ = [some (.ref fa), some (.ref ra), some (.int (nr : Int)), some (.int (i : Int)), some (.int r), some (.int wi), some (.int ((rowAt t nr).1 : Int)), some (.int (us : Int)), some (.ref ex), some (.ref fl), some (.int (e.1 : Int)), some (.int (e.2 : Int)), some (.int z1), some (.int (wi * (pF G i : Int))), v14, v15, v16] ∧ GSg HA fl (excL L0 (es.take j) Lb Lu ++ L4 ++ (L6.take k).map negS) H' ∧ Same (rm fl H6) (rm fl H')) ⟨_, _, _, rfl, by rw [List.take_zero, List.map_nil, List.append_nil]; exact GS6, Same.refl _⟩ (fun k σ H' _ z => by obtain ⟨_, _, _, _, _, z⟩ := z; exact sq (rm_le _ _ (z _ _ (rm_of ne6 hw1)))) ?_ ?_
        · rintro k y σ H7 hk ⟨v14', v15', v16', rfl, GS7, s7⟩
          obtain ⟨pp7, hpp7, rfl⟩ := get_map hk
          obtain ⟨y7, hy7, hp7⟩ := paired_get hw2 hpp7
          have hp7 : H6 pp7 = some (.tup [.int y7.1, .int y7.2.1, .int y7.2.2]) := hp7
          have np7 : pp7 ≠ fl := fun z => by
            rw [z, hf61] at hp7
            cases hp7
          have hp7' := rm_le _ _ (s7 _ _ (rm_of np7 hp7))
          have hk6 := (List.getElem?_eq_some_iff.mp hy7).1
          refine w_gtup (sqt hp7') rfl ?_
          obtain ⟨fs7, hf7, _⟩ := GS7.li
          walk_at "go"
          refine al fun p8 H8 n8 s8 k8 => ?_
          have GS8 := GS7.same s8
          obtain ⟨fs8, hf8, hf82⟩ := GS8.li
          have e8 := hf82.length
          rw [List.length_append, List.length_append, List.length_map, List.length_take] at e8
          walk_at "go"
          refine w_append hf8 (by rw [List.length_map]; omega) ?_
          have GS9 := GS8.ext (M := [negS y7]) (us := [p8]) hf8 hf82 (.cons k8 .nil)
          walk_at "go"
          refine ⟨_, _, _, rfl, ?_, ?_⟩
          · rw [List.take_add_one, hy7, List.map_append, ← List.append_assoc]
            exact GS9
          · refine s7.trans ?_
            rw [rm_updS]
            exact s8.rm
        · rintro σ H7 ⟨v14', v15', v16', rfl, GS7, s7⟩
          rw [List.length_map, ← e6, List.take_length] at GS7
          walk_at "go"
          have hst := excL_step (L0 := L0) (Lb := Lb) (Lu := Lu) hnd hee L4 L6
          refine ⟨_, _, _, _, _, _, _, updF z e.1 z1, updF Lb e.1 L4, updF Lu e.1 L6, rfl, by rw [hst]; exact GS7, ?_, fun e' he' => ?_⟩
          · rw [hst, List.length_append, List.length_append, List.length_map, show 1 + 2 * (j + 1) = 1 + 2 * j + 1 + 1 by omega, Nat.succ_mul, Nat.succ_mul]
            omega
          · rw [List.take_add_one, hee] at he'
            rcases List.mem_append.mp he' with he' | he'
            · have hne := take_ne hnd hee he'
              rw [updF_ne hne, updF_ne hne, updF_ne hne]
              exact hz e' he'
            · have : e' = e := by simpa using he'
              subst this
              rw [updF_same, updF_same, updF_same]
              exact ⟨hzx, hR4, hR6⟩
      · rintro σ H2 ⟨v10, v11, v12, v13, v14, v15, v16, z, Lb, Lu, rfl, GS, hlen, hz⟩
        have e5 := b5.length
        rw [List.length_map, ← e5, List.take_length] at GS hlen hz
        walk_at "go"
        have hfin := sig_exc (F := G) (i := i) (r := r) (w := wi) (p := pF G i) (z := z) (Lb := Lb) (Lu := Lu) (fun e he => (hz e he).1) hnd hR0 (fun e he => (hz e he).2.1) fun e he => (hz e he).2.2
        refine q H2 fl (excL L0 es Lb Lu) (sA.free nfl) (sA.trans (GS.sm.trans rm_le)) GS.all ⟨?_, fun x => ?_⟩ ?_
        · refine hR0.sg.app (Sg1.flat fun l hl => ?_)
          obtain ⟨e, he, rfl⟩ := List.mem_map.mp hl
          exact (hz e he).2.1.sg.app (hz e he).2.2.sg.neg
        · refine (hfin x).trans ?_
          rw [hsem x]
        · refine Nat.le_trans hlen ?_
          rw [hBi]
          exact Nat.mul_le_mul_right _ (by omega)
theorem ok_sigall (F : Dn K mg "signed_classes" s_sigcls ["figures", "rows", "number", "place", "rest", "wide"]) (T : Bt mg) {tN tE : Tok} (zNONE : mg "NONE" = some (.int 0 tN)) (zEVERY : mg "EVERY" = some (.int 1 tE)) (c_withfig : Cal P w K mg base 3 "with_figure" spWithFig [])
    (mkA : ∀ n L, 10 ≤ L → Cal P w K mg base L "signed_classes" (spSigN n) [] → Cal P w K mg base (L + 1) "with_all_figures" (spWithAll n) []) (mkB : ∀ n L, 10 ≤ L → Cal P w K mg base L "signed_classes" (spSigN n) [] → Cal P w K mg base (L + 1) "by_each_figure" (spByEach n) []) : ∀ n : Nat, Cal P w K mg base (10 + 2 * n) "signed_classes" (spSigN n) []
  | 0 => by
    refine F.cal sc_sigcls (fun vs H Q E h => ?_) (fun f cdv A outer s H vs Q E hr h => ?_)
    · obtain ⟨fa, ra, G, t, nr, i, r, wi, N, rfl, _⟩ := h
      rfl
    · obtain ⟨fa, ra, G, t, nr, i, r, wi, N, rfl, _, _, _, _, _, _, _, _, _, _, _, hmu, _⟩ := h
      exact absurd hmu (Nat.not_lt_zero _)
  | n + 1 => by
    have c_rec := ok_sigall F T zNONE zEVERY c_withfig mkA mkB n
    have hL : 10 ≤ 10 + 2 * n := Nat.le_add_right _ _
    exact ok_sigcls hL F T zNONE zEVERY c_withfig (mkA n _ hL c_rec) (mkB n _ hL c_rec) c_rec
noncomputable abbrev s_eqmd : Stmt := (inClass (top 15) 1)
theorem sc_eqmd : FnScope ["self", "other"] ["self", "other"] (defScope s_eqmd) :=
  ⟨rfl, rfl, rfl, by decide +kernel, rfl, by decide +kernel, by decide +kernel⟩
theorem ok_eqmd {c : CA} {f : Addr} {fd : FuncData} (F : FunD K "__eq__" "Modulus.__eq__" (defArgs s_eqmd) (defBody s_eqmd) (defScope s_eqmd) [] [] f fd) (T : Bt mg) (X : Kx K mg c) : FnOk P w K mg base L2.CX0 1 f fd ["self", "other"] (spEqMd K c) := by
  refine fnD_ok F sc_eqmd (fun vs H Q E h => ?_) (fun cdv A outer s H vs Q E hr h => ?_)
  · obtain ⟨a, v, ps, rfl, _⟩ := h
    rfl
  · obtain ⟨a, v, ps, rfl, hm, h⟩ := h
    refine ⟨_, (pss_one (ps_ret (pe_and (pe_callB call_isiE (by rfl) T.isinstance (by decide +kernel) (pa_cons (pv 1) (pa_cons (pe_glob (v := .ref c.md) (by rfl) X.mgMd rfl) pa_nil))) (pe_one (pe_cmpR op_eq (pe_fld (pv 0) rfl) (pe_fld (pv 1) rfl) (nomark _)))))), ?_⟩
    walk_at "go"
    rcases h with ⟨t, ty, hk, q⟩ | ⟨b, ps', rfl, hm', q⟩
    · refine w_isiE ty hk ?_
      walk_at "go"
      refine iteF ?_
      exact q
    · obtain ⟨dx, tt, ts, hx, _⟩ := id hm'
      refine w_isiE (.x (X.md.ty hx)) kit_own ?_
      walk_at "go"
      refine iteT ?_
      walk_at "go"
      rw [decI]
      exact q
noncomputable abbrev s_bssig : Stmt := (inClass (top 51) 1)
theorem sc_bssig : FnScope ["self"] ["self"] (defScope s_bssig) :=
  ⟨rfl, rfl, rfl, by decide +kernel, rfl, by decide +kernel, by decide +kernel⟩
theorem ok_bssig {c : CA} {Cb Cr : Addr} {f : Addr} {fd : FuncData} (F : FunD K "signed" "Bases.signed" (defArgs s_bssig) (defBody s_bssig) (defScope s_bssig) [] [] f fd) (T : Bt mg) (W : KBs K mg Cb Cr) (c_sigcls : Cal P w K mg base 130 "signed_classes" (spSigN 60) []) : FnOk P w K mg base L2.CX0 131 f fd ["self"] (spSigd c Cb) := by
  refine fnD_ok F sc_bssig (fun vs H Q E h => ?_) (fun cdv A outer s H vs Q E hr h => ?_)
  · obtain ⟨o, ps, u, n, rfl, _⟩ := h
    rfl
  · obtain ⟨o, ps, u, n, rfl, hb, q⟩ := h
    obtain ⟨md, st, dx, m, fa, ta, h1, h2, h3, h4⟩ := id hb
    have C := figs_c (Int.le_refl 0) md.asc
    refine ⟨_, (pss_one (ps_ret (pe_c c_sigcls hr (by decide) (by rfl) (pa_cons (pe_fld (pv 0) rfl) (pa_cons (pe_fld (pv 0) rfl) (pa_cons (pe_fld (pv 0) rfl) (pa_cons pe_int (pa_cons pe_int (pa_cons pe_int pa_nil))))))))), ?_⟩
    walk_at "go"
    refine w_fldi h1 W.cl.cl W.ff bs_f ?_
    walk_at "go"
    refine w_fldi h1 W.cl.cl W.fr bs_r ?_
    walk_at "go"
    refine w_fldi h1 W.cl.cl W.ft bs_t ?_
    walk_at "go"
    have hnum : 0 < num ps := by
      obtain ⟨_, _, _, _, _, _, _, z⟩ := h2
      exact num_pos z
    refine ⟨fa, ta, figs30 ps, u, n, 0, 0, 1, num ps, rfl, h3, md.fg, C, hnum, md.nm, h4, st.can, st.lt, Nat.zero_le _, sig_start C, md.sg, ?_, fun H' a L na s' hL hR hl => ?_⟩
    · unfold muS
      have := md.len
      split <;> omega
    · refine q H' a L na s' hL hR.sg fun x => ?_
      rw [hR.eq x, inC_01, Bool.true_and]
      rfl
noncomputable abbrev s_bsbelow : Stmt := (inClass (top 51) 2)
theorem sc_bsbelow : FnScope ["self", "number"] ["self", "number"] (defScope s_bsbelow) :=
  ⟨rfl, rfl, rfl, by decide +kernel, rfl, by decide +kernel, by decide +kernel⟩
theorem ok_bsbelow {c : CA} {Cb Cr : Addr} {f : Addr} {fd : FuncData} (F : FunD K "below" "Bases.below" (defArgs s_bsbelow) (defBody s_bsbelow) (defScope s_bsbelow) [] [] f fd) (T : Bt mg) (W : KBs K mg Cb Cr) (c_isint : Cal P w K mg base 1 "is_integer" (spIsInt K) []) (c_countb : Cal P w K mg base 1 "count_below" spCountB []) (c_bssig : Met P w K mg base 131 Cb "signed" (spSigd c Cb) []) : FnOk P w K mg base L2.CX0 132 f fd ["self", "number"] (spBelw c Cb) := by
  refine fnD_ok F sc_bsbelow (fun vs H Q E h => ?_) (fun cdv A outer s H vs Q E hr h => ?_)
  · obtain ⟨o, ps, u, n, k, rfl, _⟩ := h
    rfl
  · obtain ⟨o, ps, u, n, k, rfl, hb, q⟩ := h
    obtain ⟨md, st, dx, m, fa, ta, h1, h2, h3, h4⟩ := id hb
    refine ⟨_, (pss_cons (ps_if (PW.pt (pw_or (pt_not (pt_val (pe_c c_isint hr (by decide) (by rfl) (pa_cons (pv 1) pa_nil)))) (pw_or1 (pt_cmpR op_lt (pv 1) pe_int (nomark _))))) (pss_one ps_never) pss_nil)
      (pss_one (ps_ret (pe_c c_countb hr (by decide) (by rfl) (pa_cons (pe_mt0 c_bssig hr (by decide) (pv 0)) (pa_cons (pv 1) pa_nil)))))), ?_⟩
    walk_at "go"
    refine use_isInt ?_
    walk_at "go"
    refine iteF ?_
    walk_at "go"
    rw [decide_eq_false (show ¬ (k : Int) < 0 by omega)]
    refine iteF ?_
    walk_at "go"
    refine ⟨o, dx, _, rfl, h1, bs_no (by decide +kernel) (by decide +kernel) (by decide +kernel) (by decide +kernel) (by decide +kernel), ?_⟩
    refine ⟨o, ps, u, n, rfl, hb, fun H1 a L na s1 hL hS hm => ?_⟩
    walk_at "go"
    refine ⟨a, L, (k : Int), rfl, hL, hS, ?_⟩
    rw [cb_count (fun e he => ⟨(hS e he).1, (hS e he).2.1⟩) (fun x => hm (x : Int)) k]
    exact q H1 s1
noncomputable abbrev s_bshas : Stmt := (inClass (top 51) 5)
theorem sc_bshas : FnScope ["self", "base"] ["self", "base"] (defScope s_bshas) :=
  ⟨rfl, rfl, rfl, by decide +kernel, rfl, by decide +kernel, by decide +kernel⟩
theorem ok_bshas {c : CA} {Cb Cr : Addr} {f : Addr} {fd : FuncData} (F : FunD K "__contains__" "Bases.__contains__" (defArgs s_bshas) (defBody s_bshas) (defScope s_bshas) [] [] f fd) (T : Bt mg) (W : KBs K mg Cb Cr) (c_isint : Cal P w K mg base 1 "is_integer" (spIsInt K) []) (c_holds : Cal P w K mg base 2 "holds" spHolds []) : FnOk P w K mg base L2.CX0 3 f fd ["self", "base"] (spHas K c Cb) := by
  refine fnD_ok F sc_bshas (fun vs H Q E h => ?_) (fun cdv A outer s H vs Q E hr h => ?_)
  · obtain ⟨o, ps, u, n, v, rfl, _⟩ := h
    rfl
  · obtain ⟨o, ps, u, n, v, rfl, hb, q⟩ := h
    obtain ⟨md, st, dx, m, fa, ta, h1, h2, h3, h4⟩ := id hb
    refine ⟨_, (pss_one (ps_ret (pe_and (pe_c c_isint hr (by decide) (by rfl) (pa_cons (pv 1) pa_nil)) (pe_one (pe_c c_holds hr (by decide) (by rfl) (pa_cons (pe_fld (pv 0) rfl) (pa_cons (pe_fld (pv 0) rfl) (pa_cons (pe_fld (pv 0) rfl) (pa_cons (pv 1) pa_nil))))))))), ?_⟩
    walk_at "go"
    rcases q with ⟨t, b1, b2, ty, k1, k2, hn, q⟩ | ⟨x, rfl, q⟩
    · refine ⟨v, t, b1, b2, rfl, ty, k1, k2, ?_⟩
      rw [hn]
      walk_at "go"
      refine iteF ?_
      exact q
    · refine use_isInt ?_
      walk_at "go"
      refine iteT ?_
      walk_at "go"
      refine w_fldi h1 W.cl.cl W.ff bs_f ?_
      walk_at "go"
      refine w_fldi h1 W.cl.cl W.fr bs_r ?_
      walk_at "go"
      refine w_fldi h1 W.cl.cl W.ft bs_t ?_
      walk_at "go"
      exact ⟨fa, ta, figs30 ps, u, n, x, rfl, h3, h4, st.can.wf, md.e60, st.lt, q⟩
noncomputable abbrev s_bsnth : Stmt := (inClass (top 51) 3)
theorem sc_bsnth : FnScope ["self", "number", "whole"] ["self", "number"] (defScope s_bsnth) :=
  ⟨rfl, rfl, rfl, by decide +kernel, rfl, by decide +kernel, by decide +kernel⟩
theorem ok_bsnth {c : CA} {Cb Cr : Addr} {f : Addr} {fd : FuncData} (F : FunD K "nth" "Bases.nth" (defArgs s_bsnth) (defBody s_bsnth) (defScope s_bsnth) [] [] f fd) (T : Bt mg) (W : KBs K mg Cb Cr) (X : Kx K mg c) (c_isint : Cal P w K mg base 1 "is_integer" (spIsInt K) []) (c_memat : Cal P w K mg base 2 "member_at" spMemberAt []) (c_bssig : Met P w K mg base 131 Cb "signed" (spSigd c Cb) []) : FnOk P w K mg base L2.CX0 132 f fd ["self", "number"] (spNth c Cb) := by
  refine fnD_ok F sc_bsnth (fun vs H Q E h => ?_) (fun cdv A outer s H vs Q E hr h => ?_)
  · obtain ⟨o, ps, u, n, k, rfl, _⟩ := h
    rfl
  · obtain ⟨o, ps, u, n, k, rfl, hb, q⟩ := h
    obtain ⟨md, st, dx, m, fa, ta, h1, h2, h3, h4⟩ := id hb
    obtain ⟨dm, tt, ts, hm1, _⟩ := id h2
    have N0 := md.num
    have N60 := md.nm
    have hsz := szB_le md st
    refine ⟨_, (pss_cons (ps_if (PW.pt (pw_or (pt_not (pt_val (pe_c c_isint hr (by decide) (by rfl) (pa_cons (pv 1) pa_nil)))) (pw_or1 (pt_cmpR op_lt (pv 1) pe_int (nomark _))))) (pss_one ps_never) pss_nil)
      (pss_cons (ps_if (pt_cmpR op_eq (pe_fld (pv 0) rfl) pe_int (nomark _)) (pss_one (ps_ret pe_non)) pss_nil)
      (pss_cons (ps_set (i := 2) sc_bsnth.nd rfl (Or.inl rfl) (pe_fld (pe_fld (pv 0) rfl) rfl))
      (pss_one (ps_ret (pe_op op_add (pe_op oMul (pe_op op_fdivW (pv 1) (pe_fld (pv 0) rfl)) (pv 2)) (pe_c c_memat hr (by decide) (by rfl) (pa_cons (pe_mt0 c_bssig hr (by decide) (pv 0)) (pa_cons (pv 2) (pa_cons (pe_op op_mod (pv 1) (pe_fld (pv 0) rfl)) pa_nil)))))))))), ?_⟩
    walk_at "go"
    refine use_isInt ?_
    walk_at "go"
    refine iteF ?_
    walk_at "go"
    rw [decide_eq_false (show ¬ (k : Int) < 0 by omega)]
    refine iteF ?_
    walk_at "go"
    refine w_fldi h1 W.cl.cl W.fs bs_s ?_
    walk_at "go"
    rw [decI]
    rcases q with ⟨z, q⟩ | ⟨z, q⟩
    · refine ite_d (fun c0 => ?_) (fun c0 => by omega)
      walk_at "go"
      exact q H (Same.refl _)
    · refine ite_d (fun c0 => by omega) (fun c0 => ?_)
      walk_at "go"
      refine w_fldi h1 W.cl.cl W.fm bs_m ?_
      walk_at "go"
      refine w_fldi h1 W.cl.cl W.fs bs_s ?_
      have d1 : CDivW (k : Int) ((szB ps u n : Nat) : Int) := wdiv60 (by omega) (by omega)
      have cm : CMx ((k : Int) / ((szB ps u n : Nat) : Int)) (num ps) := mx_r (by omega)
      walk_at "go"
      refine ⟨o, dx, _, rfl, h1, bs_no (by decide +kernel) (by decide +kernel) (by decide +kernel) (by decide +kernel) (by decide +kernel), ?_⟩
      refine ⟨o, ps, u, n, rfl, hb, fun H1 a L na s1 hL hS hm => ?_⟩
      walk_at "go"
      refine w_fldi (s1 _ _ h1) W.cl.cl W.fs bs_s ?_
      walk_at "go"
      refine ⟨a, L, (num ps).toNat, k % szB ps u n, fun x => memB ps u n (x : Int), by rw [Int.toNat_of_nonneg (by omega), Int.natCast_emod]; rfl, hL, hS, by omega, fun x => hm (x : Int), ?_, fun x hx hmx hcx => ?_⟩
      · have := Nat.mod_lt k z
        have e := szB_eq md st
        unfold cmB at e
        omega
      · walk_at "go"
        exact q H1 x s1 (by omega) hmx hcx
noncomputable abbrev s_bsfrm : Stmt := (inClass (top 51) 4)
theorem sc_bsfrm : FnScope ["self", "number", "whole", "signed", "order", "turns"] ["self", "number"] (defScope s_bsfrm) :=
  ⟨rfl, rfl, rfl, by decide +kernel, rfl, by decide +kernel, by decide +kernel⟩
theorem ok_bsfrm {c : CA} {Cb Cr : Addr} {f : Addr} {fd : FuncData} (F : FunD K "first_from" "Bases.first_from" (defArgs s_bsfrm) (defBody s_bsfrm) (defScope s_bsfrm) [] [] f fd) (T : Bt mg) (W : KBs K mg Cb Cr) (X : Kx K mg c) (c_isint : Cal P w K mg base 1 "is_integer" (spIsInt K) []) (c_countb : Cal P w K mg base 1 "count_below" spCountB []) (c_memat : Cal P w K mg base 2 "member_at" spMemberAt []) (c_bssig : Met P w K mg base 131 Cb "signed" (spSigd c Cb) []) : FnOk P w K mg base L2.CX0 132 f fd ["self", "number"] (spFrm c Cb) := by
  refine fnD_ok F sc_bsfrm (fun vs H Q E h => ?_) (fun cdv A outer s H vs Q E hr h => ?_)
  · obtain ⟨o, ps, u, n, k, rfl, _⟩ := h
    rfl
  · obtain ⟨o, ps, u, n, k, rfl, hb, q⟩ := h
    obtain ⟨md, st, dx, m, fa, ta, h1, h2, h3, h4⟩ := id hb
    obtain ⟨dm, tt, ts, hm1, _⟩ := id h2
    have N0 := md.num
    have N60 := md.nm
    have hsz := szB_le md st
    refine ⟨_, (pss_cons (ps_if (pt_not (pt_val (pe_c c_isint hr (by decide) (by rfl) (pa_cons (pv 1) pa_nil)))) (pss_one ps_never) pss_nil)
      (pss_cons (ps_if (pt_cmpR op_eq (pe_fld (pv 0) rfl) pe_int (nomark _)) (pss_one (ps_ret pe_non)) pss_nil)
      (pss_cons (ps_set (i := 2) sc_bsfrm.nd rfl (Or.inl rfl) (pe_fld (pe_fld (pv 0) rfl) rfl))
      (pss_cons (ps_set (i := 3) sc_bsfrm.nd rfl (Or.inl rfl) (pe_mt0 c_bssig hr (by decide) (pv 0)))
      (pss_cons (ps_set (i := 4) sc_bsfrm.nd rfl (Or.inl rfl) (pe_c c_countb hr (by decide) (by rfl) (pa_cons (pv 3) (pa_cons (pe_op op_mod (pv 1) (pv 2)) pa_nil))))
      (pss_cons (ps_set (i := 5) sc_bsfrm.nd rfl (Or.inl rfl) (pe_op op_add (pe_op op_fdivW (pv 1) (pv 2)) (pe_op op_fdivW (pv 4) (pe_fld (pv 0) rfl))))
      (pss_one (ps_ret (pe_op op_add (pe_op oMul (pv 5) (pv 2)) (pe_c c_memat hr (by decide) (by rfl) (pa_cons (pv 3) (pa_cons (pv 2) (pa_cons (pe_op op_mod (pv 4) (pe_fld (pv 0) rfl)) pa_nil))))))))))))), ?_⟩
    walk_at "go"
    refine use_isInt ?_
    walk_at "go"
    refine iteF ?_
    walk_at "go"
    refine w_fldi h1 W.cl.cl W.fs bs_s ?_
    walk_at "go"
    rw [decI]
    rcases q with ⟨z, q⟩ | ⟨z, q⟩
    · refine ite_d (fun c0 => ?_) (fun c0 => by omega)
      walk_at "go"
      exact q H (Same.refl _)
    · refine ite_d (fun c0 => by omega) (fun c0 => ?_)
      walk_at "go"
      refine w_fldi h1 W.cl.cl W.fm bs_m ?_
      walk_at "go"
      refine ⟨o, dx, _, rfl, h1, bs_no (by decide +kernel) (by decide +kernel) (by decide +kernel) (by decide +kernel) (by decide +kernel), ?_⟩
      refine ⟨o, ps, u, n, rfl, hb, fun H1 a L na s1 hL hS hm => ?_⟩
      have d1 : CDivW k (num ps) := wdiv60 (by omega) (by omega)
      have hk0 := Int.emod_nonneg k (show num ps ≠ 0 by omega)
      have hk1 := Int.emod_lt_of_pos k N0
      have hcb : cbS L (k % num ps) = ((cmB ps u n (k % num ps).toNat : Nat) : Int) := by
        have := cb_count (fun e he => ⟨(hS e he).1, (hS e he).2.1⟩) (fun x => hm (x : Int)) (k % num ps).toNat
        rw [Int.toNat_of_nonneg hk0] at this
        exact this
      walk_at "go"
      refine ⟨a, L, k % num ps, rfl, hL, hS, ?_⟩
      rw [hcb]
      have hcl : cmB ps u n (k % num ps).toNat ≤ szB ps u n := by
        rw [szB_eq md st]
        exact cm_mono (by omega)
      have d2 : CDivW ((cmB ps u n (k % num ps).toNat : Nat) : Int) ((szB ps u n : Nat) : Int) := wdiv60 (by omega) (by omega)
      have cm : CMx (k / num ps + ((cmB ps u n (k % num ps).toNat : Nat) : Int) / ((szB ps u n : Nat) : Int)) (num ps) := mx_r (by omega)
      walk_at "go"
      refine w_fldi (s1 _ _ h1) W.cl.cl W.fs bs_s ?_
      walk_at "go"
      refine w_fldi (s1 _ _ h1) W.cl.cl W.fs bs_s ?_
      walk_at "go"
      refine ⟨a, L, (num ps).toNat, cmB ps u n (k % num ps).toNat % szB ps u n, fun x => memB ps u n (x : Int), by rw [Int.toNat_of_nonneg (by omega), Int.natCast_emod]; rfl, hL, hS, by omega, fun x => hm (x : Int), ?_, fun x hx hmx hcx => ?_⟩
      · have := Nat.mod_lt (cmB ps u n (k % num ps).toNat) z
        have e := szB_eq md st
        unfold cmB at e this ⊢
        omega
      · walk_at "go"
        exact q H1 x s1 (by omega) hmx hcx
noncomputable abbrev s_eqbs : Stmt := (inClass (top 51) 6)
theorem sc_eqbs : FnScope ["self", "other"] ["self", "other"] (defScope s_eqbs) :=
  ⟨rfl, rfl, rfl, by decide +kernel, rfl, by decide +kernel, by decide +kernel⟩
theorem ok_eqbs {c : CA} {Cb Cr : Addr} {f : Addr} {fd : FuncData} (F : FunD K "__eq__" "Bases.__eq__" (defArgs s_eqbs) (defBody s_eqbs) (defScope s_eqbs) [] [] f fd) (T : Bt mg) (X : Kx K mg c) (W : KBs K mg Cb Cr) (q_eqmd : EqO P w K mg base 1 c.md (spEqMd K c)) : FnOk P w K mg base L2.CX0 20 f fd ["self", "other"] (spEqBs K c Cb) := by
  refine fnD_ok F sc_eqbs (fun vs H Q E h => ?_) (fun cdv A outer s H vs Q E hr h => ?_)
  · obtain ⟨a, v, ps, u, n, rfl, _⟩ := h
    rfl
  · obtain ⟨a, v, ps, u, n, rfl, hb, h⟩ := h
    obtain ⟨md, st, dx, m, fa, ta, h1, h2, h3, h4⟩ := id hb
    refine ⟨_, (pss_cons (ps_if (PW.pt (pw_or (pt_not (pt_val (pe_callB call_isiE (by rfl) T.isinstance (by decide +kernel) (pa_cons (pv 1) (pa_cons (pe_glob (v := .ref Cb) (by rfl) W.mgB rfl) pa_nil))))) (pw_or1 (pt_cmpR (op_neO q_eqmd hr (by decide)) (pe_fld (pv 0) rfl) (pe_fld (pv 1) rfl) (nomark _))))) (pss_one (ps_ret pe_bl)) pss_nil)
      (pss_one (ps_ret (pe_and (pe_cmpR (op_eqD hr.units) (pe_fld (pv 0) rfl) (pe_fld (pv 1) rfl) (nomark _)) (pe_one (pe_cmpR op_eq (pe_fld (pv 0) rfl) (pe_fld (pv 1) rfl) (nomark _))))))), ?_⟩
    walk_at "go"
    rcases h with ⟨t, ty, hk, q⟩ | ⟨b, ps', u', n', rfl, hb', q⟩
    · refine w_isiE ty hk ?_
      walk_at "go"
      refine iteT ?_
      walk_at "go"
      exact q
    · obtain ⟨md', st', dx', m', fa', ta', h1', h2', h3', h4'⟩ := id hb'
      refine w_isiE (.x (W.cl.ty h1')) kit_own ?_
      walk_at "go"
      refine iteF ?_
      walk_at "go"
      refine w_fldi h1 W.cl.cl W.fm bs_m ?_
      walk_at "go"
      refine w_fldi h1' W.cl.cl W.fm bs_m ?_
      refine neMd X h2 h2' ?_
      by_cases c1 : num ps = num ps'
      · rw [decide_eq_true c1]
        walk_at "go"
        refine iteF ?_
        walk_at "go"
        refine w_fldi h1 W.cl.cl W.fr bs_r ?_
        walk_at "go"
        refine w_fldi h1' W.cl.cl W.fr bs_r ?_
        refine w_eqTab h4 h4' ?_
        by_cases c2 : u = u'
        · rw [decide_eq_true c2]
          walk_at "go"
          refine iteT ?_
          walk_at "go"
          refine w_fldi h1 W.cl.cl W.ft bs_t ?_
          walk_at "go"
          refine w_fldi h1' W.cl.cl W.ft bs_t ?_
          walk_at "go"
          rw [decI, show decide (((n : Nat) : Int) = ((n' : Nat) : Int)) = decide (num ps = num ps' ∧ u = u' ∧ n = n') from decide_eq_decide.mpr ⟨fun z => ⟨c1, c2, by omega⟩, fun z => by rw [z.2.2]⟩]
          exact q
        · rw [decide_eq_false c2]
          walk_at "go"
          refine iteF ?_
          rw [decide_eq_false (fun z => c2 z.2.1)] at q
          exact q
      · rw [decide_eq_false c1]
        walk_at "go"
        refine iteT ?_
        walk_at "go"
        rw [decide_eq_false (fun z => c1 z.1)] at q
        exact q
noncomputable abbrev s_bsinit : Stmt := (inClass (top 51) 0)
theorem sc_bsinit : FnScope ["self", "modulus", "classes", "made"] ["self", "modulus", "classes"] (defScope s_bsinit) :=
  ⟨rfl, rfl, rfl, by decide +kernel, rfl, by decide +kernel, by decide +kernel⟩
theorem ok_bsinit {c : CA} {Cb Cr : Addr} {f : Addr} {fd : FuncData} (F : FunD K "__init__" "Bases.__init__" (defArgs s_bsinit) (defBody s_bsinit) (defScope s_bsinit) [] [] f fd) (T : Bt mg) (X : Kx K mg c) (W : KBs K mg Cb Cr) (R : KRw K mg Cr) (c_reqmod : Cal P w K mg base 1 "require_modulus" (spReqMod c) []) (c_figuresof : Cal P w K mg base 2 "figures_of" (spFiguresOf c) []) (c_reqcls : Cal P w K mg base 3 "require_classes" (spReqCls K) []) (c_merged : Cal P w K mg base 5 "merged_rows" (spMerged K Cr) []) (c_sizeof : Cal P w K mg base 2 "size_of" spSizeOf []) : FnOk P w K mg base L2.CX0 110 f fd ["self", "modulus", "classes"] (spBsInit K c Cb Cr) := by
  refine fnD_ok F sc_bsinit (fun vs H Q E h => ?_) (fun cdv A outer s H vs Q E hr h => ?_)
  · obtain ⟨o, dx, m, l, ps, rfl, _⟩ := h
    rfl
  · obtain ⟨o, dx, m, l, ps, rfl, ho, md, hm, h⟩ := h
    have nm := mod_ne ho hm
    have hmR := hm.rmI ho nm
    obtain ⟨dm, tt, ts, hm1, _⟩ := id hm
    have M0 : Mk30 H o Cb dx [] H := ⟨ho, Same.refl _⟩
    refine ⟨_, (pss_cons (ps_expr (pe_c c_reqmod hr (by decide) (by rfl) (pa_cons (pv 1) pa_nil)))
      (pss_cons (ps_fld (pv 0) (pv 1) rfl)
      (pss_cons (ps_fld (pv 0) (pe_c c_figuresof hr (by decide) (by rfl) (pa_cons (pv 1) pa_nil)) rfl)
      (pss_cons (ps_if (pt_val (pe_callB call_isiE (by rfl) T.isinstance (by decide +kernel) (pa_cons (pv 2) (pa_cons (pe_glob (v := .ref Cr) (by rfl) R.mgR rfl) pa_nil)))) (pss_one (ps_set (i := 3) sc_bsinit.nd rfl (Or.inl rfl) (pv 2))) (pss_cons (ps_expr (pe_c c_reqcls hr (by decide) (by rfl) (pa_cons (pv 2) (pa_cons (pe_fld (pv 1) rfl) pa_nil))))
      (pss_one (ps_set (i := 3) sc_bsinit.nd rfl (Or.inl rfl) (pe_c c_merged hr (by decide) (by rfl) (pa_cons (pe_fld (pv 0) rfl) (pa_cons (pv 2) pa_nil)))))))
      (pss_cons (ps_fld (pv 0) (pe_fld (pv 3) rfl) rfl)
      (pss_cons (ps_fld (pv 0) (pe_fld (pv 3) rfl) rfl)
      (pss_one (ps_fld (pv 0) (pe_c c_sizeof hr (by decide) (by rfl) (pa_cons (pe_fld (pv 0) rfl) (pa_cons (pe_fld (pv 0) rfl) (pa_cons (pe_fld (pv 0) rfl) pa_nil)))) rfl)))))))), ?_⟩
    walk_at "go"
    refine ⟨m, dm, _, rfl, hm1, ?_⟩
    walk_at "go"
    refine w_sfldi ho W.cl.cl W.fm (by decide) ?_
    have M1 := M0.set (fs' := putF "modulus" (.ref m) [])
    generalize L2.upd H o (.ins Cb dx (putF "modulus" (.ref m) [])) = H1 at M1 ⊢
    walk_at "go"
    refine ⟨m, ps, rfl, hmR.same (M1.sm.trans rm_le), fun H2 fa nfa s2 hf2 => ?_⟩
    have M2 := M1.same s2
    have hfR := hf2.rmI M2.ob
    walk_at "go"
    refine w_sfldi M2.ob W.cl.cl W.ff (by show 1 < 1000; decide) ?_
    have M3 := M2.set (fs' := putF "figures" (.ref fa) (putF "modulus" (.ref m) []))
    have s3 : Same (rm o H2) (rm o (L2.upd H2 o (.ins Cb dx (putF "figures" (.ref fa) (putF "modulus" (.ref m) []))))) := by rw [rm_updS]; exact Same.refl _
    have hf3 := hfR.same s3
    generalize L2.upd H2 o (.ins Cb dx (putF "figures" (.ref fa) (putF "modulus" (.ref m) []))) = H3 at M3 s3 hf3 ⊢
    rw [show putF "figures" (.ref fa) (putF "modulus" (.ref m) []) = ([("modulus", .ref m), ("figures", .ref fa)] : List (Str × V)) by rw [put0, putS (by decide +kernel)]; rfl] at M3
    walk_at "go"
    rcases h with ⟨cs, hcl, hln, hcs, q⟩ | ⟨u, n, hrw, st, q⟩
    · have hl3 := (hcl.rmI ho).same (M3.sm.trans rm_le)
      obtain ⟨t, ty, hk⟩ : ∃ t, TyE K H3 (.ref l) t ∧ PySem.W.kitOne K t (.ref Cr) = some false := by
        obtain ⟨us, hh | hh, _⟩ := id hl3
        · exact ⟨_, .x (.base (.lst hh)), W.kl⟩
        · exact ⟨_, .x (.base (.tup hh)), W.kt⟩
      refine w_isiE ty hk ?_
      walk_at "go"
      refine iteF ?_
      have hm3 := (hmR.same M3.sm).same rm_le
      obtain ⟨dm3, tt3, ts3, hm31, _⟩ := id hm3
      walk_at "go"
      refine ⟨l, num ps, cs, rfl, hl3, hln, hcs, fun H4 s4 => ?_⟩
      have M4 := M3.same s4
      have hf4 := hf3.same s4.rm
      walk_at "go"
      refine w_fldi M4.ob W.cl.cl W.ff ((lkS (by decide +kernel)).trans lk0) ?_
      walk_at "go"
      refine ⟨fa, l, figs30 ps, cs, npx ((figs30 ps).map (·.1)), rfl, hf4.same rm_le, md.fg, rba _, by have := npx_len ((figs30 ps).map (·.1)); rw [List.length_map] at this; exact this, by have := md.np; omega, hl3.same s4, fun H5 r u n nr s5 hrw5 st hmem => ?_⟩
      have hrn : r ≠ o := fun z => by rw [z, M4.ob] at nr; cases nr
      have M5 := M4.same s5
      have hf5 := hf4.same s5.rm
      obtain ⟨dr, ta, hr1, hta⟩ := id hrw5
      have hta5 := hta.rmI M5.ob
      walk_at "go"
      refine w_fldi hr1 R.cl.cl R.rows lk0 ?_
      walk_at "go"
      refine w_sfldi M5.ob W.cl.cl W.fr (by show 2 < 1000; decide) ?_
      have M6 := M5.set (fs' := putF "rows" (.ref ta) [("modulus", .ref m), ("figures", .ref fa)])
      have hr6 : L2.upd H5 o (.ins Cb dx (putF "rows" (.ref ta) [("modulus", .ref m), ("figures", .ref fa)])) r = some _ := (L2.upd_ne hrn).trans hr1
      have s6 : Same (rm o H5) (rm o (L2.upd H5 o (.ins Cb dx (putF "rows" (.ref ta) [("modulus", .ref m), ("figures", .ref fa)])))) := by rw [rm_updS]; exact Same.refl _
      generalize L2.upd H5 o (.ins Cb dx (putF "rows" (.ref ta) [("modulus", .ref m), ("figures", .ref fa)])) = H6 at M6 hr6 s6 ⊢
      rw [show putF "rows" (.ref ta) [("modulus", .ref m), ("figures", .ref fa)] = ([("modulus", .ref m), ("figures", .ref fa), ("rows", .ref ta)] : List (Str × V)) by rw [putS (by decide +kernel), putS (by decide +kernel)]; rfl] at M6
      walk_at "go"
      refine w_fldi hr6 R.cl.cl R.root ((lkS (by decide +kernel)).trans lk0) ?_
      walk_at "go"
      refine w_sfldi M6.ob W.cl.cl W.ft (by show 3 < 1000; decide) ?_
      have M7 := M6.set (fs' := putF "root" (.int (n : Int)) [("modulus", .ref m), ("figures", .ref fa), ("rows", .ref ta)])
      have s7 : Same (rm o H6) (rm o (L2.upd H6 o (.ins Cb dx (putF "root" (.int (n : Int)) [("modulus", .ref m), ("figures", .ref fa), ("rows", .ref ta)])))) := by rw [rm_updS]; exact Same.refl _
      generalize L2.upd H6 o (.ins Cb dx (putF "root" (.int (n : Int)) [("modulus", .ref m), ("figures", .ref fa), ("rows", .ref ta)])) = H7 at M7 s7 ⊢
      rw [show putF "root" (.int (n : Int)) [("modulus", .ref m), ("figures", .ref fa), ("rows", .ref ta)] = ([("modulus", .ref m), ("figures", .ref fa), ("rows", .ref ta), ("root", .int (n : Int))] : List (Str × V)) by rw [putS (by decide +kernel), putS (by decide +kernel), putS (by decide +kernel)]; rfl] at M7
      have hf7 := hf5.same (s6.trans s7)
      have ht7 := hta5.same (s6.trans s7)
      walk_at "go"
      refine w_fldi M7.ob W.cl.cl W.ff ((lkS (by decide +kernel)).trans lk0) ?_
      walk_at "go"
      refine w_fldi M7.ob W.cl.cl W.fr ((lkS (by decide +kernel)).trans ((lkS (by decide +kernel)).trans lk0)) ?_
      walk_at "go"
      refine w_fldi M7.ob W.cl.cl W.ft ((lkS (by decide +kernel)).trans ((lkS (by decide +kernel)).trans ((lkS (by decide +kernel)).trans lk0))) ?_
      walk_at "go"
      refine ⟨fa, ta, figs30 ps, u, n, rfl, hf7.same rm_le, ht7.same rm_le, st.can, fun e he => ⟨(md.e60 e he).1, (md.e60 e he).2.2.1⟩, by have := md.len; omega, md.prod, st.lt, by have := st.len; have := md.np; omega, fun H8 s8 => ?_⟩
      have M8 := M7.same s8
      walk_at "go"
      refine w_sfldi M8.ob W.cl.cl W.fs (by show 4 < 1000; decide) ?_
      have M9 := M8.set (fs' := putF "size" (.int (cntT30 u ((figs30 ps).map (·.1)) 0 n : Nat)) [("modulus", .ref m), ("figures", .ref fa), ("rows", .ref ta), ("root", .int (n : Int))])
      have s9 : Same (rm o H8) (rm o (L2.upd H8 o (.ins Cb dx (putF "size" (.int (cntT30 u ((figs30 ps).map (·.1)) 0 n : Nat)) [("modulus", .ref m), ("figures", .ref fa), ("rows", .ref ta), ("root", .int (n : Int))])))) := by rw [rm_updS]; exact Same.refl _
      generalize L2.upd H8 o (.ins Cb dx (putF "size" (.int (cntT30 u ((figs30 ps).map (·.1)) 0 n : Nat)) [("modulus", .ref m), ("figures", .ref fa), ("rows", .ref ta), ("root", .int (n : Int))])) = H9 at M9 s9 ⊢
      rw [show putF "size" (.int (cntT30 u ((figs30 ps).map (·.1)) 0 n : Nat)) [("modulus", .ref m), ("figures", .ref fa), ("rows", .ref ta), ("root", .int (n : Int))] = bsF m fa ta n (szB ps u n) by rw [putS (by decide +kernel), putS (by decide +kernel), putS (by decide +kernel), putS (by decide +kernel)]; rfl] at M9
      have hB : BsAt c Cb H9 o ps u n := ⟨md, st, dx, m, fa, ta, M9.ob, (hmR.same M9.sm).same rm_le, (hf7.same (s8.rm.trans s9)).same rm_le, (ht7.same (s8.rm.trans s9)).same rm_le⟩
      walk_at "go"
      refine q H9 u n M9.keep hB (fun xs hx => ?_) hmem
      have nlo : l ≠ o := fun z => by rw [z, ho] at hx; cases hx
      have h9 := M9.keep l _ nlo hx
      have nfl : fa ≠ l := fun z => by rw [z, M1.keep l _ nlo hx] at nfa; cases nfa
      exact BsAt.rmL h9 md st M9.ob ((hmR.same M9.sm).same rm_le) ((hf7.same (s8.rm.trans s9)).same rm_le) ((ht7.same (s8.rm.trans s9)).same rm_le) nfl
    · have hnr := rw_ne ho hrw
      have hrw3 := (hrw.rmI ho hnr).same (M3.sm.trans rm_le)
      obtain ⟨dr0, ta0, hr0, _⟩ := id hrw3
      refine w_isiE (.x (R.cl.ty hr0)) kit_own ?_
      walk_at "go"
      refine iteT ?_
      have hrw5 := hrw3
      have hrn := hnr
      have M5 := M3
      have hf5 := hf3
      obtain ⟨dr, ta, hr1, hta⟩ := id hrw5
      have hta5 := hta.rmI M5.ob
      walk_at "go"
      refine w_fldi hr1 R.cl.cl R.rows lk0 ?_
      walk_at "go"
      refine w_sfldi M5.ob W.cl.cl W.fr (by show 2 < 1000; decide) ?_
      have M6 := M5.set (fs' := putF "rows" (.ref ta) [("modulus", .ref m), ("figures", .ref fa)])
      have hr6 : L2.upd H3 o (.ins Cb dx (putF "rows" (.ref ta) [("modulus", .ref m), ("figures", .ref fa)])) l = some _ := (L2.upd_ne hrn).trans hr1
      have s6 : Same (rm o H3) (rm o (L2.upd H3 o (.ins Cb dx (putF "rows" (.ref ta) [("modulus", .ref m), ("figures", .ref fa)])))) := by rw [rm_updS]; exact Same.refl _
      generalize L2.upd H3 o (.ins Cb dx (putF "rows" (.ref ta) [("modulus", .ref m), ("figures", .ref fa)])) = H6 at M6 hr6 s6 ⊢
      rw [show putF "rows" (.ref ta) [("modulus", .ref m), ("figures", .ref fa)] = ([("modulus", .ref m), ("figures", .ref fa), ("rows", .ref ta)] : List (Str × V)) by rw [putS (by decide +kernel), putS (by decide +kernel)]; rfl] at M6
      walk_at "go"
      refine w_fldi hr6 R.cl.cl R.root ((lkS (by decide +kernel)).trans lk0) ?_
      walk_at "go"
      refine w_sfldi M6.ob W.cl.cl W.ft (by show 3 < 1000; decide) ?_
      have M7 := M6.set (fs' := putF "root" (.int (n : Int)) [("modulus", .ref m), ("figures", .ref fa), ("rows", .ref ta)])
      have s7 : Same (rm o H6) (rm o (L2.upd H6 o (.ins Cb dx (putF "root" (.int (n : Int)) [("modulus", .ref m), ("figures", .ref fa), ("rows", .ref ta)])))) := by rw [rm_updS]; exact Same.refl _
      generalize L2.upd H6 o (.ins Cb dx (putF "root" (.int (n : Int)) [("modulus", .ref m), ("figures", .ref fa), ("rows", .ref ta)])) = H7 at M7 s7 ⊢
      rw [show putF "root" (.int (n : Int)) [("modulus", .ref m), ("figures", .ref fa), ("rows", .ref ta)] = ([("modulus", .ref m), ("figures", .ref fa), ("rows", .ref ta), ("root", .int (n : Int))] : List (Str × V)) by rw [putS (by decide +kernel), putS (by decide +kernel), putS (by decide +kernel)]; rfl] at M7
      have hf7 := hf5.same (s6.trans s7)
      have ht7 := hta5.same (s6.trans s7)
      walk_at "go"
      refine w_fldi M7.ob W.cl.cl W.ff ((lkS (by decide +kernel)).trans lk0) ?_
      walk_at "go"
      refine w_fldi M7.ob W.cl.cl W.fr ((lkS (by decide +kernel)).trans ((lkS (by decide +kernel)).trans lk0)) ?_
      walk_at "go"
      refine w_fldi M7.ob W.cl.cl W.ft ((lkS (by decide +kernel)).trans ((lkS (by decide +kernel)).trans ((lkS (by decide +kernel)).trans lk0))) ?_
      walk_at "go"
      refine ⟨fa, ta, figs30 ps, u, n, rfl, hf7.same rm_le, ht7.same rm_le, st.can, fun e he => ⟨(md.e60 e he).1, (md.e60 e he).2.2.1⟩, by have := md.len; omega, md.prod, st.lt, by have := st.len; have := md.np; omega, fun H8 s8 => ?_⟩
      have M8 := M7.same s8
      walk_at "go"
      refine w_sfldi M8.ob W.cl.cl W.fs (by show 4 < 1000; decide) ?_
      have M9 := M8.set (fs' := putF "size" (.int (cntT30 u ((figs30 ps).map (·.1)) 0 n : Nat)) [("modulus", .ref m), ("figures", .ref fa), ("rows", .ref ta), ("root", .int (n : Int))])
      have s9 : Same (rm o H8) (rm o (L2.upd H8 o (.ins Cb dx (putF "size" (.int (cntT30 u ((figs30 ps).map (·.1)) 0 n : Nat)) [("modulus", .ref m), ("figures", .ref fa), ("rows", .ref ta), ("root", .int (n : Int))])))) := by rw [rm_updS]; exact Same.refl _
      generalize L2.upd H8 o (.ins Cb dx (putF "size" (.int (cntT30 u ((figs30 ps).map (·.1)) 0 n : Nat)) [("modulus", .ref m), ("figures", .ref fa), ("rows", .ref ta), ("root", .int (n : Int))])) = H9 at M9 s9 ⊢
      rw [show putF "size" (.int (cntT30 u ((figs30 ps).map (·.1)) 0 n : Nat)) [("modulus", .ref m), ("figures", .ref fa), ("rows", .ref ta), ("root", .int (n : Int))] = bsF m fa ta n (szB ps u n) by rw [putS (by decide +kernel), putS (by decide +kernel), putS (by decide +kernel), putS (by decide +kernel)]; rfl] at M9
      have hB : BsAt c Cb H9 o ps u n := ⟨md, st, dx, m, fa, ta, M9.ob, (hmR.same M9.sm).same rm_le, (hf7.same (s8.rm.trans s9)).same rm_le, (ht7.same (s8.rm.trans s9)).same rm_le⟩
      walk_at "go"
      exact q H9 M9.keep hB
noncomputable abbrev s_balls : Stmt := (top 58)
theorem sc_balls : FnScope ["_law_purse_here", "_law_pairs", "_law_most", "_law_found", "_law_turn", "_law_wide", "_law_p", "_law_k", "_law_step"] ["_law_purse_here", "_law_pairs", "_law_most"] (defScope s_balls) :=
  ⟨rfl, rfl, rfl, by decide +kernel, rfl, by decide +kernel, by decide +kernel⟩
theorem ok_balls (F : Dn K mg "_law_balls" s_balls ["_law_purse_here", "_law_pairs", "_law_most"]) (T : Bt mg) (c_draw : Cal P w K mg base 2 "_law_draw" spDraw []) : Cal P w K mg base 3 "_law_balls" spBalls [] := by
  refine F.cal sc_balls (fun vs H Q E h => ?_) (fun f cdv A outer s H vs Q E hr h => ?_)
  · obtain ⟨a, l, ps, n, c, rfl, _⟩ := h
    rfl
  · obtain ⟨a, l, ps, n, c, rfl, pu, ⟨ts, h1, h2⟩, L, hn, hc, q⟩ := h
    have hpos : ∀ x ∈ ps, 0 < x.1 := fun x hx => (L.sm.1 x hx).1
    have hlen := h2.length
    have hnum := num_cast (Int.le_refl 0) L.asc
    have hsz : (10000000 : Nat) < sizeLine := by decide
    refine ⟨_, (pss_cons (ps_set (i := 3) sc_balls.nd rfl (Or.inl rfl) (pe_lst pa_nil))
      (pss_cons (ps_for PassesOwn.never rfl (pi_range1 (by rfl) T.range (pa_cons (pe_c c_draw hr (by decide) (by rfl) (pa_cons (pv 0) (pa_cons (pe_op op_add (pv 2) pe_int) pa_nil))) pa_nil)) (pg_name (i := 4) sc_balls.nd rfl (Or.inl rfl)) (pss_cons (ps_set (i := 5) sc_balls.nd rfl (Or.inl rfl) pe_int)
      (pss_cons (ps_for PassesOwn.never rfl (pi_list (pv 1)) (pg_tup rfl (pgs_cons (pg_name (i := 6) sc_balls.nd rfl (Or.inl rfl)) (pgs_cons (pg_name (i := 7) sc_balls.nd rfl (Or.inl rfl)) pgs_nil))) (pss_one (ps_for PassesOwn.never rfl (pi_range1 (by rfl) T.range (pa_cons (pe_c c_draw hr (by decide) (by rfl) (pa_cons (pv 0) (pa_cons (pe_op op_add (pv 7) pe_int) pa_nil))) pa_nil)) (pg_name (i := 8) sc_balls.nd rfl (Or.inl rfl)) (pss_one (ps_set (i := 5) sc_balls.nd rfl (Or.inl rfl) (pe_op oMul (pv 5) (pv 6)))))))
      (pss_one (ps_expr (pe_bm PySem.F.plainAttrs_list PySem.F.slot_list_append PySem.F.type_list_append mt_append (pv 3) (pa_cons (pe_tup (pa_cons (pe_op op_sub (pe_c c_draw hr (by decide) (by rfl) (pa_cons (pv 0) (pa_cons (pe_op op_add (pe_op oMul pe_int (pv 5)) pe_int) pa_nil))) (pe_op oMul pe_int (pv 5))) (pa_cons (pv 5) pa_nil))) pa_nil)))))))
      (pss_one (ps_ret (pv 3))))), ?_⟩
    walk_at "go"
    refine al fun fl H1 n1 s1 k1 => ?_
    have nfl := pu.fresh n1
    have G0 : GPr (rm a H) a fl [] H1 := .start nfl (rm_none n1) s1.rm k1
    walk_at "go"
    refine use_draw (pu.same s1) (by omega) (by omega) (by omega) (fun n' H2 r0 r1 k2 pu2 => ?_)
    have G2 := G0.mono k2.rm
    obtain ⟨m, rfl⟩ : ∃ m : Nat, n' = (m : Int) := ⟨n'.toNat, by omega⟩
    walk_at "go"
    refine for_range (lo := 0) (n := m) (fun i σ H' => ∃ (cs : List (Int × Int)) (v4 v5 v6 v7 v8 : Option V), σ = [some (.ref a), some (.ref l), some (.int (n : Int)), some (.ref fl), v4, v5, v6, v7, v8] ∧ GPr (rm a H) a fl cs H' ∧ Purse H' a (c + 1 + 6 * i) ∧ cs.length = i ∧ (∀ x ∈ cs, (∃ js, Jok ps js ∧ x.2 = (wN ps js : Nat)) ∧ x.1.natAbs ≤ 3000)) ⟨[], _, _, _, _, _, rfl, G2, pu2.le (by omega), rfl, fun x hx => by cases hx⟩ ?_ ?_
    · rintro i σ H3 hi ⟨cs, v4, v5, v6, v7, v8, rfl, G3, pu3, lcs, hcs⟩
      have hl3 : rm a H3 l = some (.lst (ts.map V.ref)) := rm_le _ _ (G3.sm _ _ h1)
      have hl3' := rm_le _ _ hl3
      walk_at "go"
      refine for_list (K := K) (a := l) (xs := ts.map V.ref) (fun j σ H' => ∃ (js : List Nat) (v6 v7 v8 : Option V), σ = [some (.ref a), some (.ref l), some (.int (n : Int)), some (.ref fl), some (.int (0 + (i : Int))), some (.int (wN (ps.take j) js : Nat)), v6, v7, v8] ∧ Same (rm a H3) (rm a H') ∧ Purse H' a (c + 1 + 6 * i + j) ∧ Jok (ps.take j) js) ⟨[], _, _, _, rfl, Same.refl _, pu3.le (by omega), .nil⟩ (fun j σ H' _ z => by obtain ⟨_, _, _, _, _, z, _⟩ := z; exact sq (rm_le _ _ (z _ _ hl3))) ?_ ?_
      · rintro j y σ H4 hj ⟨js, v6', v7', v8', rfl, s4, pu4, hjs⟩
        obtain ⟨pp, hpp, rfl⟩ := get_map hj
        obtain ⟨e, hee, hpx⟩ := paired_get h2 hpp
        have hem := List.mem_of_getElem? hee
        have hjl := (List.getElem?_eq_some_iff.mp hee).1
        have hpx : H4 pp = some (.tup [.int e.1, .int e.2]) := rm_le _ _ (s4 _ _ (rm_le _ _ (G3.sm _ _ hpx)))
        obtain ⟨e1, e2, e3, e4⟩ := L.sm.1 e hem
        have epw := L.pw e hem
        refine w_gtup (sqt hpx) rfl ?_
        walk_at "go"
        refine use_draw pu4 (by omega) (by omega) (by have := L.ln; omega) (fun r' H5 r0 r1 k5 pu5 => ?_)
        obtain ⟨r, rfl⟩ : ∃ r : Nat, r' = (r : Int) := ⟨r'.toNat, by omega⟩
        have hw : ∀ t, t ≤ r → wN (ps.take j) js * e.1.natAbs ^ t ≤ 400 := fun t ht => by
          have hj' : Jok (ps.take (j + 1)) (js ++ [t]) := by
            rw [List.take_add_one, hee]
            exact hjs.snoc (show t ≤ e.2.toNat by omega)
          have e5 := wN_take hj' hpos
          rw [List.take_add_one, hee] at e5
          have e6 := wN_snoc (q := e) (j := t) hjs
          have := L.nm
          rw [← e6]
          have e7 : (wN (ps.take j ++ [e]) (js ++ [t]) : Int) ≤ numN ps := by exact_mod_cast e5
          omega
        walk_at "go"
        refine for_range (lo := 0) (n := r) (fun t σ H' => ∃ (v8 : Option V), σ = [some (.ref a), some (.ref l), some (.int (n : Int)), some (.ref fl), some (.int (0 + (i : Int))), some (.int (wN (ps.take j) js * e.1.natAbs ^ t : Nat)), some (.int e.1), some (.int e.2), v8] ∧ H' = H5) ⟨_, by rw [Nat.pow_zero, Nat.mul_one]; rfl, rfl⟩ ?_ ?_
        · rintro t σ H6 ht ⟨v8'', rfl, rfl⟩
          have hm : CMx ((wN (ps.take j) js * e.1.natAbs ^ t : Nat) : Int) e.1 := mx_r (by omega)
          walk_at "go"
          refine ⟨some (.int (0 + (t : Int))), ?_, rfl⟩
          rw [show ((wN (ps.take j) js * e.1.natAbs ^ t : Nat) : Int) * e.1 = ((wN (ps.take j) js * e.1.natAbs ^ (t + 1) : Nat) : Int) from by
            rw [Nat.pow_succ, ← Nat.mul_assoc, Int.natCast_mul (wN (ps.take j) js * e.1.natAbs ^ t), Int.natAbs_of_nonneg (by omega)]]
        · rintro σ H6 ⟨v8'', rfl, rfl⟩
          walk_at "go"
          refine ⟨js ++ [r], some (.int e.1), some (.int e.2), v8'', ?_, s4.trans k5.rm, pu5.le (by omega), ?_⟩
          · rw [List.take_add_one, hee, show (some e).toList = [e] from rfl, wN_snoc hjs]
          · rw [List.take_add_one, hee]
            exact hjs.snoc (show r ≤ e.2.toNat by omega)
      · rintro σ H4 ⟨js, v6', v7', v8', rfl, s4, pu4, hjs⟩
        rw [List.length_map, ← hlen, List.take_length] at hjs
        rw [List.length_map, ← hlen] at pu4
        have hw1 := wN_take (ps := ps) (i := ps.length) (js := js) (by rw [List.take_length]; exact hjs) hpos
        have hw0 := wN_pos hjs hpos
        have hln := L.ln
        have hnm := L.nm
        rw [List.take_length] at hw1
        obtain ⟨W, hW⟩ : ∃ W, W = wN ps js := ⟨_, rfl⟩
        have e0 : [some (V.ref a), some (.ref l), some (.int (n : Int)), some (.ref fl), some (.int (0 + (i : Int))), some (.int (wN (ps.take (ts.map V.ref).length) js : Nat)), v6', v7', v8'] = [some (.ref a), some (.ref l), some (.int (n : Int)), some (.ref fl), some (.int (0 + (i : Int))), some (.int (W : Int)), v6', v7', v8'] := by
          rw [hW, List.length_map, ← hlen, List.take_length]
        rw [e0]
        rw [← hW] at hw1 hw0
        have hm5 : CMx 5 ((W : Nat) : Int) := mx_r (by omega)
        have hm2 : CMx 2 ((W : Nat) : Int) := mx_r (by omega)
        have G4 := G3.mono s4
        obtain ⟨fs4, hf4, _⟩ := G4.li
        walk_at "go"
        refine use_draw pu4 (by omega) (by omega) (by omega) (fun r H5 r0 r1 k5 pu5 => ?_)
        have G5 := G4.mono k5.rm
        walk_at "go"
        refine al fun p8 H6 n6 s6 k6 => ?_
        have G6 := G5.mono s6.rm
        obtain ⟨fs6, hf6, hf62⟩ := G6.li
        have e8 := hf62.length
        have np8 := pu5.fresh n6
        walk_at "go"
        refine w_append hf6 (by rw [List.length_map]; omega) ?_
        have G7 := G6.push (x := (r - 2 * (W : Int), (W : Int))) hf6 hf62 np8 k6
        walk_at "go"
        refine ⟨cs ++ [(r - 2 * (W : Int), (W : Int))], _, _, _, _, _, rfl, G7, ((pu5.same s6).upd30 nfl).le (by omega), by rw [List.length_append, lcs]; rfl, fun x hx => ?_⟩
        rcases List.mem_append.mp hx with hx | hx
        · exact hcs x hx
        · rw [List.mem_singleton.mp hx]
          exact ⟨⟨js, hjs, by rw [hW]⟩, by show (r - 2 * (W : Int)).natAbs ≤ 3000; omega⟩
    · rintro σ H3 ⟨cs, v4, v5, v6, v7, v8, rfl, G3, pu3, lcs, hcs⟩
      walk_at "go"
      exact q fl H3 cs n1 (G3.sm.trans rm_le) (pu3.le (by omega)) G3.all ⟨by omega, fun x hx => (hcs x hx).1, fun x hx => (hcs x hx).2⟩
noncomputable abbrev s_membs : Stmt := (top 59)
theorem sc_membs : FnScope ["_law_balls_here", "_law_size_here", "_law_root", "_law_rest", "_law_wide"] ["_law_balls_here", "_law_size_here"] (defScope s_membs) :=
  ⟨rfl, rfl, rfl, by decide +kernel, rfl, by decide +kernel, by decide +kernel⟩
theorem ok_membs (F : Dn K mg "_law_members" s_membs ["_law_balls_here", "_law_size_here"]) (T : Bt mg) : Cal P w K mg base 1 "_law_members" spMembers [] := by
  refine F.cal sc_membs (fun vs H Q E h => ?_) (fun f cdv A outer s H vs Q E hr h => ?_)
  · obtain ⟨l, cs, N, rfl, _⟩ := h
    rfl
  · obtain ⟨l, cs, N, rfl, ⟨ts, h1, h2⟩, hcs, hln, hN, q⟩ := h
    have hlen := h2.length
    refine ⟨_, (pss_one (ps_ret (pe_lc (own := [("_law_root", 2)]) (g := gName 2) (tt := (tTest (tOp (rNeD K) (tLc (iList K (tVar 0)) (gTup _ 2 (gCons (gName 3) (gCons (gName 4) gNil))) (tTest (tOp _ (tOp _ (tOp _ (tVar 2) (tVar 3)) (tVar 4)) _)) _ (List.map (fun x => x.2) [((Str.ofString "_law_rest" : Str), 3), ((Str.ofString "_law_wide" : Str), 4)])) (tLst tNil)))) (te := (tVar 2)) rfl sc_membs.nd (pi_range1 (by rfl) T.range (pa_cons (pv 1) pa_nil)) (blkOk_by (own := [("_law_root", 2)]) (N := ["_law_balls_here", "_law_size_here", "_law_root", "_law_rest", "_law_wide"]) (sc := defScope s_membs) (by decide +kernel)) (fun _ _ _ _ _ => (pg_name (i := 2) sc_membs.nd rfl (Or.inr rfl))) (fun _ _ _ _ _ => (pts_one (pt_cmpR (op_neD hr.units) (pe_lc (own := [("_law_rest", 3), ("_law_wide", 4)]) (g := gTup _ 2 (gCons (gName 3) (gCons (gName 4) gNil))) (tt := (tTest (tOp _ (tOp _ (tOp _ (tVar 2) (tVar 3)) (tVar 4)) _))) (te := _) rfl sc_membs.nd (pi_list (pv 0)) (blkOk_by (own := [("_law_rest", 3), ("_law_wide", 4)]) (by first | rfl | kernel_rfl)) (fun _ _ _ _ _ => (pg_tup rfl (pgs_cons (pg_name (i := 3) sc_membs.nd rfl (Or.inl rfl)) (pgs_cons (pg_name (i := 4) sc_membs.nd rfl (Or.inl rfl)) pgs_nil)))) (fun _ _ _ _ _ => (pts_one (pt_cmpR op_eq (pe_op op_mod (pe_op op_sub (pv 2) (pv 3)) (pv 4)) pe_int (nomark _)))) (fun _ _ _ _ _ => pe_int)) (pe_lst pa_nil) (nomark _)))) (fun _ _ _ _ _ => (pv 2))))), ?_⟩
    walk_at "go"
    intro D hD
    rw [Int.toNat_natCast]
    refine lc_filt ((List.range N).map fun i : Nat => V.int (0 + (i : Int))) (isB cs) (fun v => v) walk_rangeY hD (fun _ _ => trivial) (by rw [List.length_map, List.length_range]; omega) (fun _ => rfl) ?_ ?_ ?_
    · intro i x H5 hx s5 Q' q'
      obtain ⟨r, hr', rfl⟩ := get_map hx
      have hl5 := s5 _ _ h1
      walk_at "go"
      intro D2 hD2
      refine lc_pairs (cs.map fun c => ((V.int c.1, V.int c.2) : V × V)) ts (bal (0 + (r : Int))) (fun _ => .int 1) walk_list (paired_map (paired_imp (fun _ _ z => s5 _ _ z) h2)) hD2 (fun H' sm => sq (sm _ _ hl5)) (by rw [List.length_map]; omega) (fun _ _ => rfl) ?_ ?_ ?_
      · intro n q H6 hq s6 Q2 q2
        obtain ⟨cc, hcc, rfl⟩ := get_map hq
        obtain ⟨c0, c1⟩ := hcs cc (List.mem_of_getElem? hcc)
        have dv : CDivW (0 + (r : Int) - cc.1) cc.2 := wdiv60 (by omega) (by omega)
        walk_at "go"
        rw [decI]
        exact q2 H6 (Same.refl _)
      · intro n q H6 hq hp s6 Q2 q2
        walk_at "go"
        exact q2 H6 (Same.refl _)
      · intro H6 s6 h6
        walk_at "go"
        refine al fun p7 H7 n7 s7 k7 => ?_
        have h6' : H7 D2 = some (.lst ((((cs.map fun c => ((V.int c.1, V.int c.2) : V × V)).filter (bal (0 + (r : Int)))).map fun _ => (1 : Int)).map V.int)) := by
          rw [List.map_map]
          exact s7 _ _ h6
        walk_at "go"
        refine w_neLL (ms := []) (sq h6') (sq k7) ?_
        rw [bal_any]
        exact ⟨_, rfl, q' H7 (s6.trans s7)⟩
    · intro i x H5 hx hp s5 Q' q'
      walk_at "go"
      exact q' H5 (Same.refl _)
    · intro H5 s5 h5
      walk_at "go"
      rw [mem_filt] at h5
      exact q D H5 hD s5 h5
noncomputable abbrev s_ordr : Stmt := (top 60)
theorem sc_ordr : FnScope ["_law_purse_here", "_law_made", "_law_members_here", "_law_size_here", "_law_turn", "_law_spot", "_law_less", "_law_root", "_law_order", "_law_turns", "_law_place", "_law_later", "_law_far", "_law_due"] ["_law_purse_here", "_law_made", "_law_members_here", "_law_size_here"] (defScope s_ordr) :=
  ⟨rfl, rfl, rfl, by decide +kernel, rfl, by decide +kernel, by decide +kernel⟩
theorem ok_ordr {c : CA} {Cb Cr : Addr} (F : Dn K mg "_law_order_right" s_ordr ["_law_purse_here", "_law_made", "_law_members_here", "_law_size_here"]) (T : Bt mg) (W : KBs K mg Cb Cr) (c_draw : Cal P w K mg base 2 "_law_draw" spDraw []) (c_bsbelow : Met P w K mg base 132 Cb "below" (spBelw c Cb) []) (c_bsnth : Met P w K mg base 132 Cb "nth" (spNth c Cb) []) (c_bsfrm : Met P w K mg base 132 Cb "first_from" (spFrm c Cb) []) : Cal P w K mg base 133 "_law_order_right" (spOrdR c Cb) [] := by
  refine F.cal sc_ordr (fun vs H Q E h => ?_) (fun f cdv A outer s H vs Q E hr h => ?_)
  · obtain ⟨a, o, l, ps, u, n, cc, rfl, _⟩ := h
    rfl
  · obtain ⟨a, o, l, ps, u, n, cc, rfl, pu, hcc, hb, hN, hl, q⟩ := h
    obtain ⟨md, st, dx, m, fa, ta, h1, h2, h3, h4⟩ := id hb
    have Pm := memB_per md (u := u) (n := n)
    have N0 := md.num
    have hsz := szB_eq md st
    obtain ⟨N, hNe⟩ : ∃ N : Nat, N = (num ps).toNat := ⟨_, rfl⟩
    have hNi : num ps = (N : Int) := by omega
    rw [← hNe] at hl Pm
    have hML := mI_len (memI := memB ps u n) (N := N)
    have hszM : szB ps u n = cm30 (mN (memB ps u n)) N := by rw [hsz, ← hNe]; rfl
    have ho := rm_le _ _ h1
    have hl0 := rm_le _ _ hl
    refine ⟨_, (pss_cons (ps_if (pt_cmpR (op_eqD hr.units) (pv 2) (pe_lst pa_nil) (nomark _)) (pss_one (ps_ret (pe_cmpR (op_eqD hr.units) (pe_lst (pa_cons (pe_mt c_bsnth hr (by decide) (pv 1) (pa_cons pe_int pa_nil)) (pa_cons (pe_mt c_bsnth hr (by decide) (pv 1) (pa_cons pe_int pa_nil)) (pa_cons (pe_mt c_bsfrm hr (by decide) (pv 1) (pa_cons (pe_un un_neg pe_int) pa_nil)) (pa_cons (pe_mt c_bsbelow hr (by decide) (pv 1) (pa_cons pe_int pa_nil)) pa_nil))))) (pe_lst (pa_cons pe_non (pa_cons pe_non (pa_cons pe_non (pa_cons pe_int pa_nil))))) (nomark _)))) pss_nil)
      (pss_cons (ps_for PassesOwn.never rfl (pi_range1 (by rfl) T.range (pa_cons pe_int pa_nil)) (pg_name (i := 4) sc_ordr.nd rfl (Or.inl rfl)) (pss_cons (ps_set (i := 5) sc_ordr.nd rfl (Or.inr rfl) (pe_c c_draw hr (by decide) (by rfl) (pa_cons (pv 0) (pa_cons (pe_op op_add (pe_op oMul pe_int (pv 3)) pe_int) pa_nil))))
      (pss_cons (ps_setLc (i := 6) (own := [("_law_root", 7)]) (g := gName 7) (tt := (tTest (tOp _ (tVar 7) (tOp _ (tVar 5) (tVar 3))))) (te := (tVar 7)) rfl sc_ordr.nd rfl rfl (sw_true rfl rfl rfl (by decide +kernel)) (pi_list (pv 2)) (blkOk_by (own := [("_law_root", 7)]) (N := ["_law_purse_here", "_law_made", "_law_members_here", "_law_size_here", "_law_turn", "_law_spot", "_law_less", "_law_root", "_law_order", "_law_turns", "_law_place", "_law_later", "_law_far", "_law_due"]) (sc := defScope s_ordr) (by decide +kernel)) (fun _ _ _ _ _ => (pg_name (i := 7) sc_ordr.nd rfl (Or.inl rfl))) (fun _ _ _ _ _ => (pts_one (pt_cmpR op_lt (pv 7) (pe_op op_mod (pv 5) (pv 3)) (nomark _)))) (fun _ _ _ _ _ => (pv 7)))
      (pss_cons (ps_if (pt_cmpR op_ne (pe_mt c_bsbelow hr (by decide) (pv 1) (pa_cons (pv 5) pa_nil)) (pe_op op_add (pe_op oMul (pe_op op_fdivW (pv 5) (pv 3)) (pe_callB cLen (by rfl) T.len (by decide +kernel) (pa_cons (pv 2) pa_nil))) (pe_callB cLen (by rfl) T.len (by decide +kernel) (pa_cons (pv 6) pa_nil))) (nomark _)) (pss_one (ps_ret pe_bl)) pss_nil)
      (pss_cons (ps_set (i := 8) sc_ordr.nd rfl (Or.inl rfl) (pe_c c_draw hr (by decide) (by rfl) (pa_cons (pv 0) (pa_cons (pe_op oMul pe_int (pe_callB cLen (by rfl) T.len (by decide +kernel) (pa_cons (pv 2) pa_nil))) pa_nil))))
      (pss_cons (ps_par (i := 9) (j := 10) (by rfl) sc_ordr.nd rfl rfl (by decide) rfl rfl (pa_cons (pe_op op_fdivW (pv 8) (pe_callB cLen (by rfl) T.len (by decide +kernel) (pa_cons (pv 2) pa_nil))) (pa_cons (pe_op op_mod (pv 8) (pe_callB cLen (by rfl) T.len (by decide +kernel) (pa_cons (pv 2) pa_nil))) pa_nil)) (by rfl))
      (pss_cons (ps_if (pt_cmpR op_ne (pe_mt c_bsnth hr (by decide) (pv 1) (pa_cons (pv 8) pa_nil)) (pe_op op_add (pe_op oMul (pv 9) (pv 3)) (pe_ix ix_list (pv 2) (pv 10) (fun _ _ => rfl))) (nomark _)) (pss_one (ps_ret pe_bl)) pss_nil)
      (pss_cons (ps_set (i := 5) sc_ordr.nd rfl (Or.inr rfl) (pe_op op_sub (pv 5) (pv 3)))
      (pss_cons (ps_setLc (i := 11) (own := [("_law_root", 7)]) (g := gName 7) (tt := (tTest (tOp (rIn K false) (tOp _ (tVar 7) (tVar 3)) (tVar 2)))) (te := (tVar 7)) rfl sc_ordr.nd rfl rfl (sw_true rfl rfl rfl (by decide +kernel)) (pi_range2 (by rfl) T.range (pa_cons (pv 5) (pa_cons (pe_op op_add (pv 5) (pv 3)) pa_nil))) (blkOk_by (own := [("_law_root", 7)]) (N := ["_law_purse_here", "_law_made", "_law_members_here", "_law_size_here", "_law_turn", "_law_spot", "_law_less", "_law_root", "_law_order", "_law_turns", "_law_place", "_law_later", "_law_far", "_law_due"]) (sc := defScope s_ordr) (by decide +kernel)) (fun _ _ _ _ _ => (pg_name (i := 7) sc_ordr.nd rfl (Or.inl rfl))) (fun _ _ _ _ _ => (pts_one (pt_cmpR op_in_seq (pe_op op_mod (pv 7) (pv 3)) (pv 2) (by rfl)))) (fun _ _ _ _ _ => (pv 7)))
      (pss_one (ps_if (PW.pt (pw_or (pt_cmpR op_ne (pe_mt c_bsfrm hr (by decide) (pv 1) (pa_cons (pv 5) pa_nil)) (pe_ix ix_list (pv 11) pe_int (fun _ _ => rfl)) (nomark _)) (pw_or1 (pt_cmpR op_ne (pe_mt c_bsfrm hr (by decide) (pv 1) (pa_cons (pe_ix ix_list (pv 11) pe_int (fun _ _ => rfl)) pa_nil)) (pe_ix ix_list (pv 11) pe_int (fun _ _ => rfl)) (nomark _))))) (pss_one (ps_ret pe_bl)) pss_nil)))))))))))
      (pss_cons (ps_set (i := 12) sc_ordr.nd rfl (Or.inl rfl) (pe_op op_add (pe_op oPowW pe_int pe_int) (pe_c c_draw hr (by decide) (by rfl) (pa_cons (pv 0) (pa_cons (pv 3) pa_nil)))))
      (pss_cons (ps_set (i := 13) sc_ordr.nd rfl (Or.inl rfl) (pe_lst (pa_cons (pe_op op_add (pe_op oMul (pv 3) (pv 12)) (pe_ix ix_list (pv 2) pe_int (fun _ _ => rfl))) (pa_cons (pe_op oMul (pe_callB cLen (by rfl) T.len (by decide +kernel) (pa_cons (pv 2) pa_nil)) (pv 12)) pa_nil))))
      (pss_one (ps_ret (pe_cmpR (op_eqD hr.units) (pe_lst (pa_cons (pe_mt c_bsnth hr (by decide) (pv 1) (pa_cons (pe_op oMul (pe_callB cLen (by rfl) T.len (by decide +kernel) (pa_cons (pv 2) pa_nil)) (pv 12)) pa_nil)) (pa_cons (pe_mt c_bsbelow hr (by decide) (pv 1) (pa_cons (pe_op oMul (pv 3) (pv 12)) pa_nil)) pa_nil))) (pv 13) (nomark _)))))))), ?_⟩
    walk_at "go"
    refine al fun p1 H1 n1 s1 k1 => ?_
    have pu1 := pu.same s1
    have hb1 := hb.same s1.rm
    have hl1 := s1.rm _ _ hl
    have n1a := pu.fresh n1
    have hbH1 := hb1.same rm_le
    have hh1 := rm_le _ _ (s1.rm _ _ h1)
    walk_at "go"
    refine w_eqLL (ls := mI (memB ps u n) N) (ms := []) (sq (rm_le _ _ hl1)) (sq k1) ?_
    by_cases e0 : mI (memB ps u n) N = []
    · rw [decide_eq_true e0]
      have z0 : szB ps u n = 0 := by rw [hszM, ← hML, e0]; rfl
      have zc : cmB ps u n 99 = 0 := by
        have := cm_mod Pm 99
        have h0 : cm30 (mN (memB ps u n)) N = 0 := by omega
        rw [h0, Nat.mul_zero, Nat.zero_add] at this
        have h2 := cm_mono (mem := mN (memB ps u n)) (Nat.le_of_lt (Nat.mod_lt 99 Pm.1))
        show cm30 (mN (memB ps u n)) 99 = 0
        omega
      walk_at "go"
      refine iteT ?_
      walk_at "go"
      refine ⟨o, dx, _, rfl, hh1, bs_no (by decide +kernel) (by decide +kernel) (by decide +kernel) (by decide +kernel) (by decide +kernel), ?_⟩
      refine ⟨o, ps, u, n, 0, rfl, hbH1, .inl ⟨z0, fun H2 s2 => ?_⟩⟩
      have hh2 := s2 _ _ hh1
      walk_at "go"
      refine ⟨o, dx, _, rfl, hh2, bs_no (by decide +kernel) (by decide +kernel) (by decide +kernel) (by decide +kernel) (by decide +kernel), ?_⟩
      refine ⟨o, ps, u, n, 7, rfl, hbH1.same s2, .inl ⟨z0, fun H3 s3 => ?_⟩⟩
      have hh3 := s3 _ _ hh2
      walk_at "go"
      refine ⟨o, dx, _, rfl, hh3, bs_no (by decide +kernel) (by decide +kernel) (by decide +kernel) (by decide +kernel) (by decide +kernel), ?_⟩
      walk_at "go"
      refine ⟨o, ps, u, n, -3, rfl, hbH1.same (s2.trans s3), .inl ⟨z0, fun H4 s4 => ?_⟩⟩
      have hh4 := s4 _ _ hh3
      walk_at "go"
      refine ⟨o, dx, _, rfl, hh4, bs_no (by decide +kernel) (by decide +kernel) (by decide +kernel) (by decide +kernel) (by decide +kernel), ?_⟩
      refine ⟨o, ps, u, n, 99, rfl, hbH1.same (s2.trans (s3.trans s4)), fun H5 s5 => ?_⟩
      rw [zc]
      walk_at "go"
      refine al fun p6 H6 n6 s6 k6 => ?_
      walk_at "go"
      refine al fun p7 H7 n7 s7 k7 => ?_
      walk_at "go"
      have S := s1.trans (s2.trans (s3.trans (s4.trans (s5.trans (s6.trans s7)))))
      refine ⟨_, _, .lst (sq (s7 _ _ k6)) (.cons .non (.cons .non (.cons .non (.cons (.int _) .nil)))), .lst (sq k7) (.cons .non (.cons .non (.cons .non (.cons (.int _) .nil)))), by decide +kernel, by decide +kernel, ?_⟩
      walk_at "go"
      exact q H7 S.rm ((pu.same S).le (by omega))
    · rw [decide_eq_false e0]
      walk_at "go"
      refine iteF ?_
      walk_at "go"
      have hpz : 0 < szB ps u n := by
        have : (mI (memB ps u n) N).length ≠ 0 := fun z => e0 (List.eq_nil_of_length_eq_zero z)
        omega
      have hszN : szB ps u n ≤ N := by have := szB_le md st; omega
      refine for_range (lo := 0) (n := 4) (fun i σ H' => ∃ (v4 v5 v6 v7 v8 v9 v10 v11 : Option V), σ = [some (.ref a), some (.ref o), some (.ref l), some (.int (num ps)), v4, v5, v6, v7, v8, v9, v10, v11, none, none] ∧ Same (rm a H1) (rm a H') ∧ Purse H' a (cc + 2 * i)) ⟨_, _, _, _, _, _, _, _, rfl, Same.refl _, pu1.le (by omega)⟩ ?_ ?_
      · rintro i σ H2 hi ⟨v4, v5, v6, v7, v8, v9, v10, v11, rfl, s2, pu2⟩
        have hm3 : CMx 3 (num ps) := mx_r (by omega)
        walk_at "go"
        refine use_draw pu2 (by omega) (by omega) (by omega) (fun r H3 r0 r1 k3 pu3 => ?_)
        obtain ⟨sp, rfl⟩ : ∃ sp : Nat, r = (sp : Int) := ⟨r.toNat, by omega⟩
        have s3 := s2.trans k3.rm
        have hl3 := rm_le _ _ (s3 _ _ hl1)
        have hh3 := rm_le _ _ (s3 _ _ (s1.rm _ _ h1))
        have hb3 := (hb1.same s3).same rm_le
        have dN : CDivW (sp : Int) (num ps) := wdiv60 (by omega) (by omega)
        walk_at "go"
        intro D hD
        refine lc_filtI (mI (memB ps u n) N) (fun x => decide (x < ((sp % N : Nat) : Int))) walk_list hD (fun H' sm => sq (sm _ _ hl3)) (by omega) (fun _ => rfl) ?_ ?_ ?_
        · intro j x H5 hx s5 Q' q'
          walk_at "go"
          rw [hNi]
          exact q' H5 (Same.refl _)
        · intro x H5 s5 Q' q'
          walk_at "go"
          exact q' H5 (Same.refl _)
        intro H4 s4 h4
        have hh4 := s4 _ _ hh3
        have hb4 := hb3.same s4
        have pu4 := pu3.same s4
        walk_at "go"
        refine ⟨o, dx, _, rfl, hh4, bs_no (by decide +kernel) (by decide +kernel) (by decide +kernel) (by decide +kernel) (by decide +kernel), ?_⟩
        walk_at "go"
        refine ⟨o, ps, u, n, sp, rfl, hb4, fun H5 s5 => ?_⟩
        have hl5 := (s4.trans s5) _ _ hl3
        have h45 := s5 _ _ h4
        have dN : CDivW (sp : Int) (num ps) := wdiv60 (by omega) (by omega)
        have cmm : CMx ((sp : Int) / num ps) (((mI (memB ps u n) N).map V.int).length : Int) := mx_r (by rw [List.length_map]; omega)
        walk_at "go"
        have e1 : ((cmB ps u n sp : Nat) : Int) = (sp : Int) / num ps * (((mI (memB ps u n) N).map V.int).length : Int) + ((((mI (memB ps u n) N).filter fun x => decide (x < ((sp % N : Nat) : Int))).map V.int).length : Int) := by
          rw [List.length_map, List.length_map, mI_less (Nat.le_of_lt (Nat.mod_lt _ Pm.1)), hML]
          show ((cm30 (mN (memB ps u n)) sp : Nat) : Int) = _
          rw [cm_mod Pm sp, hNi, Int.natCast_add, Int.natCast_mul, Int.natCast_ediv]
        rw [← e1]
        rw [decI, decide_eq_true rfl]
        refine iteF ?_
        have hh5 := s5 _ _ hh4
        have hb5 := hb4.same s5
        have pu5 := pu4.same s5
        have cm4 : CMx 4 (((mI (memB ps u n) N).map V.int).length : Int) := mx_r (by rw [List.length_map]; omega)
        walk_at "go"
        rw [List.length_map, hML, ← hszM]
        refine use_draw pu5 (by omega) (by omega) (by omega) (fun r H6 r0 r1 k6 pu6 => ?_)
        obtain ⟨od, rfl⟩ : ∃ od : Nat, r = (od : Int) := ⟨r.toNat, by omega⟩
        have sA := (s4.trans s5).rm.trans k6.rm
        have hl6 := rm_le _ _ (sA _ _ (s3 _ _ hl1))
        have hh6 := rm_le _ _ (sA _ _ (s3 _ _ (s1.rm _ _ h1)))
        have hb6 := (hb1.same (s3.trans sA)).same rm_le
        have pL : 0 < (((mI (memB ps u n) N).map V.int).length : Int) := by rw [List.length_map]; omega
        have dL : CDivW (od : Int) (((mI (memB ps u n) N).map V.int).length : Int) := wdiv60 (by rw [List.length_map]; omega) (by rw [List.length_map]; omega)
        walk_at "go"
        refine ⟨o, dx, _, rfl, hh6, bs_no (by decide +kernel) (by decide +kernel) (by decide +kernel) (by decide +kernel) (by decide +kernel), ?_⟩
        walk_at "go"
        refine ⟨o, ps, u, n, od, rfl, hb6, .inr ⟨hpz, fun H7 x s7 hx hmx hcx => ?_⟩⟩
        have hl7 := s7 _ _ hl6
        have hxN : x < N := by omega
        have hMx := mI_at (memI := memB ps u n) hxN hmx
        rw [show cm30 (mN (memB ps u n)) x = od % szB ps u n from hcx] at hMx
        have elen : (((mI (memB ps u n) N).map V.int).length : Int) = ((szB ps u n : Nat) : Int) := by rw [List.length_map, hML, hszM]
        have cm8 : CMx ((od : Int) / (((mI (memB ps u n) N).map V.int).length : Int)) (num ps) := mx_r (by omega)
        walk_at "go"
        refine w_ixL (sq hl7) (at_idx30 (n := od % szB ps u n) (x := .int (x : Int)) (by rw [List.getElem?_map, hMx]; rfl) (by rw [elen, Int.natCast_emod])) ?_
        walk_at "go"
        rw [elen, decI, decide_eq_true rfl]
        refine iteF ?_
        have pu7 := pu6.same s7
        walk_at "go"
        rw [show ((sp : Int) - num ps + num ps - ((sp : Int) - num ps)).toNat = N by omega]
        have hl7' := hl7
        intro D2 hD2
        refine lc_filtI ((List.range N).map fun i : Nat => (sp : Int) - num ps + (i : Int)) (memB ps u n) (by rw [List.map_map]; exact walk_rangeY) hD2 (fun _ _ => trivial) (by rw [List.length_map, List.length_range]; omega) (fun _ => rfl) ?_ ?_ ?_
        · intro j x H8 hx s8 Q' q'
          have hl8 := s8 _ _ hl7
          have dx8 : CDivW x (num ps) := wdiv60 (by omega) (by omega)
          walk_at "go"
          refine w_inI30 (sq hl8) ?_
          rw [hNi, mI_mem Pm]
          exact ⟨_, rfl, q' H8 (Same.refl _)⟩
        · intro x H8 s8 Q' q'
          walk_at "go"
          exact q' H8 (Same.refl _)
        intro H8 s8 h8
        have pu8 := pu7.same s8
        have hh8 := s8 _ _ (s7 _ _ hh6)
        have hb8 := hb6.same (s7.trans s8)
        walk_at "go"
        refine ⟨o, dx, _, rfl, hh8, bs_no (by decide +kernel) (by decide +kernel) (by decide +kernel) (by decide +kernel) (by decide +kernel), ?_⟩
        walk_at "go"
        refine ⟨o, ps, u, n, (sp : Int) - num ps, rfl, hb8, .inr ⟨hpz, fun H9 y s9 hy hmy hcy => ?_⟩⟩
        have hL := frm_least Pm (s := (sp : Int) - num ps) (x := y) (by omega) hmy rfl (by rw [← hszM, ← hNi]; exact hcy) (by omega)
        rw [← hszM, ← hNi] at hL
        have hfst := later_first (N := N) hL.1 (by have := hL.2; omega) rfl
        obtain ⟨v, hv⟩ : ∃ v, v = (((sp : Int) - num ps) / num ps + ((cmB ps u n (((sp : Int) - num ps) % num ps).toNat : Nat) : Int) / ((szB ps u n : Nat) : Int)) * num ps + (y : Int) := ⟨_, rfl⟩
        have hv' := hv
        unfold cmB at hv'
        have hfst : (((List.range N).map fun i : Nat => (sp : Int) - num ps + (i : Int)).filter (memB ps u n))[0]? = some v := by rw [hv']; exact hfst
        have hLs : Lst30 (memB ps u n) ((sp : Int) - num ps) v := by rw [hv']; exact hL.1
        rw [← hv]
        have h89 := s9 _ _ h8
        walk_at "go"
        refine w_ixL (sq h89) (at_idx30 (n := 0) (x := .int v) (by rw [List.getElem?_map, hfst]; rfl) rfl) ?_
        walk_at "go"
        rw [decI, decide_eq_true rfl]
        have hh9 := s9 _ _ hh8
        have hb9 := hb8.same s9
        have pu9 := pu8.same s9
        refine iteF ?_
        walk_at "go"
        refine ⟨o, dx, _, rfl, hh9, bs_no (by decide +kernel) (by decide +kernel) (by decide +kernel) (by decide +kernel) (by decide +kernel), ?_⟩
        walk_at "go"
        refine w_ixL (sq h89) (at_idx30 (n := 0) (x := .int v) (by rw [List.getElem?_map, hfst]; rfl) rfl) ?_
        walk_at "go"
        refine ⟨o, ps, u, n, v, rfl, hb9, .inr ⟨hpz, fun HA z sA2 hz hmz hcz => ?_⟩⟩
        have hL2 := frm_least Pm (s := v) (x := z) (by omega) hmz rfl (by rw [← hszM, ← hNi]; exact hcz) (by omega)
        rw [← hszM, ← hNi] at hL2
        have hev : (v / num ps + ((cmB ps u n (v % num ps).toNat : Nat) : Int) / ((szB ps u n : Nat) : Int)) * num ps + (z : Int) = v := hL2.1.uniq (.self hLs.mm)
        rw [hev]
        have h8A := sA2 _ _ h89
        walk_at "go"
        refine w_ixL (sq h8A) (at_idx30 (n := 0) (x := .int v) (by rw [List.getElem?_map, hfst]; rfl) rfl) ?_
        walk_at "go"
        rw [decI, decide_eq_true rfl]
        refine iteF ?_
        walk_at "go"
        exact ⟨_, _, _, _, _, _, _, _, rfl, s3.trans (sA.trans (s7.trans (s8.trans (s9.trans sA2))).rm), (pu9.same sA2).le (by omega)⟩
      · rintro σ H2 ⟨v4, v5, v6, v7, v8, v9, v10, v11, rfl, s2, pu2⟩
        have e30 : CPowW 10 30 := ⟨by decide, by decide +kernel⟩
        walk_at "go"
        refine use_draw pu2 (by omega) (by omega) (by omega) (fun r H3 r0 r1 k3 pu3 => ?_)
        have s3 := s2.trans k3.rm
        have hl3 := rm_le _ _ (s3 _ _ hl1)
        have hh3 := rm_le _ _ (s3 _ _ (s1.rm _ _ h1))
        have hb3 := (hb1.same s3).same rm_le
        obtain ⟨far, hfar⟩ : ∃ far : Nat, (10 : Int) ^ Int.toNat 30 + r = (far : Int) := by
          have h0 : (0 : Int) ≤ 10 ^ Int.toNat 30 := by decide +kernel
          exact ⟨((10 : Int) ^ Int.toNat 30 + r).toNat, (Int.toNat_of_nonneg (Int.add_nonneg h0 r0)).symm⟩
        walk_at "go"
        rw [hfar]
        have hne : (mI (memB ps u n) N) ≠ [] := e0
        obtain ⟨x0, M', hM'⟩ : ∃ x0 M', mI (memB ps u n) N = x0 :: M' := by
          cases hx : mI (memB ps u n) N with
          | nil => exact absurd hx hne
          | cons a r => exact ⟨a, r, rfl⟩
        have hM0 : (mI (memB ps u n) N)[0]? = some x0 := by rw [hM']; rfl
        refine w_ixL (sq hl3) (at_idx30 (n := 0) (x := .int x0) (by rw [List.getElem?_map, hM0]; rfl) rfl) ?_
        have cmL : CMx (((mI (memB ps u n) N).map V.int).length : Int) (far : Int) := mx_l (by rw [List.length_map]; omega)
        walk_at "go"
        refine al fun p4 H4 n4 s4 k4 => ?_
        have hh4 := s4 _ _ hh3
        have hb4 := hb3.same s4
        have hl4 := s4 _ _ hl3
        have elen : (((mI (memB ps u n) N).map V.int).length : Int) = ((szB ps u n : Nat) : Int) := by rw [List.length_map, hML, hszM]
        have k4' : H4 p4 = some (.lst ([num ps * (far : Int) + x0, ((szB ps u n : Nat) : Int) * (far : Int)].map V.int)) := by rw [← elen]; exact k4
        have cmN : CMx (num ps) (far : Int) := mx_l (by omega)
        walk_at "go"
        refine ⟨o, dx, _, rfl, hh4, bs_no (by decide +kernel) (by decide +kernel) (by decide +kernel) (by decide +kernel) (by decide +kernel), ?_⟩
        walk_at "go"
        refine ⟨o, ps, u, n, szB ps u n * far, by rw [elen, Int.natCast_mul]; rfl, hb4, .inr ⟨hpz, fun H5 x s5 hx hmx hcx => ?_⟩⟩
        have hxN : x < N := by omega
        have hMx := mI_at (memI := memB ps u n) hxN hmx
        rw [show cm30 (mN (memB ps u n)) x = szB ps u n * far % szB ps u n from hcx, Nat.mul_mod_right, hM0] at hMx
        have hx0 : x0 = (x : Int) := Option.some.inj hMx
        have ev : ((szB ps u n * far : Nat) : Int) / ((szB ps u n : Nat) : Int) * num ps + (x : Int) = num ps * (far : Int) + x0 := by
          rw [Int.natCast_mul, Int.mul_ediv_cancel_left _ (by omega), Int.mul_comm, hx0]
        rw [ev]
        have hh5 := s5 _ _ hh4
        walk_at "go"
        refine ⟨o, dx, _, rfl, hh5, bs_no (by decide +kernel) (by decide +kernel) (by decide +kernel) (by decide +kernel) (by decide +kernel), ?_⟩
        walk_at "go"
        refine ⟨o, ps, u, n, N * far, by rw [hNi, Int.natCast_mul]; rfl, hb4.same s5, fun H6 s6 => ?_⟩
        have ec : cmB ps u n (N * far) = szB ps u n * far := by
          show cm30 (mN (memB ps u n)) (N * far) = _
          have hq : N * far / N = far := Nat.mul_div_cancel_left _ Pm.1
          rw [cm_mod Pm, hq, Nat.mul_mod_right, hszM, Nat.mul_comm]
          rfl
        rw [ec, Int.natCast_mul]
        walk_at "go"
        refine al fun p7 H7 n7 s7 k7 => ?_
        walk_at "go"
        refine w_eqLL (ls := [num ps * (far : Int) + x0, ((szB ps u n : Nat) : Int) * (far : Int)]) (ms := [num ps * (far : Int) + x0, ((szB ps u n : Nat) : Int) * (far : Int)]) (sq k7) (sq ((s5.trans (s6.trans s7)) _ _ k4')) ?_
        rw [decide_eq_true rfl]
        walk_at "go"
        have S := s4.trans (s5.trans (s6.trans s7))
        exact q H7 (s1.rm.trans (s3.trans S.rm)) ((pu3.same S).le (by omega))
noncomputable abbrev s_right : Stmt := (top 61)
theorem sc_right : FnScope ["_law_purse_here", "_law_some", "_law_pairs", "_law_ring", "_law_balls_here", "_law_handed", "_law_made", "_law_members_here", "_law_root", "_law_one_by_one", "_law_odd", "_law_one"] ["_law_purse_here"] (defScope s_right) :=
  ⟨rfl, rfl, rfl, by decide +kernel, rfl, by decide +kernel, by decide +kernel⟩
theorem ok_right {c : CA} {Cb Cr : Addr} (F : Dn K mg "_law_right" s_right ["_law_purse_here"]) (T : Bt mg) (X : Kx K mg c) (W : KBs K mg Cb Cr) (nmi : PySem.W.kitOne K (.ref c.md) (.type "int") = some false) (nmb : PySem.W.kitOne K (.ref c.md) (.type "bool") = some false) (q_eqmd : EqO P w K mg base 1 c.md (spEqMd K c)) (q_eqbs : EqO P w K mg base 20 Cb (spEqBs K c Cb)) (i_eqbs : InO P w K mg base 3 Cb (spHas K c Cb)) (c_draw : Cal P w K mg base 2 "_law_draw" spDraw []) (c_modinit : Mak P w K mg base 3 "Modulus" c.md (spModInit c) []) (c_bs2 : Mak P w K mg base 110 "Bases" Cb (spBsInit K c Cb Cr) []) (c_bsK : MakK P w K mg base 110 "Bases" Cb ["classes", "modulus"] (spBsInit K c Cb Cr) (fun vs zs => vs ++ zs.reverse)) (c_balls : Cal P w K mg base 3 "_law_balls" spBalls []) (c_membs : Cal P w K mg base 1 "_law_members" spMembers []) (c_ordr : Cal P w K mg base 133 "_law_order_right" (spOrdR c Cb) []) : Cal P w K mg base 134 "_law_right" spRight30 [] := by
  refine F.cal sc_right (fun vs H Q E h => ?_) (fun f cdv A outer s H vs Q E hr h => ?_)
  · obtain ⟨a, cc, rfl, _⟩ := h
    rfl
  · obtain ⟨a, cc, rfl, hc, w0, q⟩ := h
    refine ⟨_, (pss_cons (ps_set (i := 1) sc_right.nd rfl (Or.inl rfl) (pe_lst (pa_cons (pe_lst (pa_cons (pe_tup (pa_cons pe_int (pa_cons pe_int pa_nil))) pa_nil)) (pa_cons (pe_lst (pa_cons (pe_tup (pa_cons pe_int (pa_cons pe_int pa_nil))) pa_nil)) (pa_cons (pe_lst (pa_cons (pe_tup (pa_cons pe_int (pa_cons pe_int pa_nil))) pa_nil)) (pa_cons (pe_lst (pa_cons (pe_tup (pa_cons pe_int (pa_cons pe_int pa_nil))) (pa_cons (pe_tup (pa_cons pe_int (pa_cons pe_int pa_nil))) pa_nil))) (pa_cons (pe_lst (pa_cons (pe_tup (pa_cons pe_int (pa_cons pe_int pa_nil))) (pa_cons (pe_tup (pa_cons pe_int (pa_cons pe_int pa_nil))) (pa_cons (pe_tup (pa_cons pe_int (pa_cons pe_int pa_nil))) pa_nil)))) (pa_cons (pe_lst (pa_cons (pe_tup (pa_cons pe_int (pa_cons pe_int pa_nil))) pa_nil)) (pa_cons (pe_lst pa_nil) (pa_cons (pe_lst (pa_cons (pe_tup (pa_cons pe_int (pa_cons pe_int pa_nil))) (pa_cons (pe_tup (pa_cons pe_int (pa_cons pe_int pa_nil))) pa_nil))) pa_nil))))))))))
      (pss_cons (ps_set (i := 2) sc_right.nd rfl (Or.inl rfl) (pe_ix ix_list (pe_op op_cat (pv 1) (pe_lst (pa_cons (pe_lst (pa_cons (pe_tup (pa_cons pe_int (pa_cons pe_int pa_nil))) pa_nil)) (pa_cons (pe_lst (pa_cons (pe_tup (pa_cons pe_int (pa_cons pe_int pa_nil))) pa_nil)) (pa_cons (pe_lst (pa_cons (pe_tup (pa_cons pe_int (pa_cons pe_int pa_nil))) (pa_cons (pe_tup (pa_cons pe_int (pa_cons pe_int pa_nil))) (pa_cons (pe_tup (pa_cons pe_int (pa_cons pe_int pa_nil))) pa_nil)))) (pa_cons (pe_lst (pa_cons (pe_tup (pa_cons pe_int (pa_cons pe_int pa_nil))) (pa_cons (pe_tup (pa_cons pe_int (pa_cons pe_int pa_nil))) pa_nil))) pa_nil)))))) (pe_c c_draw hr (by decide) (by rfl) (pa_cons (pv 0) (pa_cons pe_int pa_nil))) (fun _ _ => rfl)))
      (pss_cons (ps_set (i := 3) sc_right.nd rfl (Or.inr rfl) (pe_mk c_modinit hr (by decide) (by rfl) (pa_cons (pv 2) pa_nil)))
      (pss_cons (ps_set (i := 4) sc_right.nd rfl (Or.inl rfl) (pe_c c_balls hr (by decide) (by rfl) (pa_cons (pv 0) (pa_cons (pv 2) (pa_cons pe_int pa_nil)))))
      (pss_cons (ps_set (i := 5) sc_right.nd rfl (Or.inl rfl) (pe_callTy cListOf (by rfl) T.list (by decide +kernel) (pa_cons (pv 4) pa_nil)))
      (pss_cons (ps_set (i := 6) sc_right.nd rfl (Or.inr rfl) (pe_mk c_bs2 hr (by decide) (by rfl) (pa_cons (pv 3) (pa_cons (pv 5) pa_nil))))
      (pss_cons (ps_if (pt_cmpR (op_neD hr.units) (pv 5) (pv 4) (nomark _)) (pss_one (ps_ret pe_bl)) pss_nil)
      (pss_cons (ps_expr (pe_bm PySem.F.plainAttrs_list PySem.F.slot_list_append PySem.F.type_list_append mt_append (pv 5) (pa_cons (pe_tup (pa_cons pe_int (pa_cons pe_int pa_nil))) pa_nil)))
      (pss_cons (ps_set (i := 7) sc_right.nd rfl (Or.inl rfl) (pe_c c_membs hr (by decide) (by rfl) (pa_cons (pv 4) (pa_cons (pe_fld (pv 3) rfl) pa_nil))))
      (pss_cons (ps_if (PW.pt (pw_or (pt_cmpR op_ne (pe_fld (pv 6) rfl) (pe_callB cLen (by rfl) T.len (by decide +kernel) (pa_cons (pv 7) pa_nil)) (nomark _)) (pw_or1 (pt_cmpR (op_neO q_eqmd hr (by decide)) (pe_fld (pv 6) rfl) (pv 3) (nomark _))))) (pss_one (ps_ret pe_bl)) pss_nil)
      (pss_cons (ps_for PassesOwn.never rfl (pi_range3 (by rfl) T.range (pa_cons (pe_op op_sub pe_int (pe_fld (pv 3) rfl)) (pa_cons (pe_op oMul pe_int (pe_fld (pv 3) rfl)) (pa_cons (pe_op op_add pe_int (pe_op op_fdivW (pe_fld (pv 3) rfl) pe_int)) pa_nil)))) (pg_name (i := 8) sc_right.nd rfl (Or.inl rfl)) (pss_one (ps_if (pt_cmpR op_ne (pe_cmpR (op_inO i_eqbs hr (by decide)) (pv 8) (pv 6) (by rfl)) (pe_cmpR op_in_seq (pe_op op_mod (pv 8) (pe_fld (pv 3) rfl)) (pv 7) (by rfl)) (nomark _)) (pss_one (ps_ret pe_bl)) pss_nil)))
      (pss_cons (ps_setLc (i := 9) (own := [("_law_root", 8)]) (g := gName 8) (tt := tYes) (te := (tTup (tCons (tOp _ (tVar 8) (tOp _ (tFld K (tVar 3) "number") (tCall _ _ _ (tCons (tVar 0) (tCons _ tNil))))) (tCons (tFld K (tVar 3) "number") tNil)))) rfl sc_right.nd rfl rfl (sw_true rfl rfl rfl (by decide +kernel)) (pi_list (pe_slice sl_list (pv 7) po_none (po_some pe_int))) (blkOk_by (own := [("_law_root", 8)]) (N := ["_law_purse_here", "_law_some", "_law_pairs", "_law_ring", "_law_balls_here", "_law_handed", "_law_made", "_law_members_here", "_law_root", "_law_one_by_one", "_law_odd", "_law_one"]) (sc := defScope s_right) (by decide +kernel)) (fun _ _ _ _ _ => (pg_name (i := 8) sc_right.nd rfl (Or.inl rfl))) (fun _ _ _ _ _ => pts_nil) (fun _ _ _ _ _ => (pe_tup (pa_cons (pe_op op_sub (pv 8) (pe_op oMul (pe_fld (pv 3) rfl) (pe_c c_draw hr (by decide) (by rfl) (pa_cons (pv 0) (pa_cons pe_int pa_nil))))) (pa_cons (pe_fld (pv 3) rfl) pa_nil)))))
      (pss_cons (ps_if (PW.pt (pw_or (PW.pt (pw_and (pt_cmpR op_le (pe_callB cLen (by rfl) T.len (by decide +kernel) (pa_cons (pv 7) pa_nil)) pe_int (nomark _)) (pw_and1 (pt_cmpR (op_neO q_eqbs hr (by decide)) (pe_mk c_bs2 hr (by decide) (by rfl) (pa_cons (pv 3) (pa_cons (pe_revL (pv 9)) pa_nil))) (pv 6) (nomark _))))) (pw_or1 (pt_cmpR (op_neO q_eqbs hr (by decide)) (pe_mk c_bs2 hr (by decide) (by rfl) (pa_cons (pv 3) (pa_cons (pe_callTy cTupOf (by rfl) T.tuple (by decide +kernel) (pa_cons (pe_revL (pv 4)) pa_nil)) pa_nil))) (pv 6) (nomark _))))) (pss_one (ps_ret pe_bl)) pss_nil)
      (pss_cons (ps_set (i := 10) sc_right.nd rfl (Or.inl rfl) (pe_lst (pa_cons pe_non (pa_cons pe_str (pa_cons pe_bl (pa_cons pe_bl (pa_cons (pe_tup (pa_cons pe_int pa_nil)) (pa_cons (pe_lst pa_nil) (pa_cons pe_dnewK (pa_cons (pv 3) pa_nil))))))))))
      (pss_cons (ps_if (PW.pt (pw_or (pt_cmpR (op_neD hr.units) (pe_lc (own := [("_law_one", 11)]) (g := gName 11) (tt := (tTest (tOp (rInO Cb (spHas K c Cb)) (tVar 11) (tVar 6)))) (te := _) rfl sc_right.nd (pi_list (pv 10)) (blkOk_by (own := [("_law_one", 11)]) (N := ["_law_purse_here", "_law_some", "_law_pairs", "_law_ring", "_law_balls_here", "_law_handed", "_law_made", "_law_members_here", "_law_root", "_law_one_by_one", "_law_odd", "_law_one"]) (sc := defScope s_right) (by decide +kernel)) (fun _ _ _ _ _ => (pg_name (i := 11) sc_right.nd rfl (Or.inl rfl))) (fun _ _ _ _ _ => (pts_one (pt_cmpR (op_inO i_eqbs hr (by decide)) (pv 11) (pv 6) (by rfl)))) (fun _ _ _ _ _ => pe_int)) (pe_lst pa_nil) (nomark _)) (pw_or1 (pt_cmpR op_notBl (pe_cmpR (op_eqO q_eqbs hr (by decide)) (pe_mkK0 c_bsK hr (by decide) (by rfl) (pk_cons (pv 4) (pk_cons (pv 3) pk_nil))) (pv 6) (nomark _)) pe_bl (nomark _))))) (pss_one (ps_ret pe_bl)) pss_nil)
      (pss_cons (ps_if (PW.pt (pw_and (pt_cmpR op_eq (pe_callB cLen (by rfl) T.len (by decide +kernel) (pa_cons (pv 2) pa_nil)) pe_int (nomark _)) (pw_and1 (pt_not (pt_val (pe_c c_ordr hr (by decide) (by rfl) (pa_cons (pv 0) (pa_cons (pv 6) (pa_cons (pv 7) (pa_cons (pe_fld (pv 3) rfl) pa_nil)))))))))) (pss_one (ps_ret pe_bl)) pss_nil)
      (pss_one (ps_ret (pe_and (pe_cmpR op_eq (pe_fld (pv 6) rfl) (pe_callB cLen (by rfl) T.len (by decide +kernel) (pa_cons (pv 7) pa_nil)) (nomark _)) (pe_and (pe_cmpR (op_eqO q_eqbs hr (by decide)) (pv 6) (pe_mk c_bs2 hr (by decide) (by rfl) (pa_cons (pv 3) (pa_cons (pv 4) pa_nil))) (nomark _)) (pe_one (pe_cmpR op_eq (pe_cmpR (op_inO i_eqbs hr (by decide)) pe_int (pv 6) (by rfl)) (pe_cmpR op_in_seq pe_int (pv 7) (by rfl)) (nomark _))))))))))))))))))))))), ?_⟩
    walk_at "go1"
    refine w_cut2 (fun σ H' => ∃ (la lp : Addr) (ps : List (Int × Int)), σ = [some (.ref a), some (.ref la), some (.ref lp), none, none, none, none, none, none, none, none, none] ∧ Same (rm a H) (rm a H') ∧ Purse H' a (cc + 1) ∧ PrL (rm a H') lp ps ∧ Pl30 ps) (fun N hN => ?_) ?_
    · walk_at "go"
      refine alR w0 fun ta0 G1 z1 w1 hta0 _ => ?_
      walk_at "go"
      refine alR w1 fun l0 G2 z2 w2 hl0 _ => ?_
      walk_at "go"
      have p0 : PrL (rm a G2) l0 [(2, 5)] := ⟨[ta0], hl0, (.cons (show rm a G2 ta0 = some (.tup [.int 2, .int 5]) by walk_at "hp") .nil)⟩
      refine alR w2 fun ta1 G3 z3 w3 hta1 _ => ?_
      walk_at "go"
      refine alR w3 fun l1 G4 z4 w4 hl1 _ => ?_
      walk_at "go"
      have p1 : PrL (rm a G4) l1 [(3, 3)] := ⟨[ta1], hl1, (.cons (show rm a G4 ta1 = some (.tup [.int 3, .int 3]) by walk_at "hp") .nil)⟩
      refine alR w4 fun ta2 G5 z5 w5 hta2 _ => ?_
      walk_at "go"
      refine alR w5 fun l2 G6 z6 w6 hl2 _ => ?_
      walk_at "go"
      have p2 : PrL (rm a G6) l2 [(5, 2)] := ⟨[ta2], hl2, (.cons (show rm a G6 ta2 = some (.tup [.int 5, .int 2]) by walk_at "hp") .nil)⟩
      refine alR w6 fun ta3 G7 z7 w7 hta3 _ => ?_
      walk_at "go"
      refine alR w7 fun ta4 G8 z8 w8 hta4 _ => ?_
      walk_at "go"
      refine alR w8 fun l3 G9 z9 w9 hl3 _ => ?_
      walk_at "go"
      have p3 : PrL (rm a G9) l3 [(2, 3), (3, 2)] := ⟨[ta3, ta4], hl3, (.cons (show rm a G9 ta3 = some (.tup [.int 2, .int 3]) by walk_at "hp") (.cons (show rm a G9 ta4 = some (.tup [.int 3, .int 2]) by walk_at "hp") .nil))⟩
      refine alR w9 fun ta5 G10 z10 w10 hta5 _ => ?_
      walk_at "go"
      refine alR w10 fun ta6 G11 z11 w11 hta6 _ => ?_
      walk_at "go"
      refine alR w11 fun ta7 G12 z12 w12 hta7 _ => ?_
      walk_at "go"
      refine alR w12 fun l4 G13 z13 w13 hl4 _ => ?_
      walk_at "go"
      have p4 : PrL (rm a G13) l4 [(2, 2), (3, 1), (5, 1)] := ⟨[ta5, ta6, ta7], hl4, (.cons (show rm a G13 ta5 = some (.tup [.int 2, .int 2]) by walk_at "hp") (.cons (show rm a G13 ta6 = some (.tup [.int 3, .int 1]) by walk_at "hp") (.cons (show rm a G13 ta7 = some (.tup [.int 5, .int 1]) by walk_at "hp") .nil)))⟩
      refine alR w13 fun ta8 G14 z14 w14 hta8 _ => ?_
      walk_at "go"
      refine alR w14 fun l5 G15 z15 w15 hl5 _ => ?_
      walk_at "go"
      have p5 : PrL (rm a G15) l5 [(7, 2)] := ⟨[ta8], hl5, (.cons (show rm a G15 ta8 = some (.tup [.int 7, .int 2]) by walk_at "hp") .nil)⟩
      refine alR w15 fun l6 G16 z16 w16 hl6 _ => ?_
      walk_at "go"
      have p6 : PrL (rm a G16) l6 [] := ⟨[], hl6, .nil⟩
      refine alR w16 fun ta9 G17 z17 w17 hta9 _ => ?_
      walk_at "go"
      refine alR w17 fun ta10 G18 z18 w18 hta10 _ => ?_
      walk_at "go"
      refine alR w18 fun l7 G19 z19 w19 hl7 _ => ?_
      walk_at "go"
      have p7 : PrL (rm a G19) l7 [(2, 1), (11, 1)] := ⟨[ta9, ta10], hl7, (.cons (show rm a G19 ta9 = some (.tup [.int 2, .int 1]) by walk_at "hp") (.cons (show rm a G19 ta10 = some (.tup [.int 11, .int 1]) by walk_at "hp") .nil))⟩
      refine alR w19 fun la G20 z20 w20 hla _ => ?_
      walk_at "go"
      refine alR w20 fun ta11 G21 z21 w21 hta11 _ => ?_
      walk_at "go"
      refine alR w21 fun l8 G22 z22 w22 hl8 _ => ?_
      walk_at "go"
      have p8 : PrL (rm a G22) l8 [(2, 8)] := ⟨[ta11], hl8, (.cons (show rm a G22 ta11 = some (.tup [.int 2, .int 8]) by walk_at "hp") .nil)⟩
      refine alR w22 fun ta12 G23 z23 w23 hta12 _ => ?_
      walk_at "go"
      refine alR w23 fun l9 G24 z24 w24 hl9 _ => ?_
      walk_at "go"
      have p9 : PrL (rm a G24) l9 [(13, 2)] := ⟨[ta12], hl9, (.cons (show rm a G24 ta12 = some (.tup [.int 13, .int 2]) by walk_at "hp") .nil)⟩
      refine alR w24 fun ta13 G25 z25 w25 hta13 _ => ?_
      walk_at "go"
      refine alR w25 fun ta14 G26 z26 w26 hta14 _ => ?_
      walk_at "go"
      refine alR w26 fun ta15 G27 z27 w27 hta15 _ => ?_
      walk_at "go"
      refine alR w27 fun l10 G28 z28 w28 hl10 _ => ?_
      walk_at "go"
      have p10 : PrL (rm a G28) l10 [(2, 3), (3, 2), (5, 1)] := ⟨[ta13, ta14, ta15], hl10, (.cons (show rm a G28 ta13 = some (.tup [.int 2, .int 3]) by walk_at "hp") (.cons (show rm a G28 ta14 = some (.tup [.int 3, .int 2]) by walk_at "hp") (.cons (show rm a G28 ta15 = some (.tup [.int 5, .int 1]) by walk_at "hp") .nil)))⟩
      refine alR w28 fun ta16 G29 z29 w29 hta16 _ => ?_
      walk_at "go"
      refine alR w29 fun ta17 G30 z30 w30 hta17 _ => ?_
      walk_at "go"
      refine alR w30 fun l11 G31 z31 w31 hl11 _ => ?_
      walk_at "go"
      have p11 : PrL (rm a G31) l11 [(3, 1), (5, 2)] := ⟨[ta16, ta17], hl11, (.cons (show rm a G31 ta16 = some (.tup [.int 3, .int 1]) by walk_at "hp") (.cons (show rm a G31 ta17 = some (.tup [.int 5, .int 2]) by walk_at "hp") .nil))⟩
      refine alR w31 fun lb G32 z32 w32 hlb _ => ?_
      walk_at "go"
      refine w_cat (xs := [V.ref l0, V.ref l1, V.ref l2, V.ref l3, V.ref l4, V.ref l5, V.ref l6, V.ref l7]) (ys := [V.ref l8, V.ref l9, V.ref l10, V.ref l11]) (by walk_at "hp") (by walk_at "hp") (by show (8 + 4 : Nat) ≤ sizeLine; decide) ?_
      refine alR w32 fun lc G33 z33 w33 hlc _ => ?_
      walk_at "go"
      refine use_drawR w33 (by decide) (by decide) (by omega) fun j HA j0 j1 sA uA => ?_
      have SA : Same (rm a H) (rm a HA) := by walk_at "same"
      obtain ⟨lp, ps, hat, hpl, L⟩ : ∃ (lp : Addr) (ps : List (Int × Int)), atI [V.ref l0, V.ref l1, V.ref l2, V.ref l3, V.ref l4, V.ref l5, V.ref l6, V.ref l7, V.ref l8, V.ref l9, V.ref l10, V.ref l11] j = some (.ref lp) ∧ PrL (rm a HA) lp ps ∧ Pl30 ps := by
        have cj : j = 0 ∨ j = 1 ∨ j = 2 ∨ j = 3 ∨ j = 4 ∨ j = 5 ∨ j = 6 ∨ j = 7 ∨ j = 8 ∨ j = 9 ∨ j = 10 ∨ j = 11 := by omega
        rcases cj with rfl | rfl | rfl | rfl | rfl | rfl | rfl | rfl | rfl | rfl | rfl | rfl
        · exact ⟨_, _, atI_nat (j := 0) rfl, p0.same (show Same _ (rm a HA) by
            clear SA
            walk_at "same"), pl30_0⟩
        · exact ⟨_, _, atI_nat (j := 1) rfl, p1.same (show Same _ (rm a HA) by
            clear SA
            walk_at "same"), pl30_1⟩
        · exact ⟨_, _, atI_nat (j := 2) rfl, p2.same (show Same _ (rm a HA) by
            clear SA
            walk_at "same"), pl30_2⟩
        · exact ⟨_, _, atI_nat (j := 3) rfl, p3.same (show Same _ (rm a HA) by
            clear SA
            walk_at "same"), pl30_3⟩
        · exact ⟨_, _, atI_nat (j := 4) rfl, p4.same (show Same _ (rm a HA) by
            clear SA
            walk_at "same"), pl30_4⟩
        · exact ⟨_, _, atI_nat (j := 5) rfl, p5.same (show Same _ (rm a HA) by
            clear SA
            walk_at "same"), pl30_5⟩
        · exact ⟨_, _, atI_nat (j := 6) rfl, p6.same (show Same _ (rm a HA) by
            clear SA
            walk_at "same"), pl30_6⟩
        · exact ⟨_, _, atI_nat (j := 7) rfl, p7.same (show Same _ (rm a HA) by
            clear SA
            walk_at "same"), pl30_7⟩
        · exact ⟨_, _, atI_nat (j := 8) rfl, p8.same (show Same _ (rm a HA) by
            clear SA
            walk_at "same"), pl30_8⟩
        · exact ⟨_, _, atI_nat (j := 9) rfl, p9.same (show Same _ (rm a HA) by
            clear SA
            walk_at "same"), pl30_9⟩
        · exact ⟨_, _, atI_nat (j := 10) rfl, p10.same (show Same _ (rm a HA) by
            clear SA
            walk_at "same"), pl30_10⟩
        · exact ⟨_, _, atI_nat (j := 11) rfl, p11.same (show Same _ (rm a HA) by
            clear SA
            walk_at "same"), pl30_11⟩
      refine w_ixL (by walk_at "hp") hat ?_
      walk_at "go"
      exact hN _ _ ⟨la, lp, ps, rfl, SA, uA, hpl, L⟩
    rintro σ HA ⟨la, lp, ps, rfl, SA, uA, hpl, L⟩
    have md := L.md
    have N0 := md.num
    have N4 := L.nm
    refine w_cut9 (fun σ H' => ∃ (mo lb lh o lm : Addr) (cs : List (Int × Int)) (u : Tab) (n : Nat) (v8 : Option V), σ = [some (.ref a), some (.ref la), some (.ref lp), some (.ref mo), some (.ref lb), some (.ref lh), some (.ref o), some (.ref lm), v8, none, none, none] ∧ Same (rm a HA) (rm a H') ∧ Purse H' a (cc + 41) ∧ PrL (rm a H') lp ps ∧ ModAt c (rm a H') mo ps ∧ PrL (rm a H') lb cs ∧ Cl30 ps cs ∧ BsAt c Cb (rm a H') o ps u n ∧ (∀ x, memB ps u n x = inB cs x) ∧ rm a H' lm = some (.lst ((mI (memB ps u n) (num ps).toNat).map V.int))) (fun NK hK => ?_) ?_
    · skip
      walk_at "go"
      refine use_modR uA (hpl.same rm_le) L.asc L.sm fun mo HB sB uB hm => ?_
      walk_at "go"
      refine ⟨a, lp, ps, 6, cc + 1, rfl, uB, hpl.same sB, L, by decide, by omega, fun lb HC cs nlb sC uC hcs CL => ?_⟩
      have hmC := hm.same sC
      have hplC := hpl.same (sB.trans sC)
      obtain ⟨tcs, hcs1, hcs2⟩ := id hcs
      obtain ⟨dmo, tmo, tsm, hmo1, _⟩ := id hmC
      have lcs := CL.ln
      have hlt := hcs2.length
      walk_at "go"
      refine w_listL (sq (rm_le _ _ hcs1)) (alR uC fun lh HD zD uD hlh nlh => ?_)
      have hmD := hmC.same zD
      have hcsD : Paired (Tp (rm a HD)) cs tcs := paired_imp (fun _ _ z => zD _ _ z) hcs2
      walk_at "go"
      refine use_bsR uD md hmD (cs := cs) ⟨tcs, .inl hlh, hcsD⟩ CL.ok fun o HE u n no sE uE hb hbl hin => ?_
      have hmE := hmD.same sE
      obtain ⟨dmo2, tmo2, tsm2, hmo2, _⟩ := id hmE
      have hlbE := sE _ _ (zD _ _ hcs1)
      have hlhE := sE _ _ hlh
      have hcsE : Paired (Tp (rm a HE)) cs tcs := paired_imp (fun _ _ z => sE _ _ z) hcsD
      walk_at "go"
      refine w_nePr (cs := cs) (ds := cs) ⟨tcs, rm_le _ _ hlhE, paired_imp (fun _ _ z => rm_le _ _ z) hcsE⟩ ⟨tcs, rm_le _ _ hlbE, paired_imp (fun _ _ z => rm_le _ _ z) hcsE⟩ ?_
      rw [decide_eq_true rfl]
      walk_at "go"
      refine iteF ?_
      have hlhE' := rm_le _ _ hlhE
      walk_at "go"
      refine alR uE fun t0 HF zF uF ht0 nt0 => ?_
      walk_at "go"
      refine w_append (rm_le _ _ (zF _ _ hlhE)) (by rw [List.length_map]; have : (1000 : Nat) < sizeLine := by decide
                                                    omega) ?_
      have nha : lh ≠ a := fun z => by rw [z, rm_self] at hlh; cases hlh
      have hbl := (hbl _ (rm_le _ _ hlh) nha).same zF.rm
      have hlhF := zF _ _ hlhE
      have nlb : lb ≠ lh := fun z => by rw [← z, hcs1] at nlh; cases nlh
      have SF : Same (rm a HC) (rm a HF) := zD.trans (sE.trans zF)
      have sHF : Same (rm a HC) (rm lh (rm a HF)) := rm_in nlh SF
      have eG : rm lh (rm a (L2.upd HF lh (.lst (tcs.map V.ref ++ [.ref t0])))) = rm lh (rm a HF) := by rw [rm_upd nha, rm_updS]
      have sG : Same (rm lh (rm a HF)) (rm a (L2.upd HF lh (.lst (tcs.map V.ref ++ [.ref t0])))) := by rw [← eG]; exact rm_le
      have uG : Purse (L2.upd HF lh (.lst (tcs.map V.ref ++ [.ref t0]))) a (cc + 1 + 40) := uF.upd30 nha
      have hb := hbl.same sG
      have sCG := sHF.trans sG
      have hmG := hmC.same sCG
      have hcsG := hcs.same sCG
      have hlpG := hplC.same sCG
      generalize L2.upd HF lh (.lst (tcs.map V.ref ++ [.ref t0])) = HG at uG hb sCG hmG hcsG hlpG ⊢
      clear hlhF nlb SF sHF eG sG hbl nha hmo2 hlbE hlhE hcsE hmE sE uE zF uF ht0 nt0 hlhE' hcsD hmD uD hlh nlh zD hmo1
      obtain ⟨dmo, tmo, tsm, hmo1, _⟩ := id hmG
      have hmo' := rm_le _ _ hmo1
      obtain ⟨_, st, dx, m2, fa, ta, hb1, hb2, hb3, hb4⟩ := id hb
      have hb1' := rm_le _ _ hb1
      obtain ⟨tcs2, hcg1, hcg2⟩ := id hcsG
      have hcg1' := rm_le _ _ hcg1
      obtain ⟨N, hNe⟩ : ∃ N : Nat, N = (num ps).toNat := ⟨_, rfl⟩
      have hNi : num ps = (N : Int) := by omega
      have Pm := memB_per md (u := u) (n := n)
      rw [← hNe] at Pm
      have hmm : memB ps u n = inB cs := funext hin
      walk_at "go"
      refine ⟨lb, cs, N, by rw [hNi]; rfl, ⟨tcs2, hcg1', paired_imp (fun _ _ z => rm_le _ _ z) hcg2⟩, fun x hx => ?_, by omega, by omega, fun lm HH nlm sH hlm => ?_⟩
      · obtain ⟨js, j1, j2⟩ := CL.js x hx
        have h1 := wN_pos j1 md.pos
        have h2 := Nat.le_of_dvd (numN_pos md.pos) (wN_dvd j1)
        have h3 := num_cast (Int.le_refl 0) md.asc
        omega
      have uH := uG.same sH
      have hlm : HH lm = some (.lst ((mI (memB ps u n) N).map V.int)) := by
        rw [hmm]
        unfold mI mL
        rw [List.map_map]
        exact hlm
      have hb1H := sH _ _ hb1'
      have hmoH := sH _ _ hmo'
      have hszM : szB ps u n = (mI (memB ps u n) N).length := by rw [szB_eq md st, mI_len, ← hNe]; rfl
      walk_at "go"
      refine w_fldi hb1H W.cl.cl W.fs bs_s ?_
      walk_at "go"
      have elen : ((szB ps u n : Nat) : Int) = (((mI (memB ps u n) N).map V.int).length : Int) := by rw [List.length_map, hszM]
      rw [elen, decI, decide_eq_true rfl]
      refine iteF ?_
      walk_at "go"
      refine w_fldi hb1H W.cl.cl W.fm bs_m ?_
      walk_at "go"
      refine neMd X (((hb2.same rm_le).same sH)) ((hmG.same rm_le).same sH) ?_
      rw [decide_eq_true rfl]
      walk_at "go"
      refine iteF ?_
      have d40 : CDivW (num ps) 40 := wdiv60 (by omega) (by omega)
      have hm2 : CMx 2 (num ps) := mx_r (by omega)
      walk_at "go"
      have q0 : 0 ≤ num ps / 40 := Int.ediv_nonneg (by omega) (by decide)
      have q1 : num ps / 40 ≤ 10 := by omega
      obtain ⟨nr, hnr⟩ := rgC30 (i := 0 - num ps) (j := 2 * num ps) (c := 1 + num ps / 40) (by omega) (by omega) (by omega) (by omega) (by omega)
      refine ⟨_, _, _, nr, rfl, hnr, ?_⟩
      clear hnr q0 q1
      refine for_it walk_rangeC (fun j σ H' => ∃ (v8 : Option V), σ = [some (.ref a), some (.ref la), some (.ref lp), some (.ref mo), some (.ref lb), some (.ref lh), some (.ref o), some (.ref lm), v8, none, none, none] ∧ Same HH H') ⟨_, rfl, Same.refl _⟩ (fun i σ H' _ h => trivial) ?_ ?_
      · rintro j y σ H6 H6' hj ⟨v8, rfl, s6⟩ ⟨rfl, hy⟩
        obtain ⟨r, rfl⟩ : ∃ r : Int, y = .int r := ⟨_, hy⟩
        have hb1' := s6 _ _ hb1H
        have dr : CDivW r (num ps) := wdiv60 (by omega) (by omega)
        walk_at "go"
        refine w_inO hb1' ?_
        refine ⟨o, ps, u, n, .int r, rfl, (hb.same rm_le).same (sH.trans s6), .inr ⟨r, rfl, fun H7 s7 => ⟨_, rfl, ?_⟩⟩⟩
        have hlm7 := s7 _ _ (s6 _ _ hlm)
        have hmo7 := s7 _ _ (s6 _ _ hmoH)
        walk_at "go"
        refine w_inI30 (sq hlm7) ?_
        rw [hNi, mI_mem Pm]
        walk_at "go"
        rw [decide_eq_true rfl]
        refine iteF ?_
        walk_at "go"
        exact ⟨_, rfl, s6.trans s7⟩
      · rintro σ H6 ⟨v8, rfl, s6⟩
        have s9 := sH.rm.trans (s6.rm (a := a))
        walk_at "go"
        refine hK _ _ ⟨mo, lb, lh, o, lm, cs, u, n, v8, rfl, sB.trans (sC.trans (sCG.trans s9)), (uH.same s6).le (by omega), hlpG.same s9, hmG.same s9, hcsG.same s9, CL, hb.same s9, hin, ?_⟩
        rw [← hNe]
        exact rm_of (uG.fresh nlm) (s6 _ _ hlm)
    rintro σ HB ⟨mo, lb, lh, o, lm, cs, u, n, v8, rfl, sB, uB, hpl, hm, hcs, CL, hb, hin, hlm⟩
    obtain ⟨N, hNe⟩ : ∃ N : Nat, N = (num ps).toNat := ⟨_, rfl⟩
    have hNi : num ps = (N : Int) := by omega
    have Pm := memB_per md (u := u) (n := n)
    rw [← hNe] at Pm hlm
    have ht40 := List.length_take_le 40 (mI (memB ps u n) N)
    walk_at "go"
    refine w_slL (sq (rm_le _ _ hlm)) (alR uB fun lq HI zI uI hlq _ => ?_)
    have ecut : cutV ((mI (memB ps u n) N).map V.int) none (some 40) = ((mI (memB ps u n) N).take 40).map V.int := cut_to' V.int _ 40
    rw [ecut] at hlq
    have hmI := hm.same zI
    have hbI := hb.same zI
    have hcI := hcs.same zI
    have hlI := zI _ _ hlm
    have hpI := hpl.same zI
    walk_at "go"
    intro D hD
    refine lc_relR (((mI (memB ps u n) N).take 40).map V.int) 1 (oneR (N : Int)) oneR_mono walk_list uI hD (fun H' sm => sq (rm_le _ _ (sm _ _ hlq))) (by rw [List.length_map]; omega) (fun _ => rfl) ?_ ?_
    · intro i x H7 hx s7 u7 hacc Q' q'
      have hi := (List.getElem?_eq_some_iff.mp hx).1
      rw [List.length_map] at hi
      obtain ⟨r, hr, rfl⟩ := get_map hx
      have hm7 := hmI.same s7
      walk_at "go"
      refine use_drawR u7 (by decide) (by decide) (by omega) fun d H8 d0 d1 s8 u8 => ?_
      have cmD : CMx (num ps) d := mx_l (by omega)
      have hm8 := hm7.same s8
      walk_at "go"
      refine alR u8 fun t H9 z9 u9 ht9 nt9 => ?_
      obtain ⟨acc, hacc⟩ := hacc
      have hD9 := z9 _ _ (s8 _ _ hacc)
      refine q' (.ref t) H9 (s8.trans z9) (u9.le (by omega)) ⟨t, r, d, rfl, rfl, rm_of (fun z => by rw [z, hD9] at ht9; cases ht9) ?_⟩
      rw [← hNi]
      exact ht9
    · intro H7 ys s7 u7 hD7 hys
      obtain ⟨ts1, cs1, rfl, p1, p2⟩ := one_all hys
      have hm7 := hmI.same s7
      have hb7 := hbI.same s7
      have hc7 := hcI.same s7
      have hl7 := s7 _ _ hlI
      have hp7 := hpI.same s7
      rw [List.length_map] at u7
      have u7 := u7.le (d := cc + 81) (by omega)
      walk_at "go"
      refine test_join (fun H' => Same (rm a H7) (rm a H') ∧ Purse H' a (cc + 81)) ?_ ?_ ?_
      · rintro H8 ⟨s8, u8⟩
        have hb8 := hb7.same s8
        have hm8 := hm7.same s8
        have hc8 := hc7.same s8
        have hl8 := s8 _ _ hl7
        have hp8 := hp7.same s8
        refine iteF ?_
        obtain ⟨tcs, hc81, hc82⟩ := id hc8
        have hc81' := rm_le _ _ hc81
        walk_at "go"
        refine ⟨_, _, rfl, sq hc81', alR u8 fun l9 H9 z9 u9 hl9 _ => ?_⟩
        walk_at "go"
        refine w_tupL (sq (rm_le _ _ hl9)) (alR u9 fun l10 H10 z10 u10 hl10 _ => ?_)
        have hm10 := hm8.same (z9.trans z10)
        have hcs10 : ClsL K (rm a H10) l10 cs.reverse := ⟨tcs.reverse, .inr (by rw [List.map_reverse]; exact hl10), pair_rev30 (paired_imp (fun _ _ z => z10 _ _ (z9 _ _ z)) hc82)⟩
        walk_at "go"
        refine use_bsR u10 md hm10 hcs10 CL.ok.rev fun o1 H11 u1 n1 no1 s11 u11 hb11 _ hin11 => ?_
        have sR := z9.trans (z10.trans s11)
        have hb12 := hb8.same sR
        walk_at "go"
        refine neBs W (hb11.same rm_le) (hb12.same rm_le) ?_
        rw [bs_same hb11 hb12 fun x => by rw [hin11, inB_rev, hin]]
        walk_at "go"
        refine iteF ?_
        have hm12 := hm8.same sR
        have hc12 := hc8.same sR
        have hl12 := sR _ _ hl8
        have hp12 := hp8.same sR
        have S12 := zI.trans (s7.trans (s8.trans sR))
        clear s8 u8 hb8 hm8 hc8 hl8 hp8 hc81 hc82 hc81' z9 u9 hl9 z10 u10 hl10 hm10 hcs10 s11 hb11 hin11 sR
        walk_at "go"
        refine alR u11 fun t0 HA1 za1 ua1 ht0 _ => ?_
        walk_at "go"
        refine alR ua1 fun l0 HA2 za2 ua2 hl0 _ => ?_
        walk_at "go"
        refine alR ua2 fun d0 HA3 za3 ua3 hd0 _ => ?_
        walk_at "go"
        refine alR ua3 fun lo HA4 za4 ua4 hlo _ => ?_
        have zA := za1.trans (za2.trans (za3.trans za4))
        have hmA := hm12.same zA
        have hbA := hb12.same zA
        have hcA := hc12.same zA
        have hlA := zA _ _ hl12
        have hpA := hp12.same zA
        have hodd : ∀ x ∈ [V.non, .str "0", .bl true, .bl false, .ref t0, .ref l0, .ref d0, .ref mo], OddI K (rm a HA4) x := fun x hx => by
          simp only [List.mem_cons, List.not_mem_nil, or_false] at hx
          rcases hx with rfl | rfl | rfl | rfl | rfl | rfl | rfl | rfl
          · exact oddI_non
          · exact oddI_str _
          · exact oddI_bl _
          · exact oddI_bl _
          · exact oddI_tup (za4 _ _ (za3 _ _ (za2 _ _ ht0)))
          · exact oddI_lst (za4 _ _ (za3 _ _ hl0))
          · exact oddI_dk (za4 _ _ hd0)
          · obtain ⟨dx, t2, ts, h1, _⟩ := id hmA
            exact oddI_ins X.md nmi nmb h1
        obtain ⟨_, st, dxb, mb, fab, tab, hbo, _⟩ := id hbA
        clear ht0 hl0 hd0 hm12 hb12 hc12 hl12 hp12 za1 za2 za3 za4 ua1 ua2 ua3 u11
        have hlo' := rm_le _ _ hlo
        walk_at "go"
        intro D2 hD2
        refine lc_filt [V.non, .str "0", .bl true, .bl false, .ref t0, .ref l0, .ref d0, .ref mo] (fun _ => false) (fun _ => .int 1) walk_list hD2 (fun H' sm => sq (sm _ _ hlo')) (Nat.le_of_ble_eq_true rfl) (fun _ => rfl) ?_ ?_ ?_
        · intro i x H5 hx s5 Q' q'
          have s5' := (rm_le (a := a)).trans s5
          have hbo5 := s5' _ _ hbo
          walk_at "go"
          refine w_inO hbo5 ?_
          obtain ⟨t, b1, b2, ty, k1, k2, e⟩ := hodd x (List.mem_of_getElem? hx) H5 s5'
          exact ⟨o, ps, u, n, x, rfl, hbA.same s5', .inl ⟨t, b1, b2, ty, k1, k2, e, _, rfl, _, rfl, q' H5 (Same.refl _)⟩⟩
        · intro i x H5 hx hp s5 Q' q'
          cases hp
        · intro H5 s5 h5
          have uB5 := ua4.same s5
          have h5' : H5 D2 = some (.lst (([] : List Int).map V.int)) := h5
          have hbo5 := s5 _ _ (rm_le _ _ hbo)
          walk_at "go"
          refine alR uB5 fun l5 H6 z6 u6 hl5 _ => ?_
          walk_at "go"
          refine w_neLL (ls := []) (ms := []) (sq (rm_le _ _ (z6 _ _ (rm_of (uB5.ne h5' fun _ _ _ z => by cases z) h5')))) (sq (rm_le _ _ hl5)) ?_
          rw [decide_eq_true rfl]
          walk_at "go"
          refine iteF ?_
          have zB := (s5.rm (a := a)).trans z6
          have hmB := hmA.same zB
          have hbB := hbA.same zB
          have hcB := hcA.same zB
          have hlB := zB _ _ hlA
          have hpB := hpA.same zB
          walk_at "go"
          refine ⟨rfl, rfl, ?_⟩
          have hclB : ClsL K (rm a H6) lb cs := by
            obtain ⟨tcs2, g1, g2⟩ := hcB
            exact ⟨tcs2, .inl g1, g2⟩
          refine use_bsR u6 md hmB hclB CL.ok fun o2 H7 u2 n2 no2 s72 u72 hb2 _ hin2 => ?_
          have hbC := hbB.same s72
          have hmC := hmB.same s72
          have hcC := hclB.same s72
          have hlC := s72 _ _ hlB
          have hpC := hpB.same s72
          walk_at "go"
          refine eqBs W (hb2.same rm_le) (hbC.same rm_le) ?_
          rw [bs_same hb2 hbC fun x => by rw [hin2, hin]]
          walk_at "go"
          refine ⟨_, _, rfl, rfl, ?_⟩
          rw [decide_eq_true rfl]
          walk_at "go"
          refine iteF ?_
          obtain ⟨tsp, hp1, hp2⟩ := id hpC
          have hp1' := rm_le _ _ hp1
          have hplen := hp2.length
          walk_at "go"
          refine test_join (fun H' => Same (rm a H7) (rm a H') ∧ Purse H' a (cc + 101)) ?_ ?_ ?_
          · rintro H8 ⟨s8, u8⟩
            refine iteF ?_
            have hbD := hbC.same s8
            have hmD := hmC.same s8
            have hcD := hcC.same s8
            have hlD := s8 _ _ hlC
            obtain ⟨_, _, dxD, mD, faD, taD, hbo, _⟩ := id hbD
            have hbo' := rm_le _ _ hbo
            have hlD' := rm_le _ _ hlD
            have hszM : szB ps u n = (mI (memB ps u n) N).length := by
              obtain ⟨_, st, _⟩ := id hbD
              rw [szB_eq md st, mI_len, ← hNe]
              rfl
            walk_at "go"
            refine w_fldi hbo' W.cl.cl W.fs bs_s ?_
            walk_at "go"
            have elen : ((szB ps u n : Nat) : Int) = (((mI (memB ps u n) N).map V.int).length : Int) := by rw [List.length_map, hszM]
            rw [elen, decI, decide_eq_true rfl]
            refine iteT ?_
            walk_at "go"
            refine use_bsR u8 md hmD hcD CL.ok fun o3 H9 u3 n3 no3 s9 u9 hb3 _ hin3 => ?_
            have hbE := hbD.same s9
            have hlE := s9 _ _ hlD
            walk_at "go"
            refine eqBs W (hbE.same rm_le) (hb3.same rm_le) ?_
            rw [bs_same hbE hb3 fun x => by rw [hin3, hin]]
            walk_at "go"
            refine iteT ?_
            walk_at "go"
            obtain ⟨_, _, dxE, mE, faE, taE, hboE, _⟩ := id hbE
            refine w_inO (rm_le _ _ hboE) ?_
            refine ⟨o, ps, u, n, .int 0, rfl, hbE.same rm_le, .inr ⟨0, rfl, fun HZ sZ => ⟨_, rfl, ?_⟩⟩⟩
            have hlZ := sZ _ _ (rm_le _ _ hlE)
            walk_at "go"
            refine w_inI30 (sq hlZ) ?_
            have e0 := mI_mem Pm 0
            rw [Int.zero_emod] at e0
            rw [e0]
            walk_at "go"
            rw [decide_eq_true rfl]
            refine q HZ ?_ ?_
            · exact SA.trans (sB.trans (S12.trans (zA.trans (zB.trans (s72.trans (s8.trans (s9.trans sZ.rm)))))))
            · exact (u9.same sZ).le (by omega)
          · intro h1 Q' hQ
            obtain ⟨dmC, tmC, tsC, hmo, _⟩ := id hmC
            have hmo' := rm_le _ _ hmo
            walk_at "go"
            refine ⟨a, o, lm, ps, u, n, _, rfl, u72, by omega, hbC, N4, by rw [← hNe]; exact hlC, fun H8 s8 u8 => ?_⟩
            walk_at "go"
            exact hQ _ ⟨s8, u8.le (by omega)⟩
          · exact fun _ => ⟨Same.refl _, u72.le (by omega)⟩
      · intro h40 Q' hQ
        have h40 := of_decide_eq_true h40
        rw [List.length_map] at h40
        have etk : (mI (memB ps u n) N).take 40 = mI (memB ps u n) N := List.take_of_length_le (by omega)
        rw [etk] at p2
        have hD7' := rm_le _ _ hD7
        walk_at "go"
        refine ⟨_, _, rfl, sq hD7', alR u7 fun l8 H8 z8 u8 hl8 _ => ?_⟩
        walk_at "go"
        have hcs8 : ClsL K (rm a H8) l8 cs1.reverse := ⟨ts1.reverse, .inl (by rw [List.map_reverse]; exact hl8), pair_rev30 (paired_imp (fun _ _ z => z8 _ _ z) p1)⟩
        refine use_bsR u8 md (hm7.same z8) hcs8 (one_ok md hNi (by omega) p2).rev fun o1 H9 u1 n1 no1 s9 u9 hb9 _ hin9 => ?_
        walk_at "go"
        refine neBs W (hb9.same rm_le) ((hb7.same (z8.trans s9)).same rm_le) ?_
        rw [bs_same hb9 hb7 fun x => by rw [hin9, inB_rev, one_same Pm p2]]
        walk_at "go"
        exact hQ _ ⟨z8.trans s9, u9⟩
      · exact fun _ => ⟨Same.refl _, u7⟩
noncomputable abbrev s_law : Stmt := (top 62)
theorem sc_law : FnScope ["_law_script", "_law_at", "_law_purse_here", "_law_turn", "_law_ring", "_law_made"] ["_law_script"] (defScope s_law) :=
  ⟨rfl, rfl, rfl, by decide +kernel, rfl, by decide +kernel, by decide +kernel⟩
theorem ok_law {c : CA} {Cb Cr : Addr} {f : Addr} {fd : FuncData} (F : L2.Fun K "law" "law" s_law f fd) (T : Bt mg) (X : Kx K mg c) (W : KBs K mg Cb Cr) (q_eqbs : EqO P w K mg base 20 Cb (spEqBs K c Cb)) (c_purse : Cal P w K mg base 1 "_law_purse" (spPurse K) []) (c_right : Cal P w K mg base 134 "_law_right" spRight30 []) (c_modinit : Mak P w K mg base 3 "Modulus" c.md (spModInit c) []) (c_bs2 : Mak P w K mg base 110 "Bases" Cb (spBsInit K c Cb Cr) []) (c_bsbelow : Met P w K mg base 132 Cb "below" (spBelw c Cb) []) (c_bsnth : Met P w K mg base 132 Cb "nth" (spNth c Cb) []) (c_bsfrm : Met P w K mg base 132 Cb "first_from" (spFrm c Cb) []) : FnOk P w K mg base L2.CX0 135 f fd ["_law_script"] (spLaw K) := by
  refine F.ok sc_law (fun vs H Q E h => ?_) (fun cdv A outer s H vs Q E hr h => ?_)
  · obtain ⟨a, ns, rfl, _⟩ := h
    rfl
  · obtain ⟨a, ns, rfl, hS, hl, k⟩ := h
    refine ⟨_, (pss_cons (ps_for PassesOwn.never rfl (pi_range1 (by rfl) T.range (pa_cons (pe_op op_add pe_int (pe_callB (cMin2 rfl) (by rfl) T.min (by decide +kernel) (pa_cons pe_int (pa_cons (pe_callB cLen (by rfl) T.len (by decide +kernel) (pa_cons (pv 0) pa_nil)) pa_nil)))) pa_nil)) (pg_name (i := 1) sc_law.nd rfl (Or.inl rfl)) (pss_cons (ps_set (i := 2) sc_law.nd rfl (Or.inl rfl) (pe_c c_purse hr (by decide) (by rfl) (pa_cons (pv 0) (pa_cons (pv 1) pa_nil))))
      (pss_one (ps_for PassesOwn.never rfl (pi_range1 (by rfl) T.range (pa_cons pe_int pa_nil)) (pg_name (i := 3) sc_law.nd rfl (Or.inl rfl)) (pss_one (ps_if (pt_not (pt_val (pe_c c_right hr (by decide) (by rfl) (pa_cons (pv 2) pa_nil)))) (pss_one (ps_ret pe_bl)) pss_nil))))))
      (pss_cons (ps_if (pt_cmpR op_ne (pe_fld (pe_mk c_bs2 hr (by decide) (by rfl) (pa_cons (pe_mk c_modinit hr (by decide) (by rfl) (pa_cons (pe_lst (pa_cons (pe_tup (pa_cons pe_int (pa_cons pe_int pa_nil))) (pa_cons (pe_tup (pa_cons pe_int (pa_cons pe_int pa_nil))) pa_nil))) pa_nil)) (pa_cons (pe_lst (pa_cons (pe_tup (pa_cons pe_int (pa_cons pe_int pa_nil))) (pa_cons (pe_tup (pa_cons pe_int (pa_cons pe_int pa_nil))) pa_nil))) pa_nil))) rfl) pe_int (nomark _)) (pss_one (ps_ret pe_bl)) pss_nil)
      (pss_cons (ps_set (i := 4) sc_law.nd rfl (Or.inl rfl) (pe_mk c_modinit hr (by decide) (by rfl) (pa_cons (pe_lst (pa_cons (pe_tup (pa_cons pe_int (pa_cons pe_int pa_nil))) pa_nil)) pa_nil)))
      (pss_cons (ps_set (i := 5) sc_law.nd rfl (Or.inl rfl) (pe_mk c_bs2 hr (by decide) (by rfl) (pa_cons (pv 4) (pa_cons (pe_lst (pa_cons (pe_tup (pa_cons pe_int (pa_cons pe_int pa_nil))) (pa_cons (pe_tup (pa_cons pe_int (pa_cons pe_int pa_nil))) pa_nil))) pa_nil))))
      (pss_cons (ps_if (pt_cmpR (op_neD hr.units) (pe_lst (pa_cons (pe_mt c_bsnth hr (by decide) (pv 5) (pa_cons pe_int pa_nil)) (pa_cons (pe_mt c_bsnth hr (by decide) (pv 5) (pa_cons pe_int pa_nil)) (pa_cons (pe_mt c_bsbelow hr (by decide) (pv 5) (pa_cons pe_int pa_nil)) (pa_cons (pe_mt c_bsfrm hr (by decide) (pv 5) (pa_cons (pe_un un_neg pe_int) pa_nil)) (pa_cons (pe_mt c_bsfrm hr (by decide) (pv 5) (pa_cons pe_int pa_nil)) pa_nil)))))) (pe_lst (pa_cons pe_int (pa_cons pe_int (pa_cons pe_int (pa_cons pe_int (pa_cons pe_int pa_nil)))))) (nomark _)) (pss_one (ps_ret pe_bl)) pss_nil)
      (pss_one (ps_ret (pe_and (pe_cmpR (op_eqO q_eqbs hr (by decide)) (pe_mk c_bs2 hr (by decide) (by rfl) (pa_cons (pv 4) (pa_cons (pe_lst (pa_cons (pe_tup (pa_cons pe_int (pa_cons pe_int pa_nil))) (pa_cons (pe_tup (pa_cons pe_int (pa_cons pe_int pa_nil))) pa_nil))) pa_nil))) (pe_mk c_bs2 hr (by decide) (by rfl) (pa_cons (pv 4) (pa_cons (pe_lst (pa_cons (pe_tup (pa_cons pe_int (pa_cons pe_int pa_nil))) pa_nil)) pa_nil))) (nomark _)) (pe_one (pe_cmpR (op_neO q_eqbs hr (by decide)) (pe_mk c_bs2 hr (by decide) (by rfl) (pa_cons (pv 4) (pa_cons (pe_lst pa_nil) pa_nil))) (pe_mk c_bs2 hr (by decide) (by rfl) (pa_cons (pv 4) (pa_cons (pe_lst (pa_cons (pe_tup (pa_cons pe_int (pa_cons pe_int pa_nil))) pa_nil)) pa_nil))) (nomark _))))))))))), ?_⟩
    walk_at "go"
    refine for_range (lo := 0) (fun i σ H' => ∃ (u1 u2 u3 : Option V), σ = [some (.ref a), u1, u2, u3, none, none] ∧ Same H H') ⟨none, none, none, rfl, Same.refl _⟩ ?_ ?_
    · rintro i σ H1 hi ⟨u1, u2, u3, rfl, s1⟩
      have hi8 : i ≤ 8 := by split at hi <;> omega
      walk_at "go"
      refine ⟨a, ns, _, rfl, s1.seq hS, by omega, by omega, fun p H2 np s2 pu => ?_⟩
      walk_at "go"
      refine for_range (lo := 0) (fun j σ H' => ∃ (u3 : Option V), σ = [some (.ref a), some (.int (0 + (i : Int))), some (.ref p), u3, none, none] ∧ Same H1 H' ∧ Purse H' p (1000 * (0 + (i : Int)) + 300 * j)) ⟨_, rfl, s2, pu.le (by omega)⟩ ?_ ?_
      · rintro j σ H3 hj ⟨u3, rfl, s3, p3⟩
        walk_at "go"
        refine ⟨p, _, rfl, by omega, p3, fun H4 k4 p4 => ?_⟩
        walk_at "go"
        refine iteF ?_
        walk_at "go"
        refine ⟨_, rfl, fun b o hb => ?_, p4.le (by omega)⟩
        have nb : b ≠ p := fun e => by rw [e, np] at hb; cases hb
        have h9 := k4 b o (rm_of nb (s3 _ _ hb))
        exact rm_le _ _ h9
      · rintro σ H3 ⟨u3, rfl, s3, p3⟩
        walk_at "go"
        exact ⟨_, _, _, rfl, s1.trans s3⟩
    · rintro σ H1 ⟨u1, u2, u3, rfl, s1⟩
      walk_at "go"
      refine al fun t0 G0 _ s0 ht0 => ?_
      walk_at "go"
      refine al fun t1 G1 _ s1' ht1 => ?_
      walk_at "go"
      refine al fun l0 G2 _ s2 hl0 => ?_
      walk_at "go"
      refine use_modS (ps := [(2, 2), (3, 1)]) ⟨[t0, t1], hl0, .cons (s2 _ _ (s1' _ _ ht0)) (.cons (s2 _ _ ht1) .nil)⟩ pl30_a.asc pl30_a.sm fun m0 G3 s3 hm0 => ?_
      walk_at "go"
      refine al fun t2 G4 _ s4 ht2 => ?_
      walk_at "go"
      refine al fun t3 G5 _ s5 ht3 => ?_
      walk_at "go"
      refine al fun l1 G6 _ s6 hl1 => ?_
      walk_at "go"
      refine use_bsS (cs := [(1, 6), (1, 4)]) pl30_a.md (hm0.same (s4.trans (s5.trans s6))) ⟨[t2, t3], .inl hl1, .cons (s6 _ _ (s5 _ _ ht2)) (.cons (s6 _ _ ht3) .nil)⟩ ok30_a fun o0 G7 u0 n0 _ s7 hb0 hin0 => ?_
      walk_at "go"
      obtain ⟨_, _, dx0, mm0, fa0, ta0, hbo0, _⟩ := id hb0
      refine w_fldi hbo0 W.cl.cl W.fs bs_s ?_
      rw [sz_in hb0 hin0, sz30_a]
      walk_at "go"
      refine iteF ?_
      clear ht0 ht1 hl0 hm0 ht2 ht3 hl1 hb0 hbo0 s0 s1' s2 s3 s4 s5 s6 s7
      walk_at "go"
      refine al fun t4 J0 _ r0 ht4 => ?_
      walk_at "go"
      refine al fun l2 J1 _ r1 hl2 => ?_
      walk_at "go"
      refine use_modS (ps := [(2, 3)]) ⟨[t4], hl2, .cons (r1 _ _ ht4) .nil⟩ pl30_b.asc pl30_b.sm fun m1 J2 r2 hm1 => ?_
      walk_at "go"
      refine al fun t5 J3 _ r3 ht5 => ?_
      walk_at "go"
      refine al fun t6 J4 _ r4 ht6 => ?_
      walk_at "go"
      refine al fun l3 J5 _ r5 hl3 => ?_
      walk_at "go"
      have hm5 := hm1.same (r3.trans (r4.trans r5))
      refine use_bsS (cs := [(1, 4), (6, 8)]) pl30_b.md hm5 ⟨[t5, t6], .inl hl3, .cons (r5 _ _ (r4 _ _ ht5)) (.cons (r5 _ _ ht6) .nil)⟩ ok30_b fun o1 J6 tb1 n1 _ r6 hb1 hin1 => ?_
      have hm6 := hm5.same r6
      have hsz := sz_in hb1 hin1
      rw [sz30_b] at hsz
      obtain ⟨_, _, dx1, mm1, fa1, ta1, hbo1, _⟩ := id hb1
      clear ht4 hl2 hm1 ht5 ht6 hl3 hm5 r0 r1 r2 r3 r4 r5 r6
      have hN8 : num [(2, 3)] = 8 := by decide
      walk_at "go"
      refine ⟨o1, dx1, _, rfl, hbo1, bs_no (by decide +kernel) (by decide +kernel) (by decide +kernel) (by decide +kernel) (by decide +kernel), ?_⟩
      walk_at "go"
      refine ⟨o1, [(2, 3)], tb1, n1, 3, rfl, hb1, .inr ⟨by omega, fun J7 x r7 hx hmx hcx => ?_⟩⟩
      obtain rfl : x = 1 := (first30_a x (by omega) (by rw [← hin1]; exact hmx)).1 (by rw [← cm_in hin1, hcx, hsz])
      rw [hsz, hN8]
      walk_at "go"
      have hb7 := hb1.same r7
      have hbo7 := r7 _ _ hbo1
      have hm7 := hm6.same r7
      refine ⟨o1, dx1, _, rfl, hbo7, bs_no (by decide +kernel) (by decide +kernel) (by decide +kernel) (by decide +kernel) (by decide +kernel), ?_⟩
      walk_at "go"
      refine ⟨o1, [(2, 3)], tb1, n1, 5, rfl, hb7, .inr ⟨by omega, fun J8 x r8 hx hmx hcx => ?_⟩⟩
      obtain rfl : x = 6 := (first30_a x (by omega) (by rw [← hin1]; exact hmx)).2 (by rw [← cm_in hin1, hcx, hsz])
      rw [hsz, hN8]
      walk_at "go"
      have hb8 := hb7.same r8
      have hbo8 := r8 _ _ hbo7
      refine ⟨o1, dx1, _, rfl, hbo8, bs_no (by decide +kernel) (by decide +kernel) (by decide +kernel) (by decide +kernel) (by decide +kernel), ?_⟩
      walk_at "go"
      refine ⟨o1, [(2, 3)], tb1, n1, 6, rfl, hb8, fun J9 r9 => ?_⟩
      rw [cm_in hin1, cm30_6]
      walk_at "go"
      have hb9 := hb8.same r9
      have hbo9 := r9 _ _ hbo8
      refine ⟨o1, dx1, _, rfl, hbo9, bs_no (by decide +kernel) (by decide +kernel) (by decide +kernel) (by decide +kernel) (by decide +kernel), ?_⟩
      walk_at "go"
      refine ⟨o1, [(2, 3)], tb1, n1, -1, rfl, hb9, .inr ⟨by omega, fun JA x rA hx hmx hcx => ?_⟩⟩
      obtain rfl : x = 1 := (first30_a x (by omega) (by rw [← hin1]; exact hmx)).1 (by rw [← cm_in hin1, hcx, cm_in hin1, cm30_4, hsz])
      rw [hsz, cm_in hin1, cm30_4, hN8]
      walk_at "go"
      have hbA := hb9.same rA
      have hboA := rA _ _ hbo9
      refine ⟨o1, dx1, _, rfl, hboA, bs_no (by decide +kernel) (by decide +kernel) (by decide +kernel) (by decide +kernel) (by decide +kernel), ?_⟩
      walk_at "go"
      refine ⟨o1, [(2, 3)], tb1, n1, 7, rfl, hbA, .inr ⟨by omega, fun JB x rB hx hmx hcx => ?_⟩⟩
      obtain rfl : x = 1 := (first30_a x (by omega) (by rw [← hin1]; exact hmx)).1 (by rw [← cm_in hin1, hcx, cm_in hin1, cm30_7, hsz])
      rw [hsz, cm_in hin1, cm30_7, hN8]
      walk_at "go"
      refine al fun l4 JC _ rC hl4 => ?_
      walk_at "go"
      refine al fun l5 JD _ rD hl5 => ?_
      walk_at "go"
      refine w_neLL (ls := [9, 14, 2, 1, 9]) (ms := [9, 14, 2, 1, 9]) (sq (show JD l4 = some (.lst (([9, 14, 2, 1, 9] : List Int).map V.int)) from rD _ _ hl4)) (sq hl5) ?_
      rw [decide_eq_true rfl]
      walk_at "go"
      refine iteF ?_
      have hmD := ((((((hm7.same r8).same r9).same rA).same rB).same rC).same rD)
      clear hl4 hl5 rC rD r8 r9 rA rB r7 hb1 hb7 hb8 hb9 hbA hbo1 hbo7 hbo8 hbo9 hboA hm7
      walk_at "go"
      refine al fun t7 L0 _ p0 ht7 => ?_
      walk_at "go"
      refine al fun t8 L1 _ p1 ht8 => ?_
      walk_at "go"
      refine al fun l6 L2 _ p2 hl6 => ?_
      walk_at "go"
      refine use_bsS (cs := [(1, 2), (0, 2)]) pl30_b.md (hmD.same (p0.trans (p1.trans p2))) ⟨[t7, t8], .inl hl6, .cons (p2 _ _ (p1 _ _ ht7)) (.cons (p2 _ _ ht8) .nil)⟩ ok30_c fun o2 L3 tb2 n2 _ p3 hb2 hin2 => ?_
      have hm3 := hmD.same (p0.trans (p1.trans (p2.trans p3)))
      clear ht7 ht8 hl6 p0 p1 p2 p3
      walk_at "go"
      refine al fun t9 L4 _ p4 ht9 => ?_
      walk_at "go"
      refine al fun l7 L5 _ p5 hl7 => ?_
      walk_at "go"
      refine use_bsS (cs := [(5, 1)]) pl30_b.md (hm3.same (p4.trans p5)) ⟨[t9], .inl hl7, .cons (p5 _ _ ht9) .nil⟩ ok30_d fun o3 L6 tb3 n3 _ p6 hb3 hin3 => ?_
      have hm6' := hm3.same (p4.trans (p5.trans p6))
      walk_at "go"
      refine eqBs W (hb2.same (p4.trans (p5.trans p6))) hb3 ?_
      rw [bs_same (hb2.same (p4.trans (p5.trans p6))) hb3 fun x => by rw [hin2, hin3, in30_a]]
      clear ht9 hl7 p4 p5 p6
      walk_at "go"
      refine iteT ?_
      walk_at "go"
      refine al fun l8 L7 _ p7 hl8 => ?_
      walk_at "go"
      refine use_bsS (cs := []) pl30_b.md (hm6'.same p7) ⟨[], .inl hl8, .nil⟩ (ok30_e _) fun o4 L8 tb4 n4 _ p8 hb4 hin4 => ?_
      have hm8 := hm6'.same (p7.trans p8)
      walk_at "go"
      refine al fun t10 L9 _ p9 ht10 => ?_
      walk_at "go"
      refine al fun l9 LA _ pA hl9 => ?_
      walk_at "go"
      refine use_bsS (cs := [(0, 8)]) pl30_b.md (hm8.same (p9.trans pA)) ⟨[t10], .inl hl9, .cons (pA _ _ ht10) .nil⟩ ok30_f fun o5 LB tb5 n5 _ pB hb5 hin5 => ?_
      walk_at "go"
      refine neBs W (hb4.same (p9.trans (pA.trans pB))) hb5 ?_
      rw [bs_diff (x := 0) (by rw [hin4, hin5]; decide)]
      walk_at "go"
      exact k _
end
end Lw
namespace Lw
open PySem PySem.Spec PyProof.Rows L2 Bc
theorem all_mk {l : PySem.W.OpenLaw} {w : World} {K : PySem.W.Frag} {h : Heap} {mg : Str → Option Value} {fa Cm Cb Cr aE f1 f2 f3 f4 f5 f6 f7 f8 f9 f10 f11 f12 f13 f14 f15 f16 f17 f18 f19 f20 f21 f22 f23 f24 f25 f26 f27 f28 f29 f30 f31 f32 f33 f34 f35 f36 f37 f38 f39 f40 f41 f42 f43 f44 f45 f46 f47 f48 f49 f50 : Addr} (X : K.In h) (G : h.Ns mainGlobals mg) (hfa : mg "law" = some (.ref fa))
    {fd1 : FuncData}
    {fd2 : FuncData}
    {fd3 : FuncData}
    {fd4 : FuncData}
    {fd5 : FuncData}
    {fd6 : FuncData}
    {fd7 : FuncData}
    {fd8 : FuncData}
    {fd9 : FuncData}
    {fd10 : FuncData}
    {fd11 : FuncData}
    {fd12 : FuncData}
    {fd13 : FuncData}
    {fd14 : FuncData}
    {fd15 : FuncData}
    {fd16 : FuncData}
    {fd17 : FuncData}
    {fd18 : FuncData}
    {fd19 : FuncData}
    {fd20 : FuncData}
    {fd21 : FuncData}
    {fd22 : FuncData}
    {fd23 : FuncData}
    {fd24 : FuncData}
    {fd25 : FuncData}
    {fd26 : FuncData}
    {fd27 : FuncData}
    {fd28 : FuncData}
    {fd29 : FuncData}
    {fd30 : FuncData}
    {fd31 : FuncData}
    {fd32 : FuncData}
    {fd33 : FuncData}
    {fd34 : FuncData}
    {fd35 : FuncData}
    {fd36 : FuncData}
    {fd37 : FuncData}
    {fd38 : FuncData}
    {fd39 : FuncData}
    {fd40 : FuncData}
    {fd41 : FuncData}
    {fd42 : FuncData}
    {fd43 : FuncData}
    {fd44 : FuncData}
    {fd45 : FuncData}
    {fd46 : FuncData}
    {fd47 : FuncData}
    {fd48 : FuncData}
    {fd49 : FuncData}
    {fd50 : FuncData}
    (z_len : PySem.W.nsIn K mainGlobals "len" = some none)
    (z_int : PySem.W.nsIn K mainGlobals "int" = some none)
    (z_abs : PySem.W.nsIn K mainGlobals "abs" = some none)
    (z_max : PySem.W.nsIn K mainGlobals "max" = some none)
    (z_min : PySem.W.nsIn K mainGlobals "min" = some none)
    (z_range : PySem.W.nsIn K mainGlobals "range" = some none)
    (z_isinstance : PySem.W.nsIn K mainGlobals "isinstance" = some none)
    (z_list : PySem.W.nsIn K mainGlobals "list" = some none)
    (z_tuple : PySem.W.nsIn K mainGlobals "tuple" = some none)
    (z_str : PySem.W.nsIn K mainGlobals "str" = some none)
    (z_bool : PySem.W.nsIn K mainGlobals "bool" = some none)
    (z_ord : PySem.W.nsIn K mainGlobals "ord" = some none)
    (z_all : PySem.W.nsIn K mainGlobals "all" = some none)
    (z_enumerate : PySem.W.nsIn K mainGlobals "enumerate" = some none)
    (z_zip : PySem.W.nsIn K mainGlobals "zip" = some none)
    (z_sorted : PySem.W.nsIn K mainGlobals "sorted" = some none)
    (z_set : PySem.W.nsIn K mainGlobals "set" = some none)
    (z_dict : PySem.W.nsIn K mainGlobals "dict" = some none)
    (z_reversed : PySem.W.nsIn K mainGlobals "reversed" = some none)
    (mCm : PySem.W.nsIn K mainGlobals "Modulus" = some (some (.ref Cm)))
    (pgCm : PySem.W.plainGet K Cm Str.empty = true)
    (hdCm : PySem.W.hasDictIn K Cm = true)
    (poCm : PySem.W.plainOver K Cm = true)
    (saCm : PySem.W.findIn K (.ref Cm) "__setattr__" = some (some (.builtin "object.__setattr__")))
    (haCm : PySem.W.findIn K (.ref Cm) "__class__" = some (some (.builtin "object.__class__")))
    (hmCm : PySem.W.mroIn K Cm (.type "object") = some true)
    (mkCm : PySem.W.makesIn K Cm = true)
    (kcCm : PySem.W.keepIn K (.ref Cm) = true)
    (objhn : PySem.W.specialIn K (.builtin "object.__class__") "__get__" = some (some (.builtin "getset_descriptor.__get__")))
    (objht : PySem.W.takesIn K (.builtin "object.__class__") = some true)
    (mCb : PySem.W.nsIn K mainGlobals "Bases" = some (some (.ref Cb)))
    (pgCb : PySem.W.plainGet K Cb Str.empty = true)
    (hdCb : PySem.W.hasDictIn K Cb = true)
    (poCb : PySem.W.plainOver K Cb = true)
    (saCb : PySem.W.findIn K (.ref Cb) "__setattr__" = some (some (.builtin "object.__setattr__")))
    (haCb : PySem.W.findIn K (.ref Cb) "__class__" = some (some (.builtin "object.__class__")))
    (hmCb : PySem.W.mroIn K Cb (.type "object") = some true)
    (mkCb : PySem.W.makesIn K Cb = true)
    (kcCb : PySem.W.keepIn K (.ref Cb) = true)
    (mCr : PySem.W.nsIn K mainGlobals "Rows" = some (some (.ref Cr)))
    (pgCr : PySem.W.plainGet K Cr Str.empty = true)
    (hdCr : PySem.W.hasDictIn K Cr = true)
    (poCr : PySem.W.plainOver K Cr = true)
    (saCr : PySem.W.findIn K (.ref Cr) "__setattr__" = some (some (.builtin "object.__setattr__")))
    (haCr : PySem.W.findIn K (.ref Cr) "__class__" = some (some (.builtin "object.__class__")))
    (hmCr : PySem.W.mroIn K Cr (.type "object") = some true)
    (mkCr : PySem.W.makesIn K Cr = true)
    (kcCr : PySem.W.keepIn K (.ref Cr) = true)
    (nCm_number : PySem.W.findIn K (.ref Cm) "number" = some none)
    (nCm_factors : PySem.W.findIn K (.ref Cm) "factors" = some none)
    (nCm_low : PySem.W.findIn K (.ref Cm) "low" = some none)
    (nCm_shift : PySem.W.findIn K (.ref Cm) "shift" = some none)
    (nCm_lead : PySem.W.findIn K (.ref Cm) "lead" = some none)
    (nCm_marking : PySem.W.findIn K (.ref Cm) "marking" = some none)
    (nCm_modulus : PySem.W.findIn K (.ref Cm) "modulus" = some none)
    (nCm_base : PySem.W.findIn K (.ref Cm) "base" = some none)
    (nCb_modulus : PySem.W.findIn K (.ref Cb) "modulus" = some none)
    (nCb_figures : PySem.W.findIn K (.ref Cb) "figures" = some none)
    (nCb_rows : PySem.W.findIn K (.ref Cb) "rows" = some none)
    (nCb_root : PySem.W.findIn K (.ref Cb) "root" = some none)
    (nCb_size : PySem.W.findIn K (.ref Cb) "size" = some none)
    (icCr : PySem.W.isClsIn K Cr = true)
    (tyCr : PySem.W.typeIn K (.ref Cr) = some (.type "type"))
    (nr_list : PySem.W.subIn K (.type "list") (.ref Cr) = some false)
    (nr_tuple : PySem.W.subIn K (.type "tuple") (.ref Cr) = some false)
    (nCr_rows : PySem.W.findIn K (.ref Cr) "rows" = some none)
    (nCr_root : PySem.W.findIn K (.ref Cr) "root" = some none)
    (nm_int : PySem.W.subIn K (.ref Cm) (.type "int") = some false)
    (nm_bool : PySem.W.subIn K (.ref Cm) (.type "bool") = some false)
    (gNONE : ∃ t, PySem.W.nsIn K mainGlobals "NONE" = some (some (.int 0 t)))
    (gEVERY : ∃ t, PySem.W.nsIn K mainGlobals "EVERY" = some (some (.int 1 t)))
    (maE : PySem.W.nsIn K mainGlobals "EITHER" = some (some (.ref aE)))
    (haE : TblK K aE (fun a b => a || b))
    (neCm : PySem.W.findIn K (.ref Cm) "__ne__" = some (some (.builtin "object.__ne__")))
    (neCb : PySem.W.findIn K (.ref Cb) "__ne__" = some (some (.builtin "object.__ne__")))
    (a1 : PySem.W.nsIn K mainGlobals "is_integer" = some (some (.ref f1)))
    (F1 : L2.Fun K "is_integer" "is_integer" s_isint f1 fd1)
    (a2 : PySem.W.nsIn K mainGlobals "raised" = some (some (.ref f2)))
    (F2 : L2.Fun K "raised" "raised" s_raised f2 fd2)
    (a3 : PySem.W.nsIn K mainGlobals "common_divisor" = some (some (.ref f3)))
    (F3 : L2.Fun K "common_divisor" "common_divisor" s_gcd f3 fd3)
    (a4 : PySem.W.nsIn K mainGlobals "is_prime_number" = some (some (.ref f4)))
    (F4 : L2.Fun K "is_prime_number" "is_prime_number" s_prime f4 fd4)
    (a5 : PySem.W.nsIn K mainGlobals "is_factor" = some (some (.ref f5)))
    (F5 : L2.Fun K "is_factor" "is_factor" s_isfac f5 fd5)
    (a6 : PySem.W.nsIn K mainGlobals "require_modulus" = some (some (.ref f6)))
    (F6 : L2.Fun K "require_modulus" "require_modulus" s_reqmod f6 fd6)
    (a7 : PySem.W.nsIn K mainGlobals "_law_mixed" = some (some (.ref f7)))
    (F7 : L2.Fun K "_law_mixed" "_law_mixed" s_mixed f7 fd7)
    (a8 : PySem.W.nsIn K mainGlobals "_law_purse" = some (some (.ref f8)))
    (F8 : L2.Fun K "_law_purse" "_law_purse" s_purse f8 fd8)
    (a9 : PySem.W.nsIn K mainGlobals "_law_draw" = some (some (.ref f9)))
    (F9 : L2.Fun K "_law_draw" "_law_draw" s_draw f9 fd9)
    (a10 : PySem.W.nsIn K mainGlobals "below_at" = some (some (.ref f10)))
    (F10 : L2.Fun K "below_at" "below_at" s_belowat f10 fd10)
    (a11 : PySem.W.nsIn K mainGlobals "count_below" = some (some (.ref f11)))
    (F11 : L2.Fun K "count_below" "count_below" s_countb f11 fd11)
    (a12 : PySem.W.nsIn K mainGlobals "member_at" = some (some (.ref f12)))
    (F12 : L2.Fun K "member_at" "member_at" s_memat f12 fd12)
    (a13 : PySem.W.nsIn K mainGlobals "holds" = some (some (.ref f13)))
    (F13 : L2.Fun K "holds" "holds" s_holds f13 fd13)
    (a14 : PySem.W.nsIn K mainGlobals "spread" = some (some (.ref f14)))
    (F14 : L2.Fun K "spread" "spread" s_spread f14 fd14)
    (a15 : PySem.W.nsIn K mainGlobals "size_of" = some (some (.ref f15)))
    (F15 : L2.Fun K "size_of" "size_of" s_sizeof f15 fd15)
    (a16 : PySem.W.nsIn K mainGlobals "first_rows" = some (some (.ref f16)))
    (F16 : L2.Fun K "first_rows" "first_rows" s_firstrows f16 fd16)
    (a17 : PySem.W.nsIn K mainGlobals "figures_of" = some (some (.ref f17)))
    (F17 : L2.Fun K "figures_of" "figures_of" s_figuresof f17 fd17)
    (a18 : PySem.W.nsIn K mainGlobals "figures_at" = some (some (.ref f18)))
    (F18 : L2.Fun K "figures_at" "figures_at" s_figsat f18 fd18)
    (a19 : PySem.W.nsIn K mainGlobals "pairs_below" = some (some (.ref f19)))
    (F19 : L2.Fun K "pairs_below" "pairs_below" s_pairsbelow f19 fd19)
    (a20 : PySem.W.nsIn K mainGlobals "met_pairs" = some (some (.ref f20)))
    (F20 : L2.Fun K "met_pairs" "met_pairs" s_metpairs f20 fd20)
    (a21 : PySem.W.nsIn K mainGlobals "usual" = some (some (.ref f21)))
    (F21 : L2.Fun K "usual" "usual" s_usual f21 fd21)
    (a22 : PySem.W.nsIn K mainGlobals "made_row" = some (some (.ref f22)))
    (F22 : L2.Fun K "made_row" "made_row" s_maderow f22 fd22)
    (a23 : PySem.W.nsIn K mainGlobals "row_at" = some (some (.ref f23)))
    (F23 : L2.Fun K "row_at" "row_at" s_rowat f23 fd23)
    (a24 : PySem.W.nsIn K mainGlobals "settled" = some (some (.ref f24)))
    (F24 : L2.Fun K "settled" "settled" s_settled f24 fd24)
    (a25 : PySem.W.nsIn K mainGlobals "class_rows" = some (some (.ref f25)))
    (F25 : L2.Fun K "class_rows" "class_rows" s_classrows f25 fd25)
    (a26 : PySem.W.nsIn K mainGlobals "together" = some (some (.ref f26)))
    (F26 : L2.Fun K "together" "together" s_together f26 fd26)
    (a27 : PySem.W.nsIn K mainGlobals "is_class" = some (some (.ref f27)))
    (F27 : L2.Fun K "is_class" "is_class" s_iscls f27 fd27)
    (a28 : PySem.W.nsIn K mainGlobals "require_classes" = some (some (.ref f28)))
    (F28 : L2.Fun K "require_classes" "require_classes" s_reqcls f28 fd28)
    (a29 : PySem.W.nsIn K mainGlobals "merged_rows" = some (some (.ref f29)))
    (F29 : L2.Fun K "merged_rows" "merged_rows" s_merged f29 fd29)
    (a30 : PySem.W.nsIn K mainGlobals "inverse" = some (some (.ref f30)))
    (F30 : L2.Fun K "inverse" "inverse" s_inverse f30 fd30)
    (a31 : PySem.W.nsIn K mainGlobals "led_together" = some (some (.ref f31)))
    (F31 : L2.Fun K "led_together" "led_together" s_led f31 fd31)
    (a32 : PySem.W.nsIn K mainGlobals "with_figure" = some (some (.ref f32)))
    (F32 : L2.Fun K "with_figure" "with_figure" s_withfig f32 fd32)
    (a33 : PySem.W.nsIn K mainGlobals "with_all_figures" = some (some (.ref f33)))
    (F33 : L2.Fun K "with_all_figures" "with_all_figures" s_withall f33 fd33)
    (a34 : PySem.W.nsIn K mainGlobals "by_each_figure" = some (some (.ref f34)))
    (F34 : L2.Fun K "by_each_figure" "by_each_figure" s_byeach f34 fd34)
    (a35 : PySem.W.nsIn K mainGlobals "signed_classes" = some (some (.ref f35)))
    (F35 : L2.Fun K "signed_classes" "signed_classes" s_sigcls f35 fd35)
    (a36 : PySem.W.nsIn K mainGlobals "_law_balls" = some (some (.ref f36)))
    (F36 : L2.Fun K "_law_balls" "_law_balls" s_balls f36 fd36)
    (a37 : PySem.W.nsIn K mainGlobals "_law_members" = some (some (.ref f37)))
    (F37 : L2.Fun K "_law_members" "_law_members" s_membs f37 fd37)
    (a38 : PySem.W.nsIn K mainGlobals "_law_order_right" = some (some (.ref f38)))
    (F38 : L2.Fun K "_law_order_right" "_law_order_right" s_ordr f38 fd38)
    (a39 : PySem.W.nsIn K mainGlobals "_law_right" = some (some (.ref f39)))
    (F39 : L2.Fun K "_law_right" "_law_right" s_right f39 fd39)
    (a40 : PySem.W.findIn K (.ref Cm) "__init__" = some (some (.ref f40)))
    (i40 : PySem.W.isFn K (.ref f40) = true)
    (F40 : L2.Fun K "__init__" "Modulus.__init__" s_modinit f40 fd40)
    (a41 : PySem.W.findIn K (.ref Cm) "__eq__" = some (some (.ref f41)))
    (i41 : PySem.W.isFn K (.ref f41) = true)
    (F41 : L2.Fun K "__eq__" "Modulus.__eq__" s_eqmd f41 fd41)
    (a42 : PySem.W.findIn K (.ref Cr) "__init__" = some (some (.ref f42)))
    (i42 : PySem.W.isFn K (.ref f42) = true)
    (F42 : L2.Fun K "__init__" "Rows.__init__" s_rwinit f42 fd42)
    (a43 : PySem.W.findIn K (.ref Cb) "__init__" = some (some (.ref f43)))
    (i43 : PySem.W.isFn K (.ref f43) = true)
    (F43 : L2.Fun K "__init__" "Bases.__init__" s_bsinit f43 fd43)
    (a44 : PySem.W.findIn K (.ref Cb) "signed" = some (some (.ref f44)))
    (i44 : PySem.W.isFn K (.ref f44) = true)
    (F44 : L2.Fun K "signed" "Bases.signed" s_bssig f44 fd44)
    (a45 : PySem.W.findIn K (.ref Cb) "below" = some (some (.ref f45)))
    (i45 : PySem.W.isFn K (.ref f45) = true)
    (F45 : L2.Fun K "below" "Bases.below" s_bsbelow f45 fd45)
    (a46 : PySem.W.findIn K (.ref Cb) "nth" = some (some (.ref f46)))
    (i46 : PySem.W.isFn K (.ref f46) = true)
    (F46 : L2.Fun K "nth" "Bases.nth" s_bsnth f46 fd46)
    (a47 : PySem.W.findIn K (.ref Cb) "first_from" = some (some (.ref f47)))
    (i47 : PySem.W.isFn K (.ref f47) = true)
    (F47 : L2.Fun K "first_from" "Bases.first_from" s_bsfrm f47 fd47)
    (a48 : PySem.W.findIn K (.ref Cb) "__contains__" = some (some (.ref f48)))
    (i48 : PySem.W.isFn K (.ref f48) = true)
    (F48 : L2.Fun K "__contains__" "Bases.__contains__" s_bshas f48 fd48)
    (a49 : PySem.W.findIn K (.ref Cb) "__eq__" = some (some (.ref f49)))
    (i49 : PySem.W.isFn K (.ref f49) = true)
    (F49 : L2.Fun K "__eq__" "Bases.__eq__" s_eqbs f49 fd49)
    (a50 : PySem.W.nsIn K mainGlobals "law" = some (some (.ref f50)))
    (F50 : L2.Fun K "law" "law" s_law f50 fd50) :
    ∃ fd : FuncData, (∀ (s : Shared) (v : Value), BindsTo s fd ⟨[v], []⟩ [("_law_script", v)]) ∧ ∀ base : Heap, K.In base → base.Ns mainGlobals mg → FnOk l.prog w K mg base L2.CX0 135 fa fd ["_law_script"] (spLaw K) := by
  have e := hfa.symm.trans (PySem.W.mg_of X G a50)
  cases e
  obtain ⟨⟨oc1, od1, kV1, dc1, pm1, an1, cd1, ct1, sl1, rfl, l1, c1⟩, k1⟩ := F1
  obtain ⟨⟨oc2, od2, kV2, dc2, pm2, an2, cd2, ct2, sl2, rfl, l2, c2⟩, k2⟩ := F2
  obtain ⟨⟨oc3, od3, kV3, dc3, pm3, an3, cd3, ct3, sl3, rfl, l3, c3⟩, k3⟩ := F3
  obtain ⟨⟨oc4, od4, kV4, dc4, pm4, an4, cd4, ct4, sl4, rfl, l4, c4⟩, k4⟩ := F4
  obtain ⟨⟨oc5, od5, kV5, dc5, pm5, an5, cd5, ct5, sl5, rfl, l5, c5⟩, k5⟩ := F5
  obtain ⟨⟨oc6, od6, kV6, dc6, pm6, an6, cd6, ct6, sl6, rfl, l6, c6⟩, k6⟩ := F6
  obtain ⟨⟨oc7, od7, kV7, dc7, pm7, an7, cd7, ct7, sl7, rfl, l7, c7⟩, k7⟩ := F7
  obtain ⟨⟨oc8, od8, kV8, dc8, pm8, an8, cd8, ct8, sl8, rfl, l8, c8⟩, k8⟩ := F8
  obtain ⟨⟨oc9, od9, kV9, dc9, pm9, an9, cd9, ct9, sl9, rfl, l9, c9⟩, k9⟩ := F9
  obtain ⟨⟨oc10, od10, kV10, dc10, pm10, an10, cd10, ct10, sl10, rfl, l10, c10⟩, k10⟩ := F10
  obtain ⟨⟨oc11, od11, kV11, dc11, pm11, an11, cd11, ct11, sl11, rfl, l11, c11⟩, k11⟩ := F11
  obtain ⟨⟨oc12, od12, kV12, dc12, pm12, an12, cd12, ct12, sl12, rfl, l12, c12⟩, k12⟩ := F12
  obtain ⟨⟨oc13, od13, kV13, dc13, pm13, an13, cd13, ct13, sl13, rfl, l13, c13⟩, k13⟩ := F13
  obtain ⟨⟨oc14, od14, kV14, dc14, pm14, an14, cd14, ct14, sl14, rfl, l14, c14⟩, k14⟩ := F14
  obtain ⟨⟨oc15, od15, kV15, dc15, pm15, an15, cd15, ct15, sl15, rfl, l15, c15⟩, k15⟩ := F15
  obtain ⟨⟨oc16, od16, kV16, dc16, pm16, an16, cd16, ct16, sl16, rfl, l16, c16⟩, k16⟩ := F16
  obtain ⟨⟨oc17, od17, kV17, dc17, pm17, an17, cd17, ct17, sl17, rfl, l17, c17⟩, k17⟩ := F17
  obtain ⟨⟨oc18, od18, kV18, dc18, pm18, an18, cd18, ct18, sl18, rfl, l18, c18⟩, k18⟩ := F18
  obtain ⟨⟨oc19, od19, kV19, dc19, pm19, an19, cd19, ct19, sl19, rfl, l19, c19⟩, k19⟩ := F19
  obtain ⟨⟨oc20, od20, kV20, dc20, pm20, an20, cd20, ct20, sl20, rfl, l20, c20⟩, k20⟩ := F20
  obtain ⟨⟨oc21, od21, kV21, dc21, pm21, an21, cd21, ct21, sl21, rfl, l21, c21⟩, k21⟩ := F21
  obtain ⟨⟨oc22, od22, kV22, dc22, pm22, an22, cd22, ct22, sl22, rfl, l22, c22⟩, k22⟩ := F22
  obtain ⟨⟨oc23, od23, kV23, dc23, pm23, an23, cd23, ct23, sl23, rfl, l23, c23⟩, k23⟩ := F23
  obtain ⟨⟨oc24, od24, kV24, dc24, pm24, an24, cd24, ct24, sl24, rfl, l24, c24⟩, k24⟩ := F24
  obtain ⟨⟨oc25, od25, kV25, dc25, pm25, an25, cd25, ct25, sl25, rfl, l25, c25⟩, k25⟩ := F25
  obtain ⟨⟨oc26, od26, kV26, dc26, pm26, an26, cd26, ct26, sl26, rfl, l26, c26⟩, k26⟩ := F26
  obtain ⟨⟨oc27, od27, kV27, dc27, pm27, an27, cd27, ct27, sl27, rfl, l27, c27⟩, k27⟩ := F27
  obtain ⟨⟨oc28, od28, kV28, dc28, pm28, an28, cd28, ct28, sl28, rfl, l28, c28⟩, k28⟩ := F28
  obtain ⟨⟨oc29, od29, kV29, dc29, pm29, an29, cd29, ct29, sl29, rfl, l29, c29⟩, k29⟩ := F29
  obtain ⟨⟨oc30, od30, kV30, dc30, pm30, an30, cd30, ct30, sl30, rfl, l30, c30⟩, k30⟩ := F30
  obtain ⟨⟨oc31, od31, kV31, dc31, pm31, an31, cd31, ct31, sl31, rfl, l31, c31⟩, k31⟩ := F31
  obtain ⟨⟨oc32, od32, kV32, dc32, pm32, an32, cd32, ct32, sl32, rfl, l32, c32⟩, k32⟩ := F32
  obtain ⟨⟨oc33, od33, kV33, dc33, pm33, an33, cd33, ct33, sl33, rfl, l33, c33⟩, k33⟩ := F33
  obtain ⟨⟨oc34, od34, kV34, dc34, pm34, an34, cd34, ct34, sl34, rfl, l34, c34⟩, k34⟩ := F34
  obtain ⟨⟨oc35, od35, kV35, dc35, pm35, an35, cd35, ct35, sl35, rfl, l35, c35⟩, k35⟩ := F35
  obtain ⟨⟨oc36, od36, kV36, dc36, pm36, an36, cd36, ct36, sl36, rfl, l36, c36⟩, k36⟩ := F36
  obtain ⟨⟨oc37, od37, kV37, dc37, pm37, an37, cd37, ct37, sl37, rfl, l37, c37⟩, k37⟩ := F37
  obtain ⟨⟨oc38, od38, kV38, dc38, pm38, an38, cd38, ct38, sl38, rfl, l38, c38⟩, k38⟩ := F38
  obtain ⟨⟨oc39, od39, kV39, dc39, pm39, an39, cd39, ct39, sl39, rfl, l39, c39⟩, k39⟩ := F39
  obtain ⟨⟨oc40, od40, kV40, dc40, pm40, an40, cd40, ct40, sl40, rfl, l40, c40⟩, k40⟩ := F40
  obtain ⟨⟨oc41, od41, kV41, dc41, pm41, an41, cd41, ct41, sl41, rfl, l41, c41⟩, k41⟩ := F41
  obtain ⟨⟨oc42, od42, kV42, dc42, pm42, an42, cd42, ct42, sl42, rfl, l42, c42⟩, k42⟩ := F42
  obtain ⟨⟨oc43, od43, kV43, dc43, pm43, an43, cd43, ct43, sl43, rfl, l43, c43⟩, k43⟩ := F43
  obtain ⟨⟨oc44, od44, kV44, dc44, pm44, an44, cd44, ct44, sl44, rfl, l44, c44⟩, k44⟩ := F44
  obtain ⟨⟨oc45, od45, kV45, dc45, pm45, an45, cd45, ct45, sl45, rfl, l45, c45⟩, k45⟩ := F45
  obtain ⟨⟨oc46, od46, kV46, dc46, pm46, an46, cd46, ct46, sl46, rfl, l46, c46⟩, k46⟩ := F46
  obtain ⟨⟨oc47, od47, kV47, dc47, pm47, an47, cd47, ct47, sl47, rfl, l47, c47⟩, k47⟩ := F47
  obtain ⟨⟨oc48, od48, kV48, dc48, pm48, an48, cd48, ct48, sl48, rfl, l48, c48⟩, k48⟩ := F48
  obtain ⟨⟨oc49, od49, kV49, dc49, pm49, an49, cd49, ct49, sl49, rfl, l49, c49⟩, k49⟩ := F49
  obtain ⟨⟨oc50, od50, kV50, dc50, pm50, an50, cd50, ct50, sl50, rfl, l50, c50⟩, k50⟩ := F50
  have T : Bt mg := ⟨PySem.W.mg_none_of X G z_len, PySem.W.mg_none_of X G z_int, PySem.W.mg_none_of X G z_abs, PySem.W.mg_none_of X G z_max, PySem.W.mg_none_of X G z_min, PySem.W.mg_none_of X G z_range, PySem.W.mg_none_of X G z_isinstance, PySem.W.mg_none_of X G z_list, PySem.W.mg_none_of X G z_tuple, PySem.W.mg_none_of X G z_str, PySem.W.mg_none_of X G z_bool, PySem.W.mg_none_of X G z_ord, PySem.W.mg_none_of X G z_all, PySem.W.mg_none_of X G z_enumerate, PySem.W.mg_none_of X G z_zip⟩
  have zsorted : mg "sorted" = none := PySem.W.mg_none_of X G z_sorted
  have zset : mg "set" = none := PySem.W.mg_none_of X G z_set
  have zdict : mg "dict" = none := PySem.W.mg_none_of X G z_dict
  have zreversed : mg "reversed" = none := PySem.W.mg_none_of X G z_reversed
  have K_Cm : ClsF K Cm := ⟨⟨pgCm, hdCm, poCm, saCm⟩, haCm, objhn, objht, hmCm⟩
  have K_Cb : ClsF K Cb := ⟨⟨pgCb, hdCb, poCb, saCb⟩, haCb, objhn, objht, hmCb⟩
  have K_Cr : ClsF K Cr := ⟨⟨pgCr, hdCr, poCr, saCr⟩, haCr, objhn, objht, hmCr⟩
  have KX : Kx K mg ⟨Cm, Cm, Cm⟩ := ⟨K_Cm, K_Cm, K_Cm, PySem.W.mg_of X G mCm, trivial, trivial, nCm_number, nCm_factors, nCm_low, nCm_shift, nCm_lead, nCm_marking, nCm_modulus, nCm_number, nCm_base⟩
  have KB : KBs K mg Cb Cr := ⟨K_Cb, PySem.W.mg_of X G mCb, nCb_modulus, nCb_figures, nCb_rows, nCb_root, nCb_size, kit_no rfl icCr tyCr nr_list, kit_no rfl icCr tyCr nr_tuple⟩
  have KR : KRw K mg Cr := ⟨K_Cr, PySem.W.mg_of X G mCr, nCr_rows, nCr_root⟩
  have nmi := kit_noT30 (n := "int") (by decide +kernel) nm_int
  have nmb := kit_noT30 (n := "bool") (by decide +kernel) nm_bool
  obtain ⟨tN, gN⟩ := gNONE
  obtain ⟨tE, gE⟩ := gEVERY
  have zNONE : mg "NONE" = some (.int 0 tN) := PySem.W.mg_of X G gN
  have zEVERY : mg "EVERY" = some (.int 1 tE) := PySem.W.mg_of X G gE
  have zEITHER : mg "EITHER" = some (.ref aE) := PySem.W.mg_of X G maE
  have F_isint : Dn K mg "is_integer" s_isint ["thing"] := ⟨f1, _, fun_mk (st := s_isint) l1 c1 k1, PySem.W.mg_of X G a1, (fun_mk (st := s_isint) l1 c1 k1).binds (ps := ["thing"]) fun _ _ _ _ _ _ us hl => (by obtain ⟨_, rfl⟩ := lenL1 hl; exact rfl)⟩
  have F_raised : Dn K mg "raised" s_raised ["factor", "power"] := ⟨f2, _, fun_mk (st := s_raised) l2 c2 k2, PySem.W.mg_of X G a2, (fun_mk (st := s_raised) l2 c2 k2).binds (ps := ["factor", "power"]) fun _ _ _ _ _ _ us hl => (by obtain ⟨_, _, rfl⟩ := lenL2 hl; exact rfl)⟩
  have F_gcd : Dn K mg "common_divisor" s_gcd ["one", "other"] := ⟨f3, _, fun_mk (st := s_gcd) l3 c3 k3, PySem.W.mg_of X G a3, (fun_mk (st := s_gcd) l3 c3 k3).binds (ps := ["one", "other"]) fun _ _ _ _ _ _ us hl => (by obtain ⟨_, _, rfl⟩ := lenL2 hl; exact rfl)⟩
  have F_prime : Dn K mg "is_prime_number" s_prime ["number"] := ⟨f4, _, fun_mk (st := s_prime) l4 c4 k4, PySem.W.mg_of X G a4, (fun_mk (st := s_prime) l4 c4 k4).binds (ps := ["number"]) fun _ _ _ _ _ _ us hl => (by obtain ⟨_, rfl⟩ := lenL1 hl; exact rfl)⟩
  have F_isfac : Dn K mg "is_factor" s_isfac ["thing", "least"] := ⟨f5, _, fun_mk (st := s_isfac) l5 c5 k5, PySem.W.mg_of X G a5, (fun_mk (st := s_isfac) l5 c5 k5).binds (ps := ["thing", "least"]) fun _ _ _ _ _ _ us hl => (by obtain ⟨_, _, rfl⟩ := lenL2 hl; exact rfl)⟩
  have F_reqmod : Dn K mg "require_modulus" s_reqmod ["modulus"] := ⟨f6, _, fun_mk (st := s_reqmod) l6 c6 k6, PySem.W.mg_of X G a6, (fun_mk (st := s_reqmod) l6 c6 k6).binds (ps := ["modulus"]) fun _ _ _ _ _ _ us hl => (by obtain ⟨_, rfl⟩ := lenL1 hl; exact rfl)⟩
  have F_mixed : Dn K mg "_law_mixed" s_mixed ["_law_cell", "_law_k"] := ⟨f7, _, fun_mk (st := s_mixed) l7 c7 k7, PySem.W.mg_of X G a7, (fun_mk (st := s_mixed) l7 c7 k7).binds (ps := ["_law_cell", "_law_k"]) fun _ _ _ _ _ _ us hl => (by obtain ⟨_, _, rfl⟩ := lenL2 hl; exact rfl)⟩
  have F_purse : Dn K mg "_law_purse" s_purse ["_law_cells", "_law_at"] := ⟨f8, _, fun_mk (st := s_purse) l8 c8 k8, PySem.W.mg_of X G a8, (fun_mk (st := s_purse) l8 c8 k8).binds (ps := ["_law_cells", "_law_at"]) fun _ _ _ _ _ _ us hl => (by obtain ⟨_, _, rfl⟩ := lenL2 hl; exact rfl)⟩
  have F_draw : Dn K mg "_law_draw" s_draw ["_law_purse_here", "_law_out_of"] := ⟨f9, _, fun_mk (st := s_draw) l9 c9 k9, PySem.W.mg_of X G a9, (fun_mk (st := s_draw) l9 c9 k9).binds (ps := ["_law_purse_here", "_law_out_of"]) fun _ _ _ _ _ _ us hl => (by obtain ⟨_, _, rfl⟩ := lenL2 hl; exact rfl)⟩
  have F_belowat : Dn K mg "below_at" s_belowat ["rows", "number", "place", "figure"] := ⟨f10, _, fun_mk (st := s_belowat) l10 c10 k10, PySem.W.mg_of X G a10, (fun_mk (st := s_belowat) l10 c10 k10).binds (ps := ["rows", "number", "place", "figure"]) fun _ _ _ _ _ _ us hl => (by obtain ⟨_, _, _, _, rfl⟩ := lenL4 hl; exact rfl)⟩
  have F_countb : Dn K mg "count_below" s_countb ["signed", "number"] := ⟨f11, _, fun_mk (st := s_countb) l11 c11 k11, PySem.W.mg_of X G a11, (fun_mk (st := s_countb) l11 c11 k11).binds (ps := ["signed", "number"]) fun _ _ _ _ _ _ us hl => (by obtain ⟨_, _, rfl⟩ := lenL2 hl; exact rfl)⟩
  have F_memat : Dn K mg "member_at" s_memat ["signed", "number", "order"] := ⟨f12, _, fun_mk (st := s_memat) l12 c12 k12, PySem.W.mg_of X G a12, (fun_mk (st := s_memat) l12 c12 k12).binds (ps := ["signed", "number", "order"]) fun _ _ _ _ _ _ us hl => (by obtain ⟨_, _, _, rfl⟩ := lenL3 hl; exact rfl)⟩
  have F_holds : Dn K mg "holds" s_holds ["figures", "rows", "root", "base"] := ⟨f13, _, fun_mk (st := s_holds) l13 c13 k13, PySem.W.mg_of X G a13, (fun_mk (st := s_holds) l13 c13 k13).binds (ps := ["figures", "rows", "root", "base"]) fun _ _ _ _ _ _ us hl => (by obtain ⟨_, _, _, _, rfl⟩ := lenL4 hl; exact rfl)⟩
  have F_spread : Dn K mg "spread" s_spread ["figures", "first", "last"] := ⟨f14, _, fun_mk (st := s_spread) l14 c14 k14, PySem.W.mg_of X G a14, (fun_mk (st := s_spread) l14 c14 k14).binds (ps := ["figures", "first", "last"]) fun _ _ _ _ _ _ us hl => (by obtain ⟨_, _, _, rfl⟩ := lenL3 hl; exact rfl)⟩
  have F_sizeof : Dn K mg "size_of" s_sizeof ["figures", "rows", "root"] := ⟨f15, _, fun_mk (st := s_sizeof) l15 c15 k15, PySem.W.mg_of X G a15, (fun_mk (st := s_sizeof) l15 c15 k15).binds (ps := ["figures", "rows", "root"]) fun _ _ _ _ _ _ us hl => (by obtain ⟨_, _, _, rfl⟩ := lenL3 hl; exact rfl)⟩
  have F_firstrows : Dn K mg "first_rows" s_firstrows ["figures"] := ⟨f16, _, fun_mk (st := s_firstrows) l16 c16 k16, PySem.W.mg_of X G a16, (fun_mk (st := s_firstrows) l16 c16 k16).binds (ps := ["figures"]) fun _ _ _ _ _ _ us hl => (by obtain ⟨_, rfl⟩ := lenL1 hl; exact rfl)⟩
  have F_figuresof : Dn K mg "figures_of" s_figuresof ["modulus"] := ⟨f17, _, fun_mk (st := s_figuresof) l17 c17 k17, PySem.W.mg_of X G a17, (fun_mk (st := s_figuresof) l17 c17 k17).binds (ps := ["modulus"]) fun _ _ _ _ _ _ us hl => (by obtain ⟨_, rfl⟩ := lenL1 hl; exact rfl)⟩
  have F_figsat : Dn K mg "figures_at" s_figsat ["rows", "number", "place"] := ⟨f18, _, fun_mk (st := s_figsat) l18 c18 k18, PySem.W.mg_of X G a18, (fun_mk (st := s_figsat) l18 c18 k18).binds (ps := ["rows", "number", "place"]) fun _ _ _ _ _ _ us hl => (by obtain ⟨_, _, _, rfl⟩ := lenL3 hl; exact rfl)⟩
  have F_pairsbelow : Dn K mg "pairs_below" s_pairsbelow ["one", "other", "here", "there"] := ⟨f19, _, fun_mk (st := s_pairsbelow) l19 c19 k19, PySem.W.mg_of X G a19, (fun_mk (st := s_pairsbelow) l19 c19 k19).binds (ps := ["one", "other", "here", "there"]) fun _ _ _ _ _ _ us hl => (by obtain ⟨_, _, _, _, rfl⟩ := lenL4 hl; exact rfl)⟩
  have F_metpairs : Dn K mg "met_pairs" s_metpairs ["one", "first", "other", "second"] := ⟨f20, _, fun_mk (st := s_metpairs) l20 c20 k20, PySem.W.mg_of X G a20, (fun_mk (st := s_metpairs) l20 c20 k20).binds (ps := ["one", "first", "other", "second"]) fun _ _ _ _ _ _ us hl => (by obtain ⟨_, _, _, _, rfl⟩ := lenL4 hl; exact rfl)⟩
  have F_usual : Dn K mg "usual" s_usual ["prime", "children", "rest"] := ⟨f21, _, fun_mk (st := s_usual) l21 c21 k21, PySem.W.mg_of X G a21, (fun_mk (st := s_usual) l21 c21 k21).binds (ps := ["prime", "children", "rest"]) fun _ _ _ _ _ _ us hl => (by obtain ⟨_, _, _, rfl⟩ := lenL3 hl; exact rfl)⟩
  have F_maderow : Dn K mg "made_row" s_maderow ["prime", "place", "children", "rest"] := ⟨f22, _, fun_mk (st := s_maderow) l22 c22 k22, PySem.W.mg_of X G a22, (fun_mk (st := s_maderow) l22 c22 k22).binds (ps := ["prime", "place", "children", "rest"]) fun _ _ _ _ _ _ us hl => (by obtain ⟨_, _, _, _, rfl⟩ := lenL4 hl; exact rfl)⟩
  have F_rowat : Dn K mg "row_at" s_rowat ["prime", "place", "one", "other", "pair", "numbers"] := ⟨f23, _, fun_mk (st := s_rowat) l23 c23 k23, PySem.W.mg_of X G a23, (fun_mk (st := s_rowat) l23 c23 k23).binds (ps := ["prime", "place", "one", "other", "pair", "numbers"]) fun _ _ _ _ _ _ us hl => (by obtain ⟨_, _, _, _, _, _, rfl⟩ := lenL6 hl; exact rfl)⟩
  have F_settled : Dn K mg "settled" s_settled ["rows", "root"] := ⟨f24, _, fun_mk (st := s_settled) l24 c24 k24, PySem.W.mg_of X G a24, (fun_mk (st := s_settled) l24 c24 k24).binds (ps := ["rows", "root"]) fun _ _ _ _ _ _ us hl => (by obtain ⟨_, _, rfl⟩ := lenL2 hl; exact rfl)⟩
  have F_classrows : Dn K mg "class_rows" s_classrows ["figures", "rest", "wide"] := ⟨f25, _, fun_mk (st := s_classrows) l25 c25 k25, PySem.W.mg_of X G a25, (fun_mk (st := s_classrows) l25 c25 k25).binds (ps := ["figures", "rest", "wide"]) fun _ _ _ _ _ _ us hl => (by obtain ⟨_, _, _, rfl⟩ := lenL3 hl; exact rfl)⟩
  have F_together : Dn K mg "together" s_together ["figures", "one", "first", "other", "second", "table"] := ⟨f26, _, fun_mk (st := s_together) l26 c26 k26, PySem.W.mg_of X G a26, (fun_mk (st := s_together) l26 c26 k26).binds (ps := ["figures", "one", "first", "other", "second", "table"]) fun _ _ _ _ _ _ us hl => (by obtain ⟨_, _, _, _, _, _, rfl⟩ := lenL6 hl; exact rfl)⟩
  have F_iscls : Dn K mg "is_class" s_iscls ["thing", "number"] := ⟨f27, _, fun_mk (st := s_iscls) l27 c27 k27, PySem.W.mg_of X G a27, (fun_mk (st := s_iscls) l27 c27 k27).binds (ps := ["thing", "number"]) fun _ _ _ _ _ _ us hl => (by obtain ⟨_, _, rfl⟩ := lenL2 hl; exact rfl)⟩
  have F_reqcls : Dn K mg "require_classes" s_reqcls ["thing", "number"] := ⟨f28, _, fun_mk (st := s_reqcls) l28 c28 k28, PySem.W.mg_of X G a28, (fun_mk (st := s_reqcls) l28 c28 k28).binds (ps := ["thing", "number"]) fun _ _ _ _ _ _ us hl => (by obtain ⟨_, _, rfl⟩ := lenL2 hl; exact rfl)⟩
  have F_merged : Dn K mg "merged_rows" s_merged ["figures", "classes"] := ⟨f29, _, fun_mk (st := s_merged) l29 c29 k29, PySem.W.mg_of X G a29, (fun_mk (st := s_merged) l29 c29 k29).binds (ps := ["figures", "classes"]) fun _ _ _ _ _ _ us hl => (by obtain ⟨_, _, rfl⟩ := lenL2 hl; exact rfl)⟩
  have F_inverse : Dn K mg "inverse" s_inverse ["unit", "number"] := ⟨f30, _, fun_mk (st := s_inverse) l30 c30 k30, PySem.W.mg_of X G a30, (fun_mk (st := s_inverse) l30 c30 k30).binds (ps := ["unit", "number"]) fun _ _ _ _ _ _ us hl => (by obtain ⟨_, _, rfl⟩ := lenL2 hl; exact rfl)⟩
  have F_led : Dn K mg "led_together" s_led ["rest", "number", "other_rest", "other_number"] := ⟨f31, _, fun_mk (st := s_led) l31 c31 k31, PySem.W.mg_of X G a31, (fun_mk (st := s_led) l31 c31 k31).binds (ps := ["rest", "number", "other_rest", "other_number"]) fun _ _ _ _ _ _ us hl => (by obtain ⟨_, _, _, _, rfl⟩ := lenL4 hl; exact rfl)⟩
  have F_withfig : Dn K mg "with_figure" s_withfig ["rest", "wide", "figures", "place", "figure"] := ⟨f32, _, fun_mk (st := s_withfig) l32 c32 k32, PySem.W.mg_of X G a32, (fun_mk (st := s_withfig) l32 c32 k32).binds (ps := ["rest", "wide", "figures", "place", "figure"]) fun _ _ _ _ _ _ us hl => (by obtain ⟨_, _, _, _, _, rfl⟩ := lenL5 hl; exact rfl)⟩
  have F_withall : Dn K mg "with_all_figures" s_withall ["figures", "rows", "number", "place", "rest", "wide"] := ⟨f33, _, fun_mk (st := s_withall) l33 c33 k33, PySem.W.mg_of X G a33, (fun_mk (st := s_withall) l33 c33 k33).binds (ps := ["figures", "rows", "number", "place", "rest", "wide"]) fun _ _ _ _ _ _ us hl => (by obtain ⟨_, _, _, _, _, _, rfl⟩ := lenL6 hl; exact rfl)⟩
  have F_byeach : Dn K mg "by_each_figure" s_byeach ["figures", "rows", "number", "rest", "wide"] := ⟨f34, _, fun_mk (st := s_byeach) l34 c34 k34, PySem.W.mg_of X G a34, (fun_mk (st := s_byeach) l34 c34 k34).binds (ps := ["figures", "rows", "number", "rest", "wide"]) fun _ _ _ _ _ _ us hl => (by obtain ⟨_, _, _, _, _, rfl⟩ := lenL5 hl; exact rfl)⟩
  have F_sigcls : Dn K mg "signed_classes" s_sigcls ["figures", "rows", "number", "place", "rest", "wide"] := ⟨f35, _, fun_mk (st := s_sigcls) l35 c35 k35, PySem.W.mg_of X G a35, (fun_mk (st := s_sigcls) l35 c35 k35).binds (ps := ["figures", "rows", "number", "place", "rest", "wide"]) fun _ _ _ _ _ _ us hl => (by obtain ⟨_, _, _, _, _, _, rfl⟩ := lenL6 hl; exact rfl)⟩
  have F_balls : Dn K mg "_law_balls" s_balls ["_law_purse_here", "_law_pairs", "_law_most"] := ⟨f36, _, fun_mk (st := s_balls) l36 c36 k36, PySem.W.mg_of X G a36, (fun_mk (st := s_balls) l36 c36 k36).binds (ps := ["_law_purse_here", "_law_pairs", "_law_most"]) fun _ _ _ _ _ _ us hl => (by obtain ⟨_, _, _, rfl⟩ := lenL3 hl; exact rfl)⟩
  have F_membs : Dn K mg "_law_members" s_membs ["_law_balls_here", "_law_size_here"] := ⟨f37, _, fun_mk (st := s_membs) l37 c37 k37, PySem.W.mg_of X G a37, (fun_mk (st := s_membs) l37 c37 k37).binds (ps := ["_law_balls_here", "_law_size_here"]) fun _ _ _ _ _ _ us hl => (by obtain ⟨_, _, rfl⟩ := lenL2 hl; exact rfl)⟩
  have F_ordr : Dn K mg "_law_order_right" s_ordr ["_law_purse_here", "_law_made", "_law_members_here", "_law_size_here"] := ⟨f38, _, fun_mk (st := s_ordr) l38 c38 k38, PySem.W.mg_of X G a38, (fun_mk (st := s_ordr) l38 c38 k38).binds (ps := ["_law_purse_here", "_law_made", "_law_members_here", "_law_size_here"]) fun _ _ _ _ _ _ us hl => (by obtain ⟨_, _, _, _, rfl⟩ := lenL4 hl; exact rfl)⟩
  have F_right : Dn K mg "_law_right" s_right ["_law_purse_here"] := ⟨f39, _, fun_mk (st := s_right) l39 c39 k39, PySem.W.mg_of X G a39, (fun_mk (st := s_right) l39 c39 k39).binds (ps := ["_law_purse_here"]) fun _ _ _ _ _ _ us hl => (by obtain ⟨_, rfl⟩ := lenL1 hl; exact rfl)⟩
  have F_modinit : FunD K "__init__" "Modulus.__init__" (defArgs s_modinit) (defBody s_modinit) (defScope s_modinit) [] [] f40 _ := ⟨⟨oc40, od40, .none, kV40, dc40, pm40, an40, cd40, ct40, sl40, rfl, l40, c40, .inl ⟨rfl, rfl⟩, .inl rfl⟩, k40⟩
  have B_modinit := F_modinit.bindsN (ps := ["self", "factors"]) fun _ _ _ _ _ _ us hl => (by obtain ⟨_, _, rfl⟩ := lenL2 hl; exact rfl)
  have F_eqmd : FunD K "__eq__" "Modulus.__eq__" (defArgs s_eqmd) (defBody s_eqmd) (defScope s_eqmd) [] [] f41 _ := ⟨⟨oc41, od41, .none, kV41, dc41, pm41, an41, cd41, ct41, sl41, rfl, l41, c41, .inl ⟨rfl, rfl⟩, .inl rfl⟩, k41⟩
  have B_eqmd := F_eqmd.bindsN (ps := ["self", "other"]) fun _ _ _ _ _ _ us hl => (by obtain ⟨_, _, rfl⟩ := lenL2 hl; exact rfl)
  have F_rwinit : FunD K "__init__" "Rows.__init__" (defArgs s_rwinit) (defBody s_rwinit) (defScope s_rwinit) [] [] f42 _ := ⟨⟨oc42, od42, .none, kV42, dc42, pm42, an42, cd42, ct42, sl42, rfl, l42, c42, .inl ⟨rfl, rfl⟩, .inl rfl⟩, k42⟩
  have B_rwinit := F_rwinit.bindsN (ps := ["self", "rows", "root"]) fun _ _ _ _ _ _ us hl => (by obtain ⟨_, _, _, rfl⟩ := lenL3 hl; exact rfl)
  have F_bsinit : FunD K "__init__" "Bases.__init__" (defArgs s_bsinit) (defBody s_bsinit) (defScope s_bsinit) [] [] f43 _ := ⟨⟨oc43, od43, .none, kV43, dc43, pm43, an43, cd43, ct43, sl43, rfl, l43, c43, .inl ⟨rfl, rfl⟩, .inl rfl⟩, k43⟩
  have B_bsinit := F_bsinit.bindsN (ps := ["self", "modulus", "classes"]) fun _ _ _ _ _ _ us hl => (by obtain ⟨_, _, _, rfl⟩ := lenL3 hl; exact rfl)
  have F_bssig : FunD K "signed" "Bases.signed" (defArgs s_bssig) (defBody s_bssig) (defScope s_bssig) [] [] f44 _ := ⟨⟨oc44, od44, .none, kV44, dc44, pm44, an44, cd44, ct44, sl44, rfl, l44, c44, .inl ⟨rfl, rfl⟩, .inl rfl⟩, k44⟩
  have B_bssig := F_bssig.bindsN (ps := ["self"]) fun _ _ _ _ _ _ us hl => (by obtain ⟨_, rfl⟩ := lenL1 hl; exact rfl)
  have F_bsbelow : FunD K "below" "Bases.below" (defArgs s_bsbelow) (defBody s_bsbelow) (defScope s_bsbelow) [] [] f45 _ := ⟨⟨oc45, od45, .none, kV45, dc45, pm45, an45, cd45, ct45, sl45, rfl, l45, c45, .inl ⟨rfl, rfl⟩, .inl rfl⟩, k45⟩
  have B_bsbelow := F_bsbelow.bindsN (ps := ["self", "number"]) fun _ _ _ _ _ _ us hl => (by obtain ⟨_, _, rfl⟩ := lenL2 hl; exact rfl)
  have F_bsnth : FunD K "nth" "Bases.nth" (defArgs s_bsnth) (defBody s_bsnth) (defScope s_bsnth) [] [] f46 _ := ⟨⟨oc46, od46, .none, kV46, dc46, pm46, an46, cd46, ct46, sl46, rfl, l46, c46, .inl ⟨rfl, rfl⟩, .inl rfl⟩, k46⟩
  have B_bsnth := F_bsnth.bindsN (ps := ["self", "number"]) fun _ _ _ _ _ _ us hl => (by obtain ⟨_, _, rfl⟩ := lenL2 hl; exact rfl)
  have F_bsfrm : FunD K "first_from" "Bases.first_from" (defArgs s_bsfrm) (defBody s_bsfrm) (defScope s_bsfrm) [] [] f47 _ := ⟨⟨oc47, od47, .none, kV47, dc47, pm47, an47, cd47, ct47, sl47, rfl, l47, c47, .inl ⟨rfl, rfl⟩, .inl rfl⟩, k47⟩
  have B_bsfrm := F_bsfrm.bindsN (ps := ["self", "number"]) fun _ _ _ _ _ _ us hl => (by obtain ⟨_, _, rfl⟩ := lenL2 hl; exact rfl)
  have F_bshas : FunD K "__contains__" "Bases.__contains__" (defArgs s_bshas) (defBody s_bshas) (defScope s_bshas) [] [] f48 _ := ⟨⟨oc48, od48, .none, kV48, dc48, pm48, an48, cd48, ct48, sl48, rfl, l48, c48, .inl ⟨rfl, rfl⟩, .inl rfl⟩, k48⟩
  have B_bshas := F_bshas.bindsN (ps := ["self", "base"]) fun _ _ _ _ _ _ us hl => (by obtain ⟨_, _, rfl⟩ := lenL2 hl; exact rfl)
  have F_eqbs : FunD K "__eq__" "Bases.__eq__" (defArgs s_eqbs) (defBody s_eqbs) (defScope s_eqbs) [] [] f49 _ := ⟨⟨oc49, od49, .none, kV49, dc49, pm49, an49, cd49, ct49, sl49, rfl, l49, c49, .inl ⟨rfl, rfl⟩, .inl rfl⟩, k49⟩
  have B_eqbs := F_eqbs.bindsN (ps := ["self", "other"]) fun _ _ _ _ _ _ us hl => (by obtain ⟨_, _, rfl⟩ := lenL2 hl; exact rfl)
  refine ⟨PySem.W.fnOf "law" "law" (defArgs s_law) (defBody s_law) (defScope s_law) .none kV50 dc50 pm50 an50 cd50 ct50, fun s v => .of_eq rfl, fun base _ _ => ?_⟩
  have c_isint := ok_isint (P := l.prog) (w := w) (K := K) (mg := mg) (base := base) F_isint T
  have c_raised := ok_raised (P := l.prog) (w := w) (K := K) (mg := mg) (base := base) F_raised T
  have c_gcd := ok_gcd (P := l.prog) (w := w) (K := K) (mg := mg) (base := base) F_gcd T
  have c_prime := ok_prime (P := l.prog) (w := w) (K := K) (mg := mg) (base := base) F_prime T
  have c_isfac := ok_isfac F_isfac T c_isint c_prime
  have g_modinit := ok_modinit (c := ⟨Cm, Cm, Cm⟩) F_modinit T KX c_isfac c_raised
  have c_modinit : C8.Mak l.prog w K mg base 3 "Modulus" Cm (spModInit ⟨Cm, Cm, Cm⟩) [] := ⟨f40, _, _, _, ⟨mkCm, a40, i40, kcCm⟩, g_modinit, PySem.W.mg_of X G mCm, B_modinit, .nil⟩
  have c_reqmod := ok_reqmod (P := l.prog) (w := w) (K := K) (mg := mg) (base := base) (c := ⟨Cm, Cm, Cm⟩) F_reqmod T KX
  have c_mixed := ok_mixed (P := l.prog) (w := w) (K := K) (mg := mg) (base := base) F_mixed T
  have c_purse := ok_purse (P := l.prog) (w := w) (K := K) (mg := mg) (base := base) F_purse T
  have c_draw := ok_draw F_draw T c_mixed
  have c_belowat := ok_belowat (P := l.prog) (w := w) (K := K) (mg := mg) (base := base) F_belowat T
  have c_countb := ok_countb (P := l.prog) (w := w) (K := K) (mg := mg) (base := base) F_countb T
  have c_memat := ok_memat F_memat T c_countb
  have c_holds := ok_holds F_holds T zNONE zEVERY c_belowat
  have c_spread := ok_spread (P := l.prog) (w := w) (K := K) (mg := mg) (base := base) F_spread T
  have c_sizeof := ok_sizeof F_sizeof T zNONE zEVERY c_spread
  have c_firstrows := ok_firstrows (P := l.prog) (w := w) (K := K) (mg := mg) (base := base) F_firstrows T zNONE zEVERY
  have c_figuresof := ok_figuresof (c := ⟨Cm, Cm, Cm⟩) F_figuresof T KX c_raised
  have c_figsat := ok_figsat (P := l.prog) (w := w) (K := K) (mg := mg) (base := base) F_figsat T
  have c_pairsbelow := ok_pairsbelow F_pairsbelow T zNONE zEVERY c_belowat c_figsat
  have c_metpairs := ok_metpairs F_metpairs T c_pairsbelow
  have c_usual := ok_usual (P := l.prog) (w := w) (K := K) (mg := mg) (base := base) F_usual T zsorted
  have c_maderow := ok_maderow F_maderow T zsorted zdict c_usual
  have c_rowat := ok_rowat F_rowat T zNONE c_pairsbelow c_maderow
  have c_settled := ok_settled (P := l.prog) (w := w) (K := K) (mg := mg) (base := base) F_settled T zNONE zEVERY
  have c_classrows := ok_classrows F_classrows T zNONE zEVERY zreversed zdict c_maderow c_settled
  have c_together := ok_together F_together T zNONE zEVERY zreversed c_metpairs c_rowat c_settled
  have g_rwinit := ok_rwinit (P := l.prog) (w := w) (mg := mg) (base := base) F_rwinit T KR
  have c_rwinit : C8.Mak l.prog w K mg base 1 "Rows" Cr (spRwInit Cr) [] := ⟨f42, _, _, _, ⟨mkCr, a42, i42, kcCr⟩, g_rwinit, PySem.W.mg_of X G mCr, B_rwinit, .nil⟩
  have c_iscls := ok_iscls F_iscls T c_isint
  have c_reqcls := ok_reqcls F_reqcls T c_iscls
  have c_merged := ok_merged (tE := tE) F_merged T KR zNONE zEITHER haE c_firstrows c_settled c_classrows c_together c_rwinit
  have c_inverse := ok_inverse (P := l.prog) (w := w) (K := K) (mg := mg) (base := base) F_inverse T
  have c_led := ok_led F_led T c_gcd c_inverse
  have c_withfig := ok_withfig F_withfig T c_led
  have c_sigcls : C8.Cal l.prog w K mg base 130 "signed_classes" (spSigN 60) [] := ok_sigall F_sigcls T zNONE zEVERY c_withfig (fun n L hL c => ok_withall hL F_withall T c_withfig c) (fun n L hL c => ok_byeach hL F_byeach T zdict c_withfig c) 60
  have g_eqmd := ok_eqmd (P := l.prog) (w := w) (mg := mg) (base := base) (c := ⟨Cm, Cm, Cm⟩) F_eqmd T KX
  have q_eqmd : EqO l.prog w K mg base 1 Cm (spEqMd K ⟨Cm, Cm, Cm⟩) := ⟨f41, _, _, a41, i41, neCm, hmCm, g_eqmd, B_eqmd⟩
  have g_bssig := ok_bssig (c := ⟨Cm, Cm, Cm⟩) (Cb := Cb) (Cr := Cr) F_bssig T KB c_sigcls
  have c_bssig : C8.Met l.prog w K mg base 131 Cb "signed" (spSigd ⟨Cm, Cm, Cm⟩ Cb) [] := ⟨f44, _, _, [], KB.cl.cl, ⟨a44, i44, k44⟩, g_bssig, B_bssig, .nil⟩
  have g_bsbelow := ok_bsbelow (c := ⟨Cm, Cm, Cm⟩) (Cb := Cb) (Cr := Cr) F_bsbelow T KB c_isint c_countb c_bssig
  have c_bsbelow : C8.Met l.prog w K mg base 132 Cb "below" (spBelw ⟨Cm, Cm, Cm⟩ Cb) [] := ⟨f45, _, _, [], KB.cl.cl, ⟨a45, i45, k45⟩, g_bsbelow, B_bsbelow, .nil⟩
  have g_bsnth := ok_bsnth (c := ⟨Cm, Cm, Cm⟩) (Cb := Cb) (Cr := Cr) F_bsnth T KB KX c_isint c_memat c_bssig
  have c_bsnth : C8.Met l.prog w K mg base 132 Cb "nth" (spNth ⟨Cm, Cm, Cm⟩ Cb) [] := ⟨f46, _, _, [], KB.cl.cl, ⟨a46, i46, k46⟩, g_bsnth, B_bsnth, .nil⟩
  have g_bsfrm := ok_bsfrm (c := ⟨Cm, Cm, Cm⟩) (Cb := Cb) (Cr := Cr) F_bsfrm T KB KX c_isint c_countb c_memat c_bssig
  have c_bsfrm : C8.Met l.prog w K mg base 132 Cb "first_from" (spFrm ⟨Cm, Cm, Cm⟩ Cb) [] := ⟨f47, _, _, [], KB.cl.cl, ⟨a47, i47, k47⟩, g_bsfrm, B_bsfrm, .nil⟩
  have g_bshas := ok_bshas (c := ⟨Cm, Cm, Cm⟩) (Cb := Cb) (Cr := Cr) F_bshas T KB c_isint c_holds
  have i_eqbs : InO l.prog w K mg base 3 Cb (spHas K ⟨Cm, Cm, Cm⟩ Cb) := ⟨f48, _, _, a48, i48, g_bshas, B_bshas⟩
  have g_eqbs := ok_eqbs (c := ⟨Cm, Cm, Cm⟩) (Cb := Cb) (Cr := Cr) F_eqbs T KX KB q_eqmd
  have q_eqbs : EqO l.prog w K mg base 20 Cb (spEqBs K ⟨Cm, Cm, Cm⟩ Cb) := ⟨f49, _, _, a49, i49, neCb, hmCb, g_eqbs, B_eqbs⟩
  have g_bsinit := ok_bsinit (c := ⟨Cm, Cm, Cm⟩) (Cb := Cb) (Cr := Cr) F_bsinit T KX KB KR c_reqmod c_figuresof c_reqcls c_merged c_sizeof
  have c_bs2 : C8.Mak l.prog w K mg base 110 "Bases" Cb (spBsInit K ⟨Cm, Cm, Cm⟩ Cb Cr) [] := ⟨f43, _, _, _, ⟨mkCb, a43, i43, kcCb⟩, g_bsinit, PySem.W.mg_of X G mCb, B_bsinit, .nil⟩
  have c_bsK : MakK l.prog w K mg base 110 "Bases" Cb ["classes", "modulus"] (spBsInit K ⟨Cm, Cm, Cm⟩ Cb Cr) (fun vs zs => vs ++ zs.reverse) := ⟨f43, _, _, fun us ws => us ++ ws.reverse, ⟨mkCb, a43, i43, kcCb⟩, g_bsinit, PySem.W.mg_of X G mCb, ⟨fun s us ws _ h1 h2 => .of_eq (match us, ws, h1, h2 with | [_], [_, _], _, _ => rfl), fun r1 r2 => r1.append (vals_rev r2)⟩⟩
  have c_balls := ok_balls F_balls T c_draw
  have c_membs := ok_membs (P := l.prog) (w := w) (K := K) (mg := mg) (base := base) F_membs T
  have c_ordr := ok_ordr (c := ⟨Cm, Cm, Cm⟩) (Cb := Cb) (Cr := Cr) F_ordr T KB c_draw c_bsbelow c_bsnth c_bsfrm
  have c_right := ok_right (c := ⟨Cm, Cm, Cm⟩) (Cb := Cb) (Cr := Cr) F_right T KX KB nmi nmb q_eqmd q_eqbs i_eqbs c_draw c_modinit c_bs2 c_bsK c_balls c_membs c_ordr
  exact ok_law (c := ⟨Cm, Cm, Cm⟩) (Cb := Cb) (Cr := Cr) (fun_mk (st := s_law) l50 c50 k50) T KX KB q_eqbs c_purse c_right c_modinit c_bs2 c_bsbelow c_bsnth c_bsfrm
theorem hdE0_ok {K : PySem.W.Frag} (h : LwH.hdE0 K = true) : (PySem.W.nsIn K mainGlobals "len" = some none) ∧ (PySem.W.nsIn K mainGlobals "int" = some none) ∧ (PySem.W.nsIn K mainGlobals "abs" = some none) ∧ (PySem.W.nsIn K mainGlobals "max" = some none) ∧ (PySem.W.nsIn K mainGlobals "min" = some none) ∧ (PySem.W.nsIn K mainGlobals "range" = some none) ∧ (PySem.W.nsIn K mainGlobals "isinstance" = some none) ∧ (PySem.W.nsIn K mainGlobals "list" = some none) ∧ (PySem.W.nsIn K mainGlobals "tuple" = some none) ∧ (PySem.W.nsIn K mainGlobals "str" = some none) ∧ (PySem.W.nsIn K mainGlobals "bool" = some none) ∧ (PySem.W.nsIn K mainGlobals "ord" = some none) ∧ (PySem.W.nsIn K mainGlobals "all" = some none) ∧ (PySem.W.nsIn K mainGlobals "enumerate" = some none) ∧ (PySem.W.nsIn K mainGlobals "zip" = some none) ∧ (PySem.W.nsIn K mainGlobals "sorted" = some none) ∧ (PySem.W.nsIn K mainGlobals "set" = some none) ∧ (PySem.W.nsIn K mainGlobals "dict" = some none) ∧ (PySem.W.nsIn K mainGlobals "reversed" = some none) ∧ (PySem.W.nsIn K mainGlobals "Modulus" = some (some (.ref (He.ga K "Modulus")))) := by
  obtain ⟨h0, h⟩ := He.ba h
  obtain ⟨h1, h⟩ := He.ba h
  obtain ⟨h2, h⟩ := He.ba h
  obtain ⟨h3, h⟩ := He.ba h
  obtain ⟨h4, h⟩ := He.ba h
  obtain ⟨h5, h⟩ := He.ba h
  obtain ⟨h6, h⟩ := He.ba h
  obtain ⟨h7, h⟩ := He.ba h
  obtain ⟨h8, h⟩ := He.ba h
  obtain ⟨h9, h⟩ := He.ba h
  obtain ⟨h10, h⟩ := He.ba h
  obtain ⟨h11, h⟩ := He.ba h
  obtain ⟨h12, h⟩ := He.ba h
  obtain ⟨h13, h⟩ := He.ba h
  obtain ⟨h14, h⟩ := He.ba h
  obtain ⟨h15, h⟩ := He.ba h
  obtain ⟨h16, h⟩ := He.ba h
  obtain ⟨h17, h⟩ := He.ba h
  obtain ⟨h18, h⟩ := He.ba h
  exact ⟨of_decide_eq_true h0, of_decide_eq_true h1, of_decide_eq_true h2, of_decide_eq_true h3, of_decide_eq_true h4, of_decide_eq_true h5, of_decide_eq_true h6, of_decide_eq_true h7, of_decide_eq_true h8, of_decide_eq_true h9, of_decide_eq_true h10, of_decide_eq_true h11, of_decide_eq_true h12, of_decide_eq_true h13, of_decide_eq_true h14, of_decide_eq_true h15, of_decide_eq_true h16, of_decide_eq_true h17, of_decide_eq_true h18, of_decide_eq_true h⟩
theorem hdE1_ok {K : PySem.W.Frag} (h : LwH.hdE1 K = true) : (PySem.W.plainGet K (He.ga K "Modulus") Str.empty = true) ∧ (PySem.W.hasDictIn K (He.ga K "Modulus") = true) ∧ (PySem.W.plainOver K (He.ga K "Modulus") = true) ∧ (PySem.W.findIn K (.ref (He.ga K "Modulus")) "__setattr__" = some (some (.builtin "object.__setattr__"))) ∧ (PySem.W.findIn K (.ref (He.ga K "Modulus")) "__class__" = some (some (.builtin "object.__class__"))) ∧ (PySem.W.mroIn K (He.ga K "Modulus") (.type "object") = some true) ∧ (PySem.W.makesIn K (He.ga K "Modulus") = true) ∧ (PySem.W.keepIn K (.ref (He.ga K "Modulus")) = true) ∧ (PySem.W.specialIn K (.builtin "object.__class__") "__get__" = some (some (.builtin "getset_descriptor.__get__"))) ∧ (PySem.W.takesIn K (.builtin "object.__class__") = some true) ∧ (PySem.W.nsIn K mainGlobals "Bases" = some (some (.ref (He.ga K "Bases")))) ∧ (PySem.W.plainGet K (He.ga K "Bases") Str.empty = true) ∧ (PySem.W.hasDictIn K (He.ga K "Bases") = true) ∧ (PySem.W.plainOver K (He.ga K "Bases") = true) ∧ (PySem.W.findIn K (.ref (He.ga K "Bases")) "__setattr__" = some (some (.builtin "object.__setattr__"))) ∧ (PySem.W.findIn K (.ref (He.ga K "Bases")) "__class__" = some (some (.builtin "object.__class__"))) ∧ (PySem.W.mroIn K (He.ga K "Bases") (.type "object") = some true) ∧ (PySem.W.makesIn K (He.ga K "Bases") = true) ∧ (PySem.W.keepIn K (.ref (He.ga K "Bases")) = true) ∧ (PySem.W.nsIn K mainGlobals "Rows" = some (some (.ref (He.ga K "Rows")))) := by
  obtain ⟨h0, h⟩ := He.ba h
  obtain ⟨h1, h⟩ := He.ba h
  obtain ⟨h2, h⟩ := He.ba h
  obtain ⟨h3, h⟩ := He.ba h
  obtain ⟨h4, h⟩ := He.ba h
  obtain ⟨h5, h⟩ := He.ba h
  obtain ⟨h6, h⟩ := He.ba h
  obtain ⟨h7, h⟩ := He.ba h
  obtain ⟨h8, h⟩ := He.ba h
  obtain ⟨h9, h⟩ := He.ba h
  obtain ⟨h10, h⟩ := He.ba h
  obtain ⟨h11, h⟩ := He.ba h
  obtain ⟨h12, h⟩ := He.ba h
  obtain ⟨h13, h⟩ := He.ba h
  obtain ⟨h14, h⟩ := He.ba h
  obtain ⟨h15, h⟩ := He.ba h
  obtain ⟨h16, h⟩ := He.ba h
  obtain ⟨h17, h⟩ := He.ba h
  obtain ⟨h18, h⟩ := He.ba h
  exact ⟨of_decide_eq_true h0, of_decide_eq_true h1, of_decide_eq_true h2, of_decide_eq_true h3, of_decide_eq_true h4, of_decide_eq_true h5, of_decide_eq_true h6, of_decide_eq_true h7, of_decide_eq_true h8, of_decide_eq_true h9, of_decide_eq_true h10, of_decide_eq_true h11, of_decide_eq_true h12, of_decide_eq_true h13, of_decide_eq_true h14, of_decide_eq_true h15, of_decide_eq_true h16, of_decide_eq_true h17, of_decide_eq_true h18, of_decide_eq_true h⟩
theorem hdE2_ok {K : PySem.W.Frag} (h : LwH.hdE2 K = true) : (PySem.W.plainGet K (He.ga K "Rows") Str.empty = true) ∧ (PySem.W.hasDictIn K (He.ga K "Rows") = true) ∧ (PySem.W.plainOver K (He.ga K "Rows") = true) ∧ (PySem.W.findIn K (.ref (He.ga K "Rows")) "__setattr__" = some (some (.builtin "object.__setattr__"))) ∧ (PySem.W.findIn K (.ref (He.ga K "Rows")) "__class__" = some (some (.builtin "object.__class__"))) ∧ (PySem.W.mroIn K (He.ga K "Rows") (.type "object") = some true) ∧ (PySem.W.makesIn K (He.ga K "Rows") = true) ∧ (PySem.W.keepIn K (.ref (He.ga K "Rows")) = true) ∧ (PySem.W.findIn K (.ref (He.ga K "Modulus")) "number" = some none) ∧ (PySem.W.findIn K (.ref (He.ga K "Modulus")) "factors" = some none) ∧ (PySem.W.findIn K (.ref (He.ga K "Modulus")) "low" = some none) ∧ (PySem.W.findIn K (.ref (He.ga K "Modulus")) "shift" = some none) ∧ (PySem.W.findIn K (.ref (He.ga K "Modulus")) "lead" = some none) ∧ (PySem.W.findIn K (.ref (He.ga K "Modulus")) "marking" = some none) ∧ (PySem.W.findIn K (.ref (He.ga K "Modulus")) "modulus" = some none) ∧ (PySem.W.findIn K (.ref (He.ga K "Modulus")) "base" = some none) ∧ (PySem.W.findIn K (.ref (He.ga K "Bases")) "modulus" = some none) ∧ (PySem.W.findIn K (.ref (He.ga K "Bases")) "figures" = some none) ∧ (PySem.W.findIn K (.ref (He.ga K "Bases")) "rows" = some none) ∧ (PySem.W.findIn K (.ref (He.ga K "Bases")) "root" = some none) := by
  obtain ⟨h0, h⟩ := He.ba h
  obtain ⟨h1, h⟩ := He.ba h
  obtain ⟨h2, h⟩ := He.ba h
  obtain ⟨h3, h⟩ := He.ba h
  obtain ⟨h4, h⟩ := He.ba h
  obtain ⟨h5, h⟩ := He.ba h
  obtain ⟨h6, h⟩ := He.ba h
  obtain ⟨h7, h⟩ := He.ba h
  obtain ⟨h8, h⟩ := He.ba h
  obtain ⟨h9, h⟩ := He.ba h
  obtain ⟨h10, h⟩ := He.ba h
  obtain ⟨h11, h⟩ := He.ba h
  obtain ⟨h12, h⟩ := He.ba h
  obtain ⟨h13, h⟩ := He.ba h
  obtain ⟨h14, h⟩ := He.ba h
  obtain ⟨h15, h⟩ := He.ba h
  obtain ⟨h16, h⟩ := He.ba h
  obtain ⟨h17, h⟩ := He.ba h
  obtain ⟨h18, h⟩ := He.ba h
  exact ⟨of_decide_eq_true h0, of_decide_eq_true h1, of_decide_eq_true h2, of_decide_eq_true h3, of_decide_eq_true h4, of_decide_eq_true h5, of_decide_eq_true h6, of_decide_eq_true h7, of_decide_eq_true h8, of_decide_eq_true h9, of_decide_eq_true h10, of_decide_eq_true h11, of_decide_eq_true h12, of_decide_eq_true h13, of_decide_eq_true h14, of_decide_eq_true h15, of_decide_eq_true h16, of_decide_eq_true h17, of_decide_eq_true h18, of_decide_eq_true h⟩
theorem hdE3_ok {K : PySem.W.Frag} (h : LwH.hdE3 K = true) : (PySem.W.findIn K (.ref (He.ga K "Bases")) "size" = some none) ∧ (PySem.W.isClsIn K (He.ga K "Rows") = true) ∧ (PySem.W.typeIn K (.ref (He.ga K "Rows")) = some (.type "type")) ∧ (PySem.W.subIn K (.type "list") (.ref (He.ga K "Rows")) = some false) ∧ (PySem.W.subIn K (.type "tuple") (.ref (He.ga K "Rows")) = some false) ∧ (PySem.W.findIn K (.ref (He.ga K "Rows")) "rows" = some none) ∧ (PySem.W.findIn K (.ref (He.ga K "Rows")) "root" = some none) ∧ (PySem.W.subIn K (.ref (He.ga K "Modulus")) (.type "int") = some false) ∧ (PySem.W.subIn K (.ref (He.ga K "Modulus")) (.type "bool") = some false) ∧ (∃ t, PySem.W.nsIn K mainGlobals "NONE" = some (some (.int 0 t))) ∧ (∃ t, PySem.W.nsIn K mainGlobals "EVERY" = some (some (.int 1 t))) ∧ (PySem.W.nsIn K mainGlobals "EITHER" = some (some (.ref (He.ga K "EITHER")))) ∧ (TblK K (He.ga K "EITHER") (fun a b => a || b)) ∧ (PySem.W.findIn K (.ref (He.ga K "Modulus")) "__ne__" = some (some (.builtin "object.__ne__"))) ∧ (PySem.W.findIn K (.ref (He.ga K "Bases")) "__ne__" = some (some (.builtin "object.__ne__"))) ∧ (PySem.W.nsIn K mainGlobals "is_integer" = some (some (.ref (He.fAd K ("is_integer", none))))) ∧ (PySem.W.nsIn K mainGlobals "raised" = some (some (.ref (He.fAd K ("raised", none))))) ∧ (PySem.W.nsIn K mainGlobals "common_divisor" = some (some (.ref (He.fAd K ("common_divisor", none))))) ∧ (PySem.W.nsIn K mainGlobals "is_prime_number" = some (some (.ref (He.fAd K ("is_prime_number", none))))) ∧ (PySem.W.nsIn K mainGlobals "is_factor" = some (some (.ref (He.fAd K ("is_factor", none))))) := by
  obtain ⟨h0, h⟩ := He.ba h
  obtain ⟨h1, h⟩ := He.ba h
  obtain ⟨h2, h⟩ := He.ba h
  obtain ⟨h3, h⟩ := He.ba h
  obtain ⟨h4, h⟩ := He.ba h
  obtain ⟨h5, h⟩ := He.ba h
  obtain ⟨h6, h⟩ := He.ba h
  obtain ⟨h7, h⟩ := He.ba h
  obtain ⟨h8, h⟩ := He.ba h
  obtain ⟨h9, h⟩ := He.ba h
  obtain ⟨h10, h⟩ := He.ba h
  obtain ⟨h11, h⟩ := He.ba h
  obtain ⟨h12, h⟩ := He.ba h
  obtain ⟨h13, h⟩ := He.ba h
  obtain ⟨h14, h⟩ := He.ba h
  obtain ⟨h15, h⟩ := He.ba h
  obtain ⟨h16, h⟩ := He.ba h
  obtain ⟨h17, h⟩ := He.ba h
  obtain ⟨h18, h⟩ := He.ba h
  exact ⟨of_decide_eq_true h0, of_decide_eq_true h1, of_decide_eq_true h2, of_decide_eq_true h3, of_decide_eq_true h4, of_decide_eq_true h5, of_decide_eq_true h6, of_decide_eq_true h7, of_decide_eq_true h8, glB_ok h9, glB_ok h10, of_decide_eq_true h11, tblB_ok (op := (fun a b => a || b)) h12, of_decide_eq_true h13, of_decide_eq_true h14, of_decide_eq_true h15, of_decide_eq_true h16, of_decide_eq_true h17, of_decide_eq_true h18, of_decide_eq_true h⟩
theorem hdE4_ok {K : PySem.W.Frag} (h : LwH.hdE4 K = true) : (PySem.W.nsIn K mainGlobals "require_modulus" = some (some (.ref (He.fAd K ("require_modulus", none))))) ∧ (PySem.W.nsIn K mainGlobals "_law_mixed" = some (some (.ref (He.fAd K ("_law_mixed", none))))) ∧ (PySem.W.nsIn K mainGlobals "_law_purse" = some (some (.ref (He.fAd K ("_law_purse", none))))) ∧ (PySem.W.nsIn K mainGlobals "_law_draw" = some (some (.ref (He.fAd K ("_law_draw", none))))) ∧ (PySem.W.nsIn K mainGlobals "below_at" = some (some (.ref (He.fAd K ("below_at", none))))) ∧ (PySem.W.nsIn K mainGlobals "count_below" = some (some (.ref (He.fAd K ("count_below", none))))) ∧ (PySem.W.nsIn K mainGlobals "member_at" = some (some (.ref (He.fAd K ("member_at", none))))) ∧ (PySem.W.nsIn K mainGlobals "holds" = some (some (.ref (He.fAd K ("holds", none))))) ∧ (PySem.W.nsIn K mainGlobals "spread" = some (some (.ref (He.fAd K ("spread", none))))) ∧ (PySem.W.nsIn K mainGlobals "size_of" = some (some (.ref (He.fAd K ("size_of", none))))) ∧ (PySem.W.nsIn K mainGlobals "first_rows" = some (some (.ref (He.fAd K ("first_rows", none))))) ∧ (PySem.W.nsIn K mainGlobals "figures_of" = some (some (.ref (He.fAd K ("figures_of", none))))) ∧ (PySem.W.nsIn K mainGlobals "figures_at" = some (some (.ref (He.fAd K ("figures_at", none))))) ∧ (PySem.W.nsIn K mainGlobals "pairs_below" = some (some (.ref (He.fAd K ("pairs_below", none))))) ∧ (PySem.W.nsIn K mainGlobals "met_pairs" = some (some (.ref (He.fAd K ("met_pairs", none))))) ∧ (PySem.W.nsIn K mainGlobals "usual" = some (some (.ref (He.fAd K ("usual", none))))) ∧ (PySem.W.nsIn K mainGlobals "made_row" = some (some (.ref (He.fAd K ("made_row", none))))) ∧ (PySem.W.nsIn K mainGlobals "row_at" = some (some (.ref (He.fAd K ("row_at", none))))) ∧ (PySem.W.nsIn K mainGlobals "settled" = some (some (.ref (He.fAd K ("settled", none))))) ∧ (PySem.W.nsIn K mainGlobals "class_rows" = some (some (.ref (He.fAd K ("class_rows", none))))) := by
  obtain ⟨h0, h⟩ := He.ba h
  obtain ⟨h1, h⟩ := He.ba h
  obtain ⟨h2, h⟩ := He.ba h
  obtain ⟨h3, h⟩ := He.ba h
  obtain ⟨h4, h⟩ := He.ba h
  obtain ⟨h5, h⟩ := He.ba h
  obtain ⟨h6, h⟩ := He.ba h
  obtain ⟨h7, h⟩ := He.ba h
  obtain ⟨h8, h⟩ := He.ba h
  obtain ⟨h9, h⟩ := He.ba h
  obtain ⟨h10, h⟩ := He.ba h
  obtain ⟨h11, h⟩ := He.ba h
  obtain ⟨h12, h⟩ := He.ba h
  obtain ⟨h13, h⟩ := He.ba h
  obtain ⟨h14, h⟩ := He.ba h
  obtain ⟨h15, h⟩ := He.ba h
  obtain ⟨h16, h⟩ := He.ba h
  obtain ⟨h17, h⟩ := He.ba h
  obtain ⟨h18, h⟩ := He.ba h
  exact ⟨of_decide_eq_true h0, of_decide_eq_true h1, of_decide_eq_true h2, of_decide_eq_true h3, of_decide_eq_true h4, of_decide_eq_true h5, of_decide_eq_true h6, of_decide_eq_true h7, of_decide_eq_true h8, of_decide_eq_true h9, of_decide_eq_true h10, of_decide_eq_true h11, of_decide_eq_true h12, of_decide_eq_true h13, of_decide_eq_true h14, of_decide_eq_true h15, of_decide_eq_true h16, of_decide_eq_true h17, of_decide_eq_true h18, of_decide_eq_true h⟩
theorem hdE5_ok {K : PySem.W.Frag} (h : LwH.hdE5 K = true) : (PySem.W.nsIn K mainGlobals "together" = some (some (.ref (He.fAd K ("together", none))))) ∧ (PySem.W.nsIn K mainGlobals "is_class" = some (some (.ref (He.fAd K ("is_class", none))))) ∧ (PySem.W.nsIn K mainGlobals "require_classes" = some (some (.ref (He.fAd K ("require_classes", none))))) ∧ (PySem.W.nsIn K mainGlobals "merged_rows" = some (some (.ref (He.fAd K ("merged_rows", none))))) ∧ (PySem.W.nsIn K mainGlobals "inverse" = some (some (.ref (He.fAd K ("inverse", none))))) ∧ (PySem.W.nsIn K mainGlobals "led_together" = some (some (.ref (He.fAd K ("led_together", none))))) ∧ (PySem.W.nsIn K mainGlobals "with_figure" = some (some (.ref (He.fAd K ("with_figure", none))))) ∧ (PySem.W.nsIn K mainGlobals "with_all_figures" = some (some (.ref (He.fAd K ("with_all_figures", none))))) ∧ (PySem.W.nsIn K mainGlobals "by_each_figure" = some (some (.ref (He.fAd K ("by_each_figure", none))))) ∧ (PySem.W.nsIn K mainGlobals "signed_classes" = some (some (.ref (He.fAd K ("signed_classes", none))))) ∧ (PySem.W.nsIn K mainGlobals "_law_balls" = some (some (.ref (He.fAd K ("_law_balls", none))))) ∧ (PySem.W.nsIn K mainGlobals "_law_members" = some (some (.ref (He.fAd K ("_law_members", none))))) ∧ (PySem.W.nsIn K mainGlobals "_law_order_right" = some (some (.ref (He.fAd K ("_law_order_right", none))))) ∧ (PySem.W.nsIn K mainGlobals "_law_right" = some (some (.ref (He.fAd K ("_law_right", none))))) ∧ (PySem.W.findIn K (.ref (He.ga K "Modulus")) "__init__" = some (some (.ref (He.fAd K ("Modulus", some "__init__"))))) ∧ (PySem.W.isFn K (.ref (He.fAd K ("Modulus", some "__init__"))) = true) ∧ (PySem.W.findIn K (.ref (He.ga K "Modulus")) "__eq__" = some (some (.ref (He.fAd K ("Modulus", some "__eq__"))))) ∧ (PySem.W.isFn K (.ref (He.fAd K ("Modulus", some "__eq__"))) = true) ∧ (PySem.W.findIn K (.ref (He.ga K "Rows")) "__init__" = some (some (.ref (He.fAd K ("Rows", some "__init__"))))) ∧ (PySem.W.isFn K (.ref (He.fAd K ("Rows", some "__init__"))) = true) := by
  obtain ⟨h0, h⟩ := He.ba h
  obtain ⟨h1, h⟩ := He.ba h
  obtain ⟨h2, h⟩ := He.ba h
  obtain ⟨h3, h⟩ := He.ba h
  obtain ⟨h4, h⟩ := He.ba h
  obtain ⟨h5, h⟩ := He.ba h
  obtain ⟨h6, h⟩ := He.ba h
  obtain ⟨h7, h⟩ := He.ba h
  obtain ⟨h8, h⟩ := He.ba h
  obtain ⟨h9, h⟩ := He.ba h
  obtain ⟨h10, h⟩ := He.ba h
  obtain ⟨h11, h⟩ := He.ba h
  obtain ⟨h12, h⟩ := He.ba h
  obtain ⟨h13, h⟩ := He.ba h
  obtain ⟨h14, h⟩ := He.ba h
  obtain ⟨h15, h⟩ := He.ba h
  obtain ⟨h16, h⟩ := He.ba h
  obtain ⟨h17, h⟩ := He.ba h
  obtain ⟨h18, h⟩ := He.ba h
  exact ⟨of_decide_eq_true h0, of_decide_eq_true h1, of_decide_eq_true h2, of_decide_eq_true h3, of_decide_eq_true h4, of_decide_eq_true h5, of_decide_eq_true h6, of_decide_eq_true h7, of_decide_eq_true h8, of_decide_eq_true h9, of_decide_eq_true h10, of_decide_eq_true h11, of_decide_eq_true h12, of_decide_eq_true h13, of_decide_eq_true h14, of_decide_eq_true h15, of_decide_eq_true h16, of_decide_eq_true h17, of_decide_eq_true h18, of_decide_eq_true h⟩
theorem hdE6_ok {K : PySem.W.Frag} (h : LwH.hdE6 K = true) : (PySem.W.findIn K (.ref (He.ga K "Bases")) "__init__" = some (some (.ref (He.fAd K ("Bases", some "__init__"))))) ∧ (PySem.W.isFn K (.ref (He.fAd K ("Bases", some "__init__"))) = true) ∧ (PySem.W.findIn K (.ref (He.ga K "Bases")) "signed" = some (some (.ref (He.fAd K ("Bases", some "signed"))))) ∧ (PySem.W.isFn K (.ref (He.fAd K ("Bases", some "signed"))) = true) ∧ (PySem.W.findIn K (.ref (He.ga K "Bases")) "below" = some (some (.ref (He.fAd K ("Bases", some "below"))))) ∧ (PySem.W.isFn K (.ref (He.fAd K ("Bases", some "below"))) = true) ∧ (PySem.W.findIn K (.ref (He.ga K "Bases")) "nth" = some (some (.ref (He.fAd K ("Bases", some "nth"))))) ∧ (PySem.W.isFn K (.ref (He.fAd K ("Bases", some "nth"))) = true) ∧ (PySem.W.findIn K (.ref (He.ga K "Bases")) "first_from" = some (some (.ref (He.fAd K ("Bases", some "first_from"))))) ∧ (PySem.W.isFn K (.ref (He.fAd K ("Bases", some "first_from"))) = true) ∧ (PySem.W.findIn K (.ref (He.ga K "Bases")) "__contains__" = some (some (.ref (He.fAd K ("Bases", some "__contains__"))))) ∧ (PySem.W.isFn K (.ref (He.fAd K ("Bases", some "__contains__"))) = true) ∧ (PySem.W.findIn K (.ref (He.ga K "Bases")) "__eq__" = some (some (.ref (He.fAd K ("Bases", some "__eq__"))))) ∧ (PySem.W.isFn K (.ref (He.fAd K ("Bases", some "__eq__"))) = true) ∧ (PySem.W.nsIn K mainGlobals "law" = some (some (.ref (He.fAd K ("law", none))))) := by
  obtain ⟨h0, h⟩ := He.ba h
  obtain ⟨h1, h⟩ := He.ba h
  obtain ⟨h2, h⟩ := He.ba h
  obtain ⟨h3, h⟩ := He.ba h
  obtain ⟨h4, h⟩ := He.ba h
  obtain ⟨h5, h⟩ := He.ba h
  obtain ⟨h6, h⟩ := He.ba h
  obtain ⟨h7, h⟩ := He.ba h
  obtain ⟨h8, h⟩ := He.ba h
  obtain ⟨h9, h⟩ := He.ba h
  obtain ⟨h10, h⟩ := He.ba h
  obtain ⟨h11, h⟩ := He.ba h
  obtain ⟨h12, h⟩ := He.ba h
  obtain ⟨h13, h⟩ := He.ba h
  exact ⟨of_decide_eq_true h0, of_decide_eq_true h1, of_decide_eq_true h2, of_decide_eq_true h3, of_decide_eq_true h4, of_decide_eq_true h5, of_decide_eq_true h6, of_decide_eq_true h7, of_decide_eq_true h8, of_decide_eq_true h9, of_decide_eq_true h10, of_decide_eq_true h11, of_decide_eq_true h12, of_decide_eq_true h13, of_decide_eq_true h⟩
theorem filled {l : PySem.W.OpenLaw} {w : World} {K : PySem.W.Frag} {h : Heap} {mg : Str → Option Value} {fa : Addr} (X : K.In h) (G : h.Ns mainGlobals mg) (hfa : mg "law" = some (.ref fa)) (ce : LwH.hdEx K = true) (cd : He.SaysD [] LwH.hdFn K) :
    ∃ fd : FuncData, (∀ (s : Shared) (v : Value), BindsTo s fd ⟨[v], []⟩ [("_law_script", v)]) ∧ ∀ base : Heap, K.In base → base.Ns mainGlobals mg → FnOk l.prog w K mg base L2.CX0 135 fa fd ["_law_script"] (spLaw K) := by
  obtain ⟨fd1, F1⟩ := cd.def_ 0 (d := LwH.dd1) rfl
  obtain ⟨fd2, F2⟩ := cd.def_ 1 (d := LwH.dd2) rfl
  obtain ⟨fd3, F3⟩ := cd.def_ 2 (d := LwH.dd3) rfl
  obtain ⟨fd4, F4⟩ := cd.def_ 3 (d := LwH.dd4) rfl
  obtain ⟨fd5, F5⟩ := cd.def_ 4 (d := LwH.dd5) rfl
  obtain ⟨fd6, F6⟩ := cd.def_ 5 (d := LwH.dd6) rfl
  obtain ⟨fd7, F7⟩ := cd.def_ 6 (d := LwH.dd7) rfl
  obtain ⟨fd8, F8⟩ := cd.def_ 7 (d := LwH.dd8) rfl
  obtain ⟨fd9, F9⟩ := cd.def_ 8 (d := LwH.dd9) rfl
  obtain ⟨fd10, F10⟩ := cd.def_ 9 (d := LwH.dd10) rfl
  obtain ⟨fd11, F11⟩ := cd.def_ 10 (d := LwH.dd11) rfl
  obtain ⟨fd12, F12⟩ := cd.def_ 11 (d := LwH.dd12) rfl
  obtain ⟨fd13, F13⟩ := cd.def_ 12 (d := LwH.dd13) rfl
  obtain ⟨fd14, F14⟩ := cd.def_ 13 (d := LwH.dd14) rfl
  obtain ⟨fd15, F15⟩ := cd.def_ 14 (d := LwH.dd15) rfl
  obtain ⟨fd16, F16⟩ := cd.def_ 15 (d := LwH.dd16) rfl
  obtain ⟨fd17, F17⟩ := cd.def_ 16 (d := LwH.dd17) rfl
  obtain ⟨fd18, F18⟩ := cd.def_ 17 (d := LwH.dd18) rfl
  obtain ⟨fd19, F19⟩ := cd.def_ 18 (d := LwH.dd19) rfl
  obtain ⟨fd20, F20⟩ := cd.def_ 19 (d := LwH.dd20) rfl
  obtain ⟨fd21, F21⟩ := cd.def_ 20 (d := LwH.dd21) rfl
  obtain ⟨fd22, F22⟩ := cd.def_ 21 (d := LwH.dd22) rfl
  obtain ⟨fd23, F23⟩ := cd.def_ 22 (d := LwH.dd23) rfl
  obtain ⟨fd24, F24⟩ := cd.def_ 23 (d := LwH.dd24) rfl
  obtain ⟨fd25, F25⟩ := cd.def_ 24 (d := LwH.dd25) rfl
  obtain ⟨fd26, F26⟩ := cd.def_ 25 (d := LwH.dd26) rfl
  obtain ⟨fd27, F27⟩ := cd.def_ 26 (d := LwH.dd27) rfl
  obtain ⟨fd28, F28⟩ := cd.def_ 27 (d := LwH.dd28) rfl
  obtain ⟨fd29, F29⟩ := cd.def_ 28 (d := LwH.dd29) rfl
  obtain ⟨fd30, F30⟩ := cd.def_ 29 (d := LwH.dd30) rfl
  obtain ⟨fd31, F31⟩ := cd.def_ 30 (d := LwH.dd31) rfl
  obtain ⟨fd32, F32⟩ := cd.def_ 31 (d := LwH.dd32) rfl
  obtain ⟨fd33, F33⟩ := cd.def_ 32 (d := LwH.dd33) rfl
  obtain ⟨fd34, F34⟩ := cd.def_ 33 (d := LwH.dd34) rfl
  obtain ⟨fd35, F35⟩ := cd.def_ 34 (d := LwH.dd35) rfl
  obtain ⟨fd36, F36⟩ := cd.def_ 35 (d := LwH.dd36) rfl
  obtain ⟨fd37, F37⟩ := cd.def_ 36 (d := LwH.dd37) rfl
  obtain ⟨fd38, F38⟩ := cd.def_ 37 (d := LwH.dd38) rfl
  obtain ⟨fd39, F39⟩ := cd.def_ 38 (d := LwH.dd39) rfl
  obtain ⟨fd40, F40⟩ := cd.def_ 39 (d := LwH.dd40) rfl
  obtain ⟨fd41, F41⟩ := cd.def_ 40 (d := LwH.dd41) rfl
  obtain ⟨fd42, F42⟩ := cd.def_ 41 (d := LwH.dd42) rfl
  obtain ⟨fd43, F43⟩ := cd.def_ 42 (d := LwH.dd43) rfl
  obtain ⟨fd44, F44⟩ := cd.def_ 43 (d := LwH.dd44) rfl
  obtain ⟨fd45, F45⟩ := cd.def_ 44 (d := LwH.dd45) rfl
  obtain ⟨fd46, F46⟩ := cd.def_ 45 (d := LwH.dd46) rfl
  obtain ⟨fd47, F47⟩ := cd.def_ 46 (d := LwH.dd47) rfl
  obtain ⟨fd48, F48⟩ := cd.def_ 47 (d := LwH.dd48) rfl
  obtain ⟨fd49, F49⟩ := cd.def_ 48 (d := LwH.dd49) rfl
  obtain ⟨fd50, F50⟩ := cd.def_ 49 (d := LwH.dd50) rfl
  obtain ⟨ce0, ce⟩ := He.ba ce
  obtain ⟨ce1, ce⟩ := He.ba ce
  obtain ⟨ce2, ce⟩ := He.ba ce
  obtain ⟨ce3, ce⟩ := He.ba ce
  obtain ⟨ce4, ce⟩ := He.ba ce
  obtain ⟨ce5, ce⟩ := He.ba ce
  have ce6 := ce
  obtain ⟨z_len, z_int, z_abs, z_max, z_min, z_range, z_isinstance, z_list, z_tuple, z_str, z_bool, z_ord, z_all, z_enumerate, z_zip, z_sorted, z_set, z_dict, z_reversed, mCm⟩ := hdE0_ok ce0
  obtain ⟨pgCm, hdCm, poCm, saCm, haCm, hmCm, mkCm, kcCm, objhn, objht, mCb, pgCb, hdCb, poCb, saCb, haCb, hmCb, mkCb, kcCb, mCr⟩ := hdE1_ok ce1
  obtain ⟨pgCr, hdCr, poCr, saCr, haCr, hmCr, mkCr, kcCr, nCm_number, nCm_factors, nCm_low, nCm_shift, nCm_lead, nCm_marking, nCm_modulus, nCm_base, nCb_modulus, nCb_figures, nCb_rows, nCb_root⟩ := hdE2_ok ce2
  obtain ⟨nCb_size, icCr, tyCr, nr_list, nr_tuple, nCr_rows, nCr_root, nm_int, nm_bool, gNONE, gEVERY, maE, haE, neCm, neCb, a1, a2, a3, a4, a5⟩ := hdE3_ok ce3
  obtain ⟨a6, a7, a8, a9, a10, a11, a12, a13, a14, a15, a16, a17, a18, a19, a20, a21, a22, a23, a24, a25⟩ := hdE4_ok ce4
  obtain ⟨a26, a27, a28, a29, a30, a31, a32, a33, a34, a35, a36, a37, a38, a39, a40, i40, a41, i41, a42, i42⟩ := hdE5_ok ce5
  obtain ⟨a43, i43, a44, i44, a45, i45, a46, i46, a47, i47, a48, i48, a49, i49, a50⟩ := hdE6_ok ce6
  exact all_mk (l := l) (w := w) (K := K) (h := h) (mg := mg) (fa := fa) (Cm := He.ga K "Modulus") (Cb := He.ga K "Bases") (Cr := He.ga K "Rows") (aE := He.ga K "EITHER") (f1 := He.fAd K ("is_integer", none)) (f2 := He.fAd K ("raised", none)) (f3 := He.fAd K ("common_divisor", none)) (f4 := He.fAd K ("is_prime_number", none)) (f5 := He.fAd K ("is_factor", none)) (f6 := He.fAd K ("require_modulus", none)) (f7 := He.fAd K ("_law_mixed", none)) (f8 := He.fAd K ("_law_purse", none)) (f9 := He.fAd K ("_law_draw", none)) (f10 := He.fAd K ("below_at", none)) (f11 := He.fAd K ("count_below", none)) (f12 := He.fAd K ("member_at", none)) (f13 := He.fAd K ("holds", none)) (f14 := He.fAd K ("spread", none)) (f15 := He.fAd K ("size_of", none)) (f16 := He.fAd K ("first_rows", none)) (f17 := He.fAd K ("figures_of", none)) (f18 := He.fAd K ("figures_at", none)) (f19 := He.fAd K ("pairs_below", none)) (f20 := He.fAd K ("met_pairs", none)) (f21 := He.fAd K ("usual", none)) (f22 := He.fAd K ("made_row", none)) (f23 := He.fAd K ("row_at", none)) (f24 := He.fAd K ("settled", none)) (f25 := He.fAd K ("class_rows", none)) (f26 := He.fAd K ("together", none)) (f27 := He.fAd K ("is_class", none)) (f28 := He.fAd K ("require_classes", none)) (f29 := He.fAd K ("merged_rows", none)) (f30 := He.fAd K ("inverse", none)) (f31 := He.fAd K ("led_together", none)) (f32 := He.fAd K ("with_figure", none)) (f33 := He.fAd K ("with_all_figures", none)) (f34 := He.fAd K ("by_each_figure", none)) (f35 := He.fAd K ("signed_classes", none)) (f36 := He.fAd K ("_law_balls", none)) (f37 := He.fAd K ("_law_members", none)) (f38 := He.fAd K ("_law_order_right", none)) (f39 := He.fAd K ("_law_right", none)) (f40 := He.fAd K ("Modulus", some "__init__")) (f41 := He.fAd K ("Modulus", some "__eq__")) (f42 := He.fAd K ("Rows", some "__init__")) (f43 := He.fAd K ("Bases", some "__init__")) (f44 := He.fAd K ("Bases", some "signed")) (f45 := He.fAd K ("Bases", some "below")) (f46 := He.fAd K ("Bases", some "nth")) (f47 := He.fAd K ("Bases", some "first_from")) (f48 := He.fAd K ("Bases", some "__contains__")) (f49 := He.fAd K ("Bases", some "__eq__")) (f50 := He.fAd K ("law", none)) X G hfa (F1 := fun_of_D F1) (F2 := fun_of_D F2) (F3 := fun_of_D F3) (F4 := fun_of_D F4) (F5 := fun_of_D F5) (F6 := fun_of_D F6) (F7 := fun_of_D F7) (F8 := fun_of_D F8) (F9 := fun_of_D F9) (F10 := fun_of_D F10) (F11 := fun_of_D F11) (F12 := fun_of_D F12) (F13 := fun_of_D F13) (F14 := fun_of_D F14) (F15 := fun_of_D F15) (F16 := fun_of_D F16) (F17 := fun_of_D F17) (F18 := fun_of_D F18) (F19 := fun_of_D F19) (F20 := fun_of_D F20) (F21 := fun_of_D F21) (F22 := fun_of_D F22) (F23 := fun_of_D F23) (F24 := fun_of_D F24) (F25 := fun_of_D F25) (F26 := fun_of_D F26) (F27 := fun_of_D F27) (F28 := fun_of_D F28) (F29 := fun_of_D F29) (F30 := fun_of_D F30) (F31 := fun_of_D F31) (F32 := fun_of_D F32) (F33 := fun_of_D F33) (F34 := fun_of_D F34) (F35 := fun_of_D F35) (F36 := fun_of_D F36) (F37 := fun_of_D F37) (F38 := fun_of_D F38) (F39 := fun_of_D F39) (F40 := fun_of_D F40) (F41 := fun_of_D F41) (F42 := fun_of_D F42) (F43 := fun_of_D F43) (F44 := fun_of_D F44) (F45 := fun_of_D F45) (F46 := fun_of_D F46) (F47 := fun_of_D F47) (F48 := fun_of_D F48) (F49 := fun_of_D F49) (F50 := fun_of_D F50) (z_len := z_len) (z_int := z_int) (z_abs := z_abs) (z_max := z_max) (z_min := z_min) (z_range := z_range) (z_isinstance := z_isinstance) (z_list := z_list) (z_tuple := z_tuple) (z_str := z_str) (z_bool := z_bool) (z_ord := z_ord) (z_all := z_all) (z_enumerate := z_enumerate) (z_zip := z_zip) (z_sorted := z_sorted) (z_set := z_set) (z_dict := z_dict) (z_reversed := z_reversed) (mCm := mCm) (pgCm := pgCm) (hdCm := hdCm) (poCm := poCm) (saCm := saCm) (haCm := haCm) (hmCm := hmCm) (mkCm := mkCm) (kcCm := kcCm) (objhn := objhn) (objht := objht) (mCb := mCb) (pgCb := pgCb) (hdCb := hdCb) (poCb := poCb) (saCb := saCb) (haCb := haCb) (hmCb := hmCb) (mkCb := mkCb) (kcCb := kcCb) (mCr := mCr) (pgCr := pgCr) (hdCr := hdCr) (poCr := poCr) (saCr := saCr) (haCr := haCr) (hmCr := hmCr) (mkCr := mkCr) (kcCr := kcCr) (nCm_number := nCm_number) (nCm_factors := nCm_factors) (nCm_low := nCm_low) (nCm_shift := nCm_shift) (nCm_lead := nCm_lead) (nCm_marking := nCm_marking) (nCm_modulus := nCm_modulus) (nCm_base := nCm_base) (nCb_modulus := nCb_modulus) (nCb_figures := nCb_figures) (nCb_rows := nCb_rows) (nCb_root := nCb_root) (nCb_size := nCb_size) (icCr := icCr) (tyCr := tyCr) (nr_list := nr_list) (nr_tuple := nr_tuple) (nCr_rows := nCr_rows) (nCr_root := nCr_root) (nm_int := nm_int) (nm_bool := nm_bool) (gNONE := gNONE) (gEVERY := gEVERY) (maE := maE) (haE := haE) (neCm := neCm) (neCb := neCb) (a1 := a1) (a2 := a2) (a3 := a3) (a4 := a4) (a5 := a5) (a6 := a6) (a7 := a7) (a8 := a8) (a9 := a9) (a10 := a10) (a11 := a11) (a12 := a12) (a13 := a13) (a14 := a14) (a15 := a15) (a16 := a16) (a17 := a17) (a18 := a18) (a19 := a19) (a20 := a20) (a21 := a21) (a22 := a22) (a23 := a23) (a24 := a24) (a25 := a25) (a26 := a26) (a27 := a27) (a28 := a28) (a29 := a29) (a30 := a30) (a31 := a31) (a32 := a32) (a33 := a33) (a34 := a34) (a35 := a35) (a36 := a36) (a37 := a37) (a38 := a38) (a39 := a39) (a40 := a40) (i40 := i40) (a41 := a41) (i41 := i41) (a42 := a42) (i42 := i42) (a43 := a43) (i43 := i43) (a44 := a44) (i44 := i44) (a45 := a45) (i45 := i45) (a46 := a46) (i46 := i46) (a47 := a47) (i47 := i47) (a48 := a48) (i48 := i48) (a49 := a49) (i49 := i49) (a50 := a50)
noncomputable abbrev hdSp (K : PySem.W.Frag) : Sp := spLaw K
end Lw
open PySem PySem.W PySem.Calls PyProof.Rows in
set_option maxRecDepth 100000 in
set_option maxHeartbeats 0 in
theorem PySem.Challenge.cw_baseclash_k30_sets_of_classes_holds : PySem.Challenge.rw_baseclash_k30_sets_of_classes.Holds := by
  w_on; o_law
  refine HandSHeadRun.head_any (r := (PySem.W.OpenLaw.row PySem.Challenge.rw_baseclash_k30_sets_of_classes)) (q := PySem.W.view (PySem.W.OpenLaw.row PySem.Challenge.rw_baseclash_k30_sets_of_classes).prog [62]) (H := Bc.hookX 4 LwH.hdEx LwH.hdFn) (ob := Bc.obX 4 LwH.hdEx LwH.hdFn) (M := 60000) (loose := LwH.hdNames) (d := HandSHeadRun.topDef (PySem.W.OpenLaw.row PySem.Challenge.rw_baseclash_k30_sets_of_classes).prog 62) (kwd := []) (fun s => Bc.obX_eq s)
    (by kernel_rfl) (fun s => by kernel_rfl) LwH.hdRun (by kernel_rfl) (by kernel_rfl) (by kernel_rfl) (by rfl) (by first | assumption | decide +kernel) (by decide +kernel) ⟨rfl, rfl, rfl, rfl, rfl, by decide +kernel⟩ ?hw ?hc
  case hw => w_witness2
  case hc =>
    refine Bc.walk_X (l := PySem.Challenge.rw_baseclash_k30_sets_of_classes) (k := 135) (x := "_law_script") (sp := Lw.hdSp) rfl (by kernel_rfl) ⟨rfl, by decide, by decide⟩ (fun K H a ns hl _ hS => ⟨a, ns, rfl, hS, hl, fun _ => rfl⟩) ?F
    intro w K mg fa h KX ce cd G hmg0
    have hmg : mg ("law" : PySem.Str) = some (.ref fa) := by
      have e : (HandSHeadRun.topDef (PySem.W.OpenLaw.row PySem.Challenge.rw_baseclash_k30_sets_of_classes).prog 62).name = ("law" : PySem.Str) := by kernel_rfl
      rw [← e]
      exact hmg0
    exact Lw.filled (l := PySem.Challenge.rw_baseclash_k30_sets_of_classes) KX G hmg ce cd
