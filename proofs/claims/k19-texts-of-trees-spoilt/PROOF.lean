import PyProof.Rows.All
import Wide.All
import OpenK.AllK
import Wide.FinOn
import HandS.ForMost
import HandS.Flow
import HandS.Style
import HandS.Wide
import HandS.TupAny
import HandS.TupMul
import HandS.Deep
import HandS.Conv
import HandS.More
import HandS.IsInst
import HandS.Walk
import HandS.MakeKwOnly
import HandS.CallLocal
import HandS.NoneIn
import KE.KUnpackStar
import PyProof.DictUpdate
import HandS.Text
import HandS.ExcInit
import HandS.ExcOwn
import HandS.ExcField
import HandS.ExcIs
import HandS.ExcBuiltin
import HandS.WordsExc
import HandS.CallSlots
import KE.KExcInit
import HandS.TryOnly
import PyProof.ExcBaseAll.LookupError
import PyProof.ExcBaseAll.IndexError
import PyProof.ExcBaseAll.RuntimeError
import PyProof.ExcBaseAll.ArithmeticError
import PyProof.ExcBaseAll.OverflowError
import PyProof.RulesRaise
import PyProof.FactsTree
import HandS.ExcInitHot
import HandS.SuiteRaise
import HandS.RaiseFrom
import HandS.Ends
import PyProof.ReprRoads
import HandS.HeadEnd
import PyProof.FitsInt
import PyProof.StrLawsRepr
import HandS.DeepEq
import HandS.Finally
import HandS.WrittenGet
import PyProof.Rows.StrStep
import PyProof.Rows.StrRev
import PyProof.Rows.StrFit
import PyProof.Rows.StrMul
import PyProof.StrBlock2
import KE.IntTextText
import KE.KIntText
import HandS.Codes
import HandS.Head0
import HandS.Head1
import HandS.Head2
import HandS.HeadHook1
import HandS.HeadHook2
import HandS.HeadHook3
import HandS.HeadHook4
import PySem.Challenge.RW_threereckons_k19_texts_of_trees_spoilt
set_option Elab.async false
set_option linter.all false
set_option maxRecDepth 100000
set_option maxHeartbeats 4000000
set_option hygiene false
local macro_rules | `(tactic| walk_at "sql") => `(tactic| (first | exact SqL.of (hw.at 0 rfl) | exact SqL.of (hw.at 1 rfl) | exact SqL.of (hw.at 2 rfl) | exact SqL.of (hw.at 3 rfl) | exact SqL.of (hw.at 4 rfl) | exact SqL.of (hw.at 5 rfl) | exact SqL.of (hw.at 6 rfl) | exact SqL.of (hw.kn 0 rfl) | exact SqL.of (hw.kn 1 rfl) | exact SqL.of (hw.kn 2 rfl) | exact SqL.of (hw.kn 3 rfl) | exact SqL.of (hw.kn 4 rfl) | exact SqL.of (Rp.ints (hw.rp 0 rfl)) | exact SqL.of (Rp.ints (hw.rp 1 rfl)) | exact SqL.of (Rp.ints (hw.rp 2 rfl)) | exact SqL.of (Rp.ints (hw.rp 3 rfl)) | exact SqL.of (Rp.strs (hw.rp 0 rfl)) | exact SqL.of (Rp.strs (hw.rp 1 rfl)) | exact SqL.of (Rp.strs (hw.rp 2 rfl)) | exact SqL.of (Rp.strs (hw.rp 3 rfl)) | assumption | exact hw.sq0 (by assumption)))
local macro_rules | `(tactic| walk_at "lst") => `(tactic| (first | exact hw.at 0 rfl | exact hw.at 1 rfl | exact hw.at 2 rfl | exact hw.at 3 rfl | exact hw.at 4 rfl | exact hw.at 5 rfl | exact hw.at 6 rfl | exact hw.kn 0 rfl | exact hw.kn 1 rfl | exact hw.kn 2 rfl | exact hw.kn 3 rfl | exact hw.kn 4 rfl | exact Rp.ints (hw.rp 0 rfl) | exact Rp.ints (hw.rp 1 rfl) | exact Rp.ints (hw.rp 2 rfl) | exact Rp.ints (hw.rp 3 rfl) | exact Rp.strs (hw.rp 0 rfl) | exact Rp.strs (hw.rp 1 rfl) | exact Rp.strs (hw.rp 2 rfl) | exact Rp.strs (hw.rp 3 rfl) | assumption))
local macro_rules | `(tactic| walk_at "sqt") => `(tactic| (first | exact SqT.of (hw.at 0 rfl) | exact SqT.of (hw.at 1 rfl) | exact SqT.of (hw.at 2 rfl) | exact SqT.of (hw.at 3 rfl) | exact SqT.of (hw.at 4 rfl) | exact SqT.of (hw.at 5 rfl) | exact SqT.of (hw.at 6 rfl) | exact hw.tp 0 rfl | exact hw.tp 1 rfl | exact hw.tp 2 rfl | exact hw.tp 3 rfl | exact hw.tp 4 rfl | exact SqT.of (hw.kn 0 rfl) | exact SqT.of (hw.kn 1 rfl) | exact SqT.of (hw.kn 2 rfl) | exact SqT.of (hw.kn 3 rfl) | exact SqT.of (hw.kn 4 rfl) | assumption))
local macro_rules | `(tactic| walk_at "dd") => `(tactic| (repeat' (first | exact DdAll.nil | apply DdAll.cons | exact Dd.int _ | exact Dd.str _ | exact Dd.bl _ | exact Dd.non | exact hw.rp 0 rfl | exact hw.rp 1 rfl | exact hw.rp 2 rfl | exact hw.rp 3 rfl | exact hw.rp 4 rfl | exact hw.rp 5 rfl | exact hw.rp 6 rfl | exact hw.rp 7 rfl | exact hw.rp 8 rfl | exact hw.rp 9 rfl | exact hw.rp 10 rfl | exact hw.rp 11 rfl | exact hw.rp 12 rfl | exact hw.rp 13 rfl | assumption)))
local macro_rules | `(tactic| walk_at "nm") => `(tactic| (try simp only [List.set_cons_zero, List.set_cons_succ] at hw))
local macro_rules | `(tactic| walk_at "sx") => `(tactic| (repeat (first | ((with_reducible refine' x_var ?zzh ?_); (case zzh => rfl)) | with_reducible refine x_truB ?_ | with_reducible refine x_orT ?_ | with_reducible refine x_inSign ?_ | with_reducible refine x_fldOf ?_ | with_reducible refine x_mkO ?_ | with_reducible refine x_callNS ?_ | with_reducible refine x_callS ?_ | with_reducible refine x_bm ?_ | with_reducible refine x_bm0 ?_ | with_reducible refine x_tyS ?_ | with_reducible refine x_pairs ?_ | with_reducible refine x_pairs0 ?_ | with_reducible refine x_rev ?_ | with_reducible refine x_chain ?_ | with_reducible refine x_nx ?_ | with_reducible refine x_seq ?_ | with_reducible refine x_op ?_ | with_reducible refine x_cons ?_ | with_reducible refine x_nil ?_ | with_reducible refine x_c ?_ | with_reducible refine x_set ?_ | with_reducible refine x_ret ?_ | with_reducible refine x_rt ?_ | with_reducible refine x_cb ?_ | with_reducible refine x_call ?_ | with_reducible refine x_test ?_ | with_reducible refine x_B ?_ | with_reducible refine x_ifS ?_ | with_reducible refine x_if ?_ | with_reducible refine x_and ?_ | with_reducible refine x_or ?_ | with_reducible refine x_not ?_ | with_reducible refine x_andV ?_ | with_reducible refine x_orV ?_ | with_reducible refine x_notV ?_ | with_reducible refine x_un ?_ | with_reducible refine x_asgS ?_ | with_reducible refine x_asgT ?_ | with_reducible refine x_asgG ?_ | with_reducible refine x_drop ?_ | with_reducible refine x_next ?_ | with_reducible refine x_par ?_ | with_reducible refine x_par3 ?_ | with_reducible refine x_is2 ?_ | with_reducible refine x_is3 ?_ | with_reducible refine x_sl ?_ | with_reducible refine x_nopart ?_ | with_reducible refine x_part ?_ | with_reducible refine x_isint ?_ | with_reducible refine x_isbl ?_ | with_reducible refine x_addI ?_ | with_reducible refine x_rI0 ?_ | with_reducible refine x_rU ?_ | with_reducible refine x_isNI ?_ | with_reducible refine x_isNS ?_ | with_reducible refine x_isNB ?_ | with_reducible refine x_isNR ?_ | with_reducible refine x_isNN ?_ | with_reducible refine x_isNotNI ?_ | with_reducible refine x_isNotNS ?_ | with_reducible refine x_isNotNB ?_ | with_reducible refine x_isNotNR ?_ | with_reducible refine x_isNotNN ?_ | with_reducible refine x_eqR rfl ?_ | with_reducible refine x_neR rfl ?_ | with_reducible refine x_eqI ?_ | with_reducible refine x_neI ?_ | with_reducible refine x_eqStr ?_ | with_reducible refine x_neStr ?_ | with_reducible refine x_eqB ?_ | with_reducible refine x_neB ?_ | with_reducible refine x_isN ?_ | with_reducible refine x_isNotN ?_ | with_reducible refine x_isB ?_ | with_reducible refine x_isNotB ?_ | with_reducible refine x_minM ?_ | with_reducible refine x_maxM ?_ | with_reducible refine x_ifT ?_ | with_reducible refine x_ifF ?_ | with_reducible refine x_ifnT ?_ | with_reducible refine x_ifnF ?_ | with_reducible refine x_lst ?_ | with_reducible refine x_tup ?_ | with_reducible refine x_abs ?_ | with_reducible refine x_intI ?_ | with_reducible refine x_intB ?_ | with_reducible refine x_callN ?_ | with_reducible refine x_dget ?_ | with_reducible refine x_gName ?_ | with_reducible refine x_gCons ?_ | with_reducible refine x_gNil ?_ | with_reducible refine x_forK ?_ | with_reducible refine x_lc ?_ | with_reducible refine x_yes ?_ | with_reducible refine x_iU ?_ | with_reducible refine x_itS ?_ | with_reducible refine x_iList ?_ | with_reducible refine x_iTup ?_ | with_reducible refine x_iRng1 ?_ | with_reducible refine x_iRng2 ?_ | with_reducible refine x_iEnum ?_ | with_reducible refine x_iZip ?_ | with_reducible refine x_brk ?_ | with_reducible refine x_cont ?_ | with_reducible refine x_ct ?_ | with_reducible refine x_bk ?_ | ((with_reducible refine' x_aug ?zzh ?_); (case zzh => rfl)) | with_reducible refine x_ipI ?_ | ((with_reducible refine x_eqS ?zzh ?_); (case zzh => rfl)) | ((with_reducible refine x_neS ?zzh ?_); (case zzh => rfl)) | ((with_reducible refine x_mulI ?zzh ?_); (case zzh => first | exact .inl ⟨by omega, by omega⟩ | exact .inr ⟨by omega, by omega⟩)) | ((with_reducible refine x_rI ?zzh ?_); (case zzh => first | omega | exact ⟨by omega, by omega⟩ | exact ⟨by omega, by omega, by omega⟩)) | ((with_reducible refine' x_ixL ?zzh ?zze ?_); (case zzh => walk_at "sql"); (case zze => (first | rfl | assumption | exact atI_nat rfl | (simp; done)))) | ((with_reducible refine' x_lenL ?zzh ?_); (case zzh => walk_at "sql")) | ((with_reducible refine' w_setL hw 0 ?zzh ?zze ?_); (case zzh => rfl); (case zze => first | rfl | assumption); intro H hw; walk_at "nm") | ((with_reducible refine' w_setL hw 1 ?zzh ?zze ?_); (case zzh => rfl); (case zze => first | rfl | assumption); intro H hw; walk_at "nm") | ((with_reducible refine' w_setL hw 2 ?zzh ?zze ?_); (case zzh => rfl); (case zze => first | rfl | assumption); intro H hw; walk_at "nm") | ((with_reducible refine' w_setL hw 3 ?zzh ?zze ?_); (case zzh => rfl); (case zze => first | rfl | assumption); intro H hw; walk_at "nm") | ((with_reducible refine w_lst hw (by first | exact szl rfl | assumption) ?_); intro p H hp hw) | ((with_reducible refine w_tupC hw (by first | exact szl rfl | assumption) ?_); intro p H hp hw) | ((with_reducible refine' x_inT ?zzh ?zze ?zze2 ?_); (case zzh => walk_at "sqt"); (case zze => rfl); (case zze2 => rfl)) | ((with_reducible refine' x_inL ?zzh ?zze ?zze2 ?_); (case zzh => walk_at "sql"); (case zze => rfl); (case zze2 => rfl)) | ((with_reducible refine' x_notInT ?zzh ?zze ?zze2 ?_); (case zzh => walk_at "sqt"); (case zze => rfl); (case zze2 => rfl)) | ((with_reducible refine' x_notInL ?zzh ?zze ?zze2 ?_); (case zzh => walk_at "sql"); (case zze => rfl); (case zze2 => rfl)) | ((with_reducible refine' x_ixT ?zzh ?zze ?_); (case zzh => walk_at "sqt"); (case zze => (first | rfl | assumption | exact atI_nat rfl | (simp; done)))) | ((with_reducible refine' w_slL hw ?zzh ?_); (case zzh => walk_at "sql"); intro p H hp hw) | ((with_reducible refine' w_listL hw ?zzh ?_); (case zzh => walk_at "sql"); intro p H hp hw) | ((with_reducible refine' x_itL ?zzh ?_); (case zzh => walk_at "sql")) | ((with_reducible refine' x_itT ?zzh ?_); (case zzh => walk_at "sqt")) | ((with_reducible refine' x_iL ?zzh ?_); (case zzh => walk_at "sql")) | ((with_reducible refine' x_en ?zzh ?_); (case zzh => walk_at "sql")) | ((with_reducible refine x_rng1 ?zzh1 ?zzh2 ?_); (case zzh1 => first | omega | (simp only [List.length_map]; omega)); (case zzh2 => first | omega | (simp only [List.length_map]; omega))) | ((with_reducible refine x_rng2 ?zzh ?_); (case zzh => first | exact ⟨by omega, by omega, by omega, by omega⟩)) | ((with_reducible refine' x_gTup ?zzh ?zze ?_); (case zzh => walk_at "sqt"); (case zze => rfl)) | (with_reducible refine x_wipe rfl ?_) | ((with_reducible refine' w_app hw 0 ?zzh ?zze ?_); (case zzh => rfl); (case zze => first | (refine sz_lt ?_; simp; done) | (refine sz_lt ?_; simp; omega) | assumption); intro H hw; walk_at "nm") | ((with_reducible refine' w_app hw 1 ?zzh ?zze ?_); (case zzh => rfl); (case zze => first | (refine sz_lt ?_; simp; done) | (refine sz_lt ?_; simp; omega) | assumption); intro H hw; walk_at "nm") | ((with_reducible refine' w_app hw 2 ?zzh ?zze ?_); (case zzh => rfl); (case zze => first | (refine sz_lt ?_; simp; done) | (refine sz_lt ?_; simp; omega) | assumption); intro H hw; walk_at "nm") | ((with_reducible refine' w_app hw 3 ?zzh ?zze ?_); (case zzh => rfl); (case zze => first | (refine sz_lt ?_; simp; done) | (refine sz_lt ?_; simp; omega) | assumption); intro H hw; walk_at "nm") | ((with_reducible refine' w_app hw 4 ?zzh ?zze ?_); (case zzh => rfl); (case zze => first | (refine sz_lt ?_; simp; done) | (refine sz_lt ?_; simp; omega) | assumption); intro H hw; walk_at "nm") | ((with_reducible refine' x_callL ?zzh ?_); (case zzh => rfl)) | (with_reducible refine x_lens rfl rfl ?_) | ((with_reducible refine' x_sum ?zzh ?_); (case zzh => walk_at "sql")) | ((with_reducible refine' x_gU2 ?zzh ?_); (case zzh => walk_at "sql")) | ((with_reducible refine' x_gU3 ?zzh ?_); (case zzh => walk_at "sql")) | ((with_reducible refine' x_gStL1 hw ?zzh ?zze ?_); (case zzh => walk_at "sql"); (case zze => simp); intro p H hp hw) | ((with_reducible refine' x_take hw 0 ?zzh ?zzbx ?zze ?zze2 ?zze3 ?_); (case zzh => rfl); (case zzbx => assumption); (case zze => omega); (case zze2 => omega); (case zze3 => omega); intro r a c H hr0 hr1 bx hcc hw; walk_at "nm") | ((with_reducible refine' x_take hw 1 ?zzh ?zzbx ?zze ?zze2 ?zze3 ?_); (case zzh => rfl); (case zzbx => assumption); (case zze => omega); (case zze2 => omega); (case zze3 => omega); intro r a c H hr0 hr1 bx hcc hw; walk_at "nm") | ((with_reducible refine' x_take hw 2 ?zzh ?zzbx ?zze ?zze2 ?zze3 ?_); (case zzh => rfl); (case zzbx => assumption); (case zze => omega); (case zze2 => omega); (case zze3 => omega); intro r a c H hr0 hr1 bx hcc hw; walk_at "nm") | ((with_reducible refine' x_take hw 3 ?zzh ?zzbx ?zze ?zze2 ?zze3 ?_); (case zzh => rfl); (case zzbx => assumption); (case zze => omega); (case zze2 => omega); (case zze3 => omega); intro r a c H hr0 hr1 bx hcc hw; walk_at "nm") | ((with_reducible refine' x_take hw 4 ?zzh ?zzbx ?zze ?zze2 ?zze3 ?_); (case zzh => rfl); (case zzbx => assumption); (case zze => omega); (case zze2 => omega); (case zze3 => omega); intro r a c H hr0 hr1 bx hcc hw; walk_at "nm") | ((with_reducible refine' w_cat hw ?zzh1 ?zzh2 ?zze ?_); (case zzh1 => walk_at "lst"); (case zzh2 => walk_at "lst"); (case zze => first | exact szl rfl | (simp; omega)); intro p H hp hw) | ((with_reducible refine' w_rev hw ?zzh ?_); (case zzh => walk_at "sql"); intro p H hp hw) | ((with_reducible refine' w_disp hw ?_); intro p H hp hw) | ((with_reducible refine' w_dispEnd hw 0 ?zzh ?zze ?zze2 ?_); (case zzh => rfl); (case zze => rfl); (case zze2 => exact Nat.le_of_ble_eq_true rfl); intro H hw; walk_at "nm") | ((with_reducible refine' w_dispEnd hw 1 ?zzh ?zze ?zze2 ?_); (case zzh => rfl); (case zze => rfl); (case zze2 => exact Nat.le_of_ble_eq_true rfl); intro H hw; walk_at "nm") | ((with_reducible refine' w_dispEnd hw 2 ?zzh ?zze ?zze2 ?_); (case zzh => rfl); (case zze => rfl); (case zze2 => exact Nat.le_of_ble_eq_true rfl); intro H hw; walk_at "nm") | ((with_reducible refine' w_dispEnd hw 3 ?zzh ?zze ?zze2 ?_); (case zzh => rfl); (case zze => rfl); (case zze2 => exact Nat.le_of_ble_eq_true rfl); intro H hw; walk_at "nm") | ((with_reducible refine' w_update (n := 1) (m := 0) hw ?zzh ?zzh2 (by decide) ?zze ?_); (case zzh => rfl); (case zzh2 => rfl); (case zze => exact Nat.le_of_ble_eq_true rfl); intro H hw; walk_at "nm") | ((with_reducible refine' w_update (n := 0) (m := 1) hw ?zzh ?zzh2 (by decide) ?zze ?_); (case zzh => rfl); (case zzh2 => rfl); (case zze => exact Nat.le_of_ble_eq_true rfl); intro H hw; walk_at "nm") | ((with_reducible refine' w_update (n := 2) (m := 0) hw ?zzh ?zzh2 (by decide) ?zze ?_); (case zzh => rfl); (case zzh2 => rfl); (case zze => exact Nat.le_of_ble_eq_true rfl); intro H hw; walk_at "nm") | (with_reducible refine x_isiI (b := true) (by decide +kernel) ?_) | (with_reducible refine x_isiB (b := true) (by decide +kernel) ?_) | (with_reducible refine x_isiS (b := true) (by decide +kernel) ?_) | (with_reducible refine x_isiN (b := true) (by decide +kernel) ?_) | (with_reducible refine x_isiI (b := false) (by decide +kernel) ?_) | (with_reducible refine x_isiB (b := false) (by decide +kernel) ?_) | (with_reducible refine x_isiS (b := false) (by decide +kernel) ?_) | (with_reducible refine x_isiN (b := false) (by decide +kernel) ?_) | ((with_reducible refine' x_eqIL ?zzh1 ?zzh2 ?_); (case zzh1 => walk_at "lst"); (case zzh2 => walk_at "lst")) | ((with_reducible refine' x_neIL ?zzh1 ?zzh2 ?_); (case zzh1 => walk_at "lst"); (case zzh2 => walk_at "lst")) | ((with_reducible refine' x_tyL ?zzh ?_); (case zzh => walk_at "lst")) | ((with_reducible refine' x_tyD ?zzh ?_); (case zzh => walk_at "lst")) | ((with_reducible refine' w_append (n := 0) hw ?zzh ?zze ?_); (case zzh => rfl); (case zze => first | (refine sz_lt ?_; simp; done) | (refine sz_lt ?_; simp; omega) | assumption); intro H hw; walk_at "nm") | ((with_reducible refine' w_append (n := 1) hw ?zzh ?zze ?_); (case zzh => rfl); (case zze => first | (refine sz_lt ?_; simp; done) | (refine sz_lt ?_; simp; omega) | assumption); intro H hw; walk_at "nm") | ((with_reducible refine' w_append (n := 2) hw ?zzh ?zze ?_); (case zzh => rfl); (case zze => first | (refine sz_lt ?_; simp; done) | (refine sz_lt ?_; simp; omega) | assumption); intro H hw; walk_at "nm") | ((with_reducible refine' w_append (n := 3) hw ?zzh ?zze ?_); (case zzh => rfl); (case zze => first | (refine sz_lt ?_; simp; done) | (refine sz_lt ?_; simp; omega) | assumption); intro H hw; walk_at "nm") | ((with_reducible refine' x_dgetS ?zzh ?zze ?_); (case zzh => walk_at "lst"); (case zze => rfl)) | ((with_reducible refine x_ifP (by first | omega | exact rfl) ?_)) | ((with_reducible refine x_ifN (by omega) ?_)) | ((with_reducible refine x_ifnP (by first | omega | exact rfl) ?_)) | ((with_reducible refine x_ifnN (by omega) ?_)) | (with_reducible refine x_ifbT (by decide +kernel) ?_) | (with_reducible refine x_ifbF (by decide +kernel) ?_))))
local macro_rules | `(tactic| walk_at "sxd") => `(tactic| (repeat (first | ((with_reducible refine' x_var ?zzh ?_); (case zzh => rfl)) | with_reducible refine x_truB ?_ | with_reducible refine x_orT ?_ | with_reducible refine x_inSign ?_ | with_reducible refine x_fldOf ?_ | with_reducible refine x_mkO ?_ | with_reducible refine x_callNS ?_ | with_reducible refine x_callS ?_ | with_reducible refine x_bm ?_ | with_reducible refine x_bm0 ?_ | with_reducible refine x_tyS ?_ | with_reducible refine x_pairs ?_ | with_reducible refine x_pairs0 ?_ | with_reducible refine x_rev ?_ | with_reducible refine x_chain ?_ | with_reducible refine x_nx ?_ | with_reducible refine x_seq ?_ | with_reducible refine x_op ?_ | with_reducible refine x_cons ?_ | with_reducible refine x_nil ?_ | with_reducible refine x_c ?_ | with_reducible refine x_set ?_ | with_reducible refine x_ret ?_ | with_reducible refine x_rt ?_ | with_reducible refine x_cb ?_ | with_reducible refine x_call ?_ | with_reducible refine x_test ?_ | with_reducible refine x_B ?_ | with_reducible refine x_ifS ?_ | with_reducible refine x_if ?_ | with_reducible refine x_and ?_ | with_reducible refine x_or ?_ | with_reducible refine x_not ?_ | with_reducible refine x_andV ?_ | with_reducible refine x_orV ?_ | with_reducible refine x_notV ?_ | with_reducible refine x_un ?_ | with_reducible refine x_asgS ?_ | with_reducible refine x_asgT ?_ | with_reducible refine x_asgG ?_ | with_reducible refine x_drop ?_ | with_reducible refine x_next ?_ | with_reducible refine x_par ?_ | with_reducible refine x_par3 ?_ | with_reducible refine x_is2 ?_ | with_reducible refine x_is3 ?_ | with_reducible refine x_sl ?_ | with_reducible refine x_nopart ?_ | with_reducible refine x_part ?_ | with_reducible refine x_isint ?_ | with_reducible refine x_isbl ?_ | with_reducible refine x_addI ?_ | with_reducible refine x_rI0 ?_ | with_reducible refine x_rU ?_ | with_reducible refine x_isNI ?_ | with_reducible refine x_isNS ?_ | with_reducible refine x_isNB ?_ | with_reducible refine x_isNR ?_ | with_reducible refine x_isNN ?_ | with_reducible refine x_isNotNI ?_ | with_reducible refine x_isNotNS ?_ | with_reducible refine x_isNotNB ?_ | with_reducible refine x_isNotNR ?_ | with_reducible refine x_isNotNN ?_ | with_reducible refine x_eqR rfl ?_ | with_reducible refine x_neR rfl ?_ | with_reducible refine x_eqI ?_ | with_reducible refine x_neI ?_ | with_reducible refine x_eqStr ?_ | with_reducible refine x_neStr ?_ | with_reducible refine x_eqB ?_ | with_reducible refine x_neB ?_ | with_reducible refine x_isN ?_ | with_reducible refine x_isNotN ?_ | with_reducible refine x_isB ?_ | with_reducible refine x_isNotB ?_ | with_reducible refine x_minM ?_ | with_reducible refine x_maxM ?_ | with_reducible refine x_ifT ?_ | with_reducible refine x_ifF ?_ | with_reducible refine x_ifnT ?_ | with_reducible refine x_ifnF ?_ | with_reducible refine x_lst ?_ | with_reducible refine x_tup ?_ | with_reducible refine x_abs ?_ | with_reducible refine x_intI ?_ | with_reducible refine x_intB ?_ | with_reducible refine x_callN ?_ | with_reducible refine x_dget ?_ | with_reducible refine x_gName ?_ | with_reducible refine x_gCons ?_ | with_reducible refine x_gNil ?_ | with_reducible refine x_forK ?_ | with_reducible refine x_lc ?_ | with_reducible refine x_yes ?_ | with_reducible refine x_iU ?_ | with_reducible refine x_itS ?_ | with_reducible refine x_iList ?_ | with_reducible refine x_iTup ?_ | with_reducible refine x_iRng1 ?_ | with_reducible refine x_iRng2 ?_ | with_reducible refine x_iEnum ?_ | with_reducible refine x_iZip ?_ | with_reducible refine x_brk ?_ | with_reducible refine x_cont ?_ | with_reducible refine x_ct ?_ | with_reducible refine x_bk ?_ | ((with_reducible refine' x_aug ?zzh ?_); (case zzh => rfl)) | with_reducible refine x_ipI ?_ | ((with_reducible refine x_eqS ?zzh ?_); (case zzh => rfl)) | ((with_reducible refine x_neS ?zzh ?_); (case zzh => rfl)) | ((with_reducible refine x_mulI ?zzh ?_); (case zzh => first | exact .inl ⟨by omega, by omega⟩ | exact .inr ⟨by omega, by omega⟩)) | ((with_reducible refine x_rI ?zzh ?_); (case zzh => first | omega | exact ⟨by omega, by omega⟩ | exact ⟨by omega, by omega, by omega⟩)) | ((with_reducible refine' x_ixL ?zzh ?zze ?_); (case zzh => walk_at "sql"); (case zze => (first | rfl | assumption | exact atI_nat rfl | (simp; done)))) | ((with_reducible refine' x_lenL ?zzh ?_); (case zzh => walk_at "sql")) | ((with_reducible refine' w_setL hw 0 ?zzh ?zze ?_); (case zzh => rfl); (case zze => first | rfl | assumption); intro H hw; walk_at "nm") | ((with_reducible refine' w_setL hw 1 ?zzh ?zze ?_); (case zzh => rfl); (case zze => first | rfl | assumption); intro H hw; walk_at "nm") | ((with_reducible refine' w_setL hw 2 ?zzh ?zze ?_); (case zzh => rfl); (case zze => first | rfl | assumption); intro H hw; walk_at "nm") | ((with_reducible refine' w_setL hw 3 ?zzh ?zze ?_); (case zzh => rfl); (case zze => first | rfl | assumption); intro H hw; walk_at "nm") | ((with_reducible refine' w_lstD hw ?zzd ?zze ?_); (case zzd => walk_at "dd"); (case zze => exact szl rfl); intro p H hp hw) | ((with_reducible refine' w_tupD hw ?zzd ?zze ?_); (case zzd => walk_at "dd"); (case zze => exact szl rfl); intro p H hp hw) | ((with_reducible refine' x_inT ?zzh ?zze ?zze2 ?_); (case zzh => walk_at "sqt"); (case zze => rfl); (case zze2 => rfl)) | ((with_reducible refine' x_inL ?zzh ?zze ?zze2 ?_); (case zzh => walk_at "sql"); (case zze => rfl); (case zze2 => rfl)) | ((with_reducible refine' x_notInT ?zzh ?zze ?zze2 ?_); (case zzh => walk_at "sqt"); (case zze => rfl); (case zze2 => rfl)) | ((with_reducible refine' x_notInL ?zzh ?zze ?zze2 ?_); (case zzh => walk_at "sql"); (case zze => rfl); (case zze2 => rfl)) | ((with_reducible refine' x_ixT ?zzh ?zze ?_); (case zzh => walk_at "sqt"); (case zze => (first | rfl | assumption | exact atI_nat rfl | (simp; done)))) | ((with_reducible refine' w_slL hw ?zzh ?_); (case zzh => walk_at "sql"); intro p H hp hw) | ((with_reducible refine' w_listL hw ?zzh ?_); (case zzh => walk_at "sql"); intro p H hp hw) | ((with_reducible refine' x_itL ?zzh ?_); (case zzh => walk_at "sql")) | ((with_reducible refine' x_itT ?zzh ?_); (case zzh => walk_at "sqt")) | ((with_reducible refine' x_iL ?zzh ?_); (case zzh => walk_at "sql")) | ((with_reducible refine' x_en ?zzh ?_); (case zzh => walk_at "sql")) | ((with_reducible refine x_rng1 ?zzh1 ?zzh2 ?_); (case zzh1 => first | omega | (simp only [List.length_map]; omega)); (case zzh2 => first | omega | (simp only [List.length_map]; omega))) | ((with_reducible refine x_rng2 ?zzh ?_); (case zzh => first | exact ⟨by omega, by omega, by omega, by omega⟩)) | ((with_reducible refine' x_gTup ?zzh ?zze ?_); (case zzh => walk_at "sqt"); (case zze => rfl)) | (with_reducible refine x_wipe rfl ?_) | ((with_reducible refine' w_app hw 0 ?zzh ?zze ?_); (case zzh => rfl); (case zze => first | (refine sz_lt ?_; simp; done) | (refine sz_lt ?_; simp; omega) | assumption); intro H hw; walk_at "nm") | ((with_reducible refine' w_app hw 1 ?zzh ?zze ?_); (case zzh => rfl); (case zze => first | (refine sz_lt ?_; simp; done) | (refine sz_lt ?_; simp; omega) | assumption); intro H hw; walk_at "nm") | ((with_reducible refine' w_app hw 2 ?zzh ?zze ?_); (case zzh => rfl); (case zze => first | (refine sz_lt ?_; simp; done) | (refine sz_lt ?_; simp; omega) | assumption); intro H hw; walk_at "nm") | ((with_reducible refine' w_app hw 3 ?zzh ?zze ?_); (case zzh => rfl); (case zze => first | (refine sz_lt ?_; simp; done) | (refine sz_lt ?_; simp; omega) | assumption); intro H hw; walk_at "nm") | ((with_reducible refine' w_app hw 4 ?zzh ?zze ?_); (case zzh => rfl); (case zze => first | (refine sz_lt ?_; simp; done) | (refine sz_lt ?_; simp; omega) | assumption); intro H hw; walk_at "nm") | ((with_reducible refine' x_callL ?zzh ?_); (case zzh => rfl)) | (with_reducible refine x_lens rfl rfl ?_) | ((with_reducible refine' x_sum ?zzh ?_); (case zzh => walk_at "sql")) | ((with_reducible refine' x_gU2 ?zzh ?_); (case zzh => walk_at "sql")) | ((with_reducible refine' x_gU3 ?zzh ?_); (case zzh => walk_at "sql")) | ((with_reducible refine' x_gStL1 hw ?zzh ?zze ?_); (case zzh => walk_at "sql"); (case zze => simp); intro p H hp hw) | ((with_reducible refine' x_take hw 0 ?zzh ?zzbx ?zze ?zze2 ?zze3 ?_); (case zzh => rfl); (case zzbx => assumption); (case zze => omega); (case zze2 => omega); (case zze3 => omega); intro r a c H hr0 hr1 bx hcc hw; walk_at "nm") | ((with_reducible refine' x_take hw 1 ?zzh ?zzbx ?zze ?zze2 ?zze3 ?_); (case zzh => rfl); (case zzbx => assumption); (case zze => omega); (case zze2 => omega); (case zze3 => omega); intro r a c H hr0 hr1 bx hcc hw; walk_at "nm") | ((with_reducible refine' x_take hw 2 ?zzh ?zzbx ?zze ?zze2 ?zze3 ?_); (case zzh => rfl); (case zzbx => assumption); (case zze => omega); (case zze2 => omega); (case zze3 => omega); intro r a c H hr0 hr1 bx hcc hw; walk_at "nm") | ((with_reducible refine' x_take hw 3 ?zzh ?zzbx ?zze ?zze2 ?zze3 ?_); (case zzh => rfl); (case zzbx => assumption); (case zze => omega); (case zze2 => omega); (case zze3 => omega); intro r a c H hr0 hr1 bx hcc hw; walk_at "nm") | ((with_reducible refine' x_take hw 4 ?zzh ?zzbx ?zze ?zze2 ?zze3 ?_); (case zzh => rfl); (case zzbx => assumption); (case zze => omega); (case zze2 => omega); (case zze3 => omega); intro r a c H hr0 hr1 bx hcc hw; walk_at "nm") | ((with_reducible refine' w_catD hw ?zzh1 ?zzh2 ?zze ?_); (case zzh1 => walk_at "dd"); (case zzh2 => walk_at "dd"); (case zze => exact szl rfl); intro p H hp hw) | ((with_reducible refine' w_cat hw ?zzh1 ?zzh2 ?zze ?_); (case zzh1 => walk_at "lst"); (case zzh2 => walk_at "lst"); (case zze => first | exact szl rfl | (simp; omega)); intro p H hp hw) | ((with_reducible refine' w_rev hw ?zzh ?_); (case zzh => walk_at "sql"); intro p H hp hw) | ((with_reducible refine' w_disp hw ?_); intro p H hp hw) | ((with_reducible refine' w_dispEnd hw 0 ?zzh ?zze ?zze2 ?_); (case zzh => rfl); (case zze => rfl); (case zze2 => exact Nat.le_of_ble_eq_true rfl); intro H hw; walk_at "nm") | ((with_reducible refine' w_dispEnd hw 1 ?zzh ?zze ?zze2 ?_); (case zzh => rfl); (case zze => rfl); (case zze2 => exact Nat.le_of_ble_eq_true rfl); intro H hw; walk_at "nm") | ((with_reducible refine' w_dispEnd hw 2 ?zzh ?zze ?zze2 ?_); (case zzh => rfl); (case zze => rfl); (case zze2 => exact Nat.le_of_ble_eq_true rfl); intro H hw; walk_at "nm") | ((with_reducible refine' w_dispEnd hw 3 ?zzh ?zze ?zze2 ?_); (case zzh => rfl); (case zze => rfl); (case zze2 => exact Nat.le_of_ble_eq_true rfl); intro H hw; walk_at "nm") | ((with_reducible refine' w_update (n := 1) (m := 0) hw ?zzh ?zzh2 (by decide) ?zze ?_); (case zzh => rfl); (case zzh2 => rfl); (case zze => exact Nat.le_of_ble_eq_true rfl); intro H hw; walk_at "nm") | ((with_reducible refine' w_update (n := 0) (m := 1) hw ?zzh ?zzh2 (by decide) ?zze ?_); (case zzh => rfl); (case zzh2 => rfl); (case zze => exact Nat.le_of_ble_eq_true rfl); intro H hw; walk_at "nm") | ((with_reducible refine' w_update (n := 2) (m := 0) hw ?zzh ?zzh2 (by decide) ?zze ?_); (case zzh => rfl); (case zzh2 => rfl); (case zze => exact Nat.le_of_ble_eq_true rfl); intro H hw; walk_at "nm") | (with_reducible refine x_isiI (b := true) (by decide +kernel) ?_) | (with_reducible refine x_isiB (b := true) (by decide +kernel) ?_) | (with_reducible refine x_isiS (b := true) (by decide +kernel) ?_) | (with_reducible refine x_isiN (b := true) (by decide +kernel) ?_) | (with_reducible refine x_isiI (b := false) (by decide +kernel) ?_) | (with_reducible refine x_isiB (b := false) (by decide +kernel) ?_) | (with_reducible refine x_isiS (b := false) (by decide +kernel) ?_) | (with_reducible refine x_isiN (b := false) (by decide +kernel) ?_) | ((with_reducible refine' x_eqIL ?zzh1 ?zzh2 ?_); (case zzh1 => walk_at "lst"); (case zzh2 => walk_at "lst")) | ((with_reducible refine' x_neIL ?zzh1 ?zzh2 ?_); (case zzh1 => walk_at "lst"); (case zzh2 => walk_at "lst")) | ((with_reducible refine' x_tyL ?zzh ?_); (case zzh => walk_at "lst")) | ((with_reducible refine' x_tyD ?zzh ?_); (case zzh => walk_at "lst")) | ((with_reducible refine' w_append (n := 0) hw ?zzh ?zze ?_); (case zzh => rfl); (case zze => first | (refine sz_lt ?_; simp; done) | (refine sz_lt ?_; simp; omega) | assumption); intro H hw; walk_at "nm") | ((with_reducible refine' w_append (n := 1) hw ?zzh ?zze ?_); (case zzh => rfl); (case zze => first | (refine sz_lt ?_; simp; done) | (refine sz_lt ?_; simp; omega) | assumption); intro H hw; walk_at "nm") | ((with_reducible refine' w_append (n := 2) hw ?zzh ?zze ?_); (case zzh => rfl); (case zze => first | (refine sz_lt ?_; simp; done) | (refine sz_lt ?_; simp; omega) | assumption); intro H hw; walk_at "nm") | ((with_reducible refine' w_append (n := 3) hw ?zzh ?zze ?_); (case zzh => rfl); (case zze => first | (refine sz_lt ?_; simp; done) | (refine sz_lt ?_; simp; omega) | assumption); intro H hw; walk_at "nm") | ((with_reducible refine' x_dgetS ?zzh ?zze ?_); (case zzh => walk_at "lst"); (case zze => rfl)) | ((with_reducible refine x_ifP (by first | omega | exact rfl) ?_)) | ((with_reducible refine x_ifN (by omega) ?_)) | ((with_reducible refine x_ifnP (by first | omega | exact rfl) ?_)) | ((with_reducible refine x_ifnN (by omega) ?_)) | (with_reducible refine x_ifbT (by decide +kernel) ?_) | (with_reducible refine x_ifbF (by decide +kernel) ?_))))
local macro_rules | `(tactic| walk_at "sxp") => `(tactic| (repeat (first | ((with_reducible refine' x_var ?zzh ?_); (case zzh => rfl)) | with_reducible refine x_truB ?_ | with_reducible refine x_orT ?_ | with_reducible refine x_inSign ?_ | with_reducible refine x_fldOf ?_ | with_reducible refine x_mkO ?_ | with_reducible refine x_callNS ?_ | with_reducible refine x_callS ?_ | with_reducible refine x_bm ?_ | with_reducible refine x_bm0 ?_ | with_reducible refine x_tyS ?_ | with_reducible refine x_pairs ?_ | with_reducible refine x_pairs0 ?_ | with_reducible refine x_rev ?_ | with_reducible refine x_chain ?_ | with_reducible refine x_nx ?_ | with_reducible refine x_seq ?_ | with_reducible refine x_op ?_ | with_reducible refine x_cons ?_ | with_reducible refine x_nil ?_ | with_reducible refine x_c ?_ | with_reducible refine x_set ?_ | with_reducible refine x_ret ?_ | with_reducible refine x_rt ?_ | with_reducible refine x_cb ?_ | with_reducible refine x_call ?_ | with_reducible refine x_test ?_ | with_reducible refine x_B ?_ | with_reducible refine x_ifS ?_ | with_reducible refine x_if ?_ | with_reducible refine x_and ?_ | with_reducible refine x_or ?_ | with_reducible refine x_not ?_ | with_reducible refine x_andV ?_ | with_reducible refine x_orV ?_ | with_reducible refine x_notV ?_ | with_reducible refine x_un ?_ | with_reducible refine x_asgS ?_ | with_reducible refine x_asgT ?_ | with_reducible refine x_asgG ?_ | with_reducible refine x_drop ?_ | with_reducible refine x_next ?_ | with_reducible refine x_par ?_ | with_reducible refine x_par3 ?_ | with_reducible refine x_is2 ?_ | with_reducible refine x_is3 ?_ | with_reducible refine x_sl ?_ | with_reducible refine x_nopart ?_ | with_reducible refine x_part ?_ | with_reducible refine x_isint ?_ | with_reducible refine x_isbl ?_ | with_reducible refine x_addI ?_ | with_reducible refine x_rI0 ?_ | with_reducible refine x_rU ?_ | with_reducible refine x_isNI ?_ | with_reducible refine x_isNS ?_ | with_reducible refine x_isNB ?_ | with_reducible refine x_isNR ?_ | with_reducible refine x_isNN ?_ | with_reducible refine x_isNotNI ?_ | with_reducible refine x_isNotNS ?_ | with_reducible refine x_isNotNB ?_ | with_reducible refine x_isNotNR ?_ | with_reducible refine x_isNotNN ?_ | with_reducible refine x_eqR rfl ?_ | with_reducible refine x_neR rfl ?_ | with_reducible refine x_eqI ?_ | with_reducible refine x_neI ?_ | with_reducible refine x_eqStr ?_ | with_reducible refine x_neStr ?_ | with_reducible refine x_eqB ?_ | with_reducible refine x_neB ?_ | with_reducible refine x_isN ?_ | with_reducible refine x_isNotN ?_ | with_reducible refine x_isB ?_ | with_reducible refine x_isNotB ?_ | with_reducible refine x_minM ?_ | with_reducible refine x_maxM ?_ | with_reducible refine x_ifT ?_ | with_reducible refine x_ifF ?_ | with_reducible refine x_ifnT ?_ | with_reducible refine x_ifnF ?_ | with_reducible refine x_lst ?_ | with_reducible refine x_tup ?_ | with_reducible refine x_abs ?_ | with_reducible refine x_intI ?_ | with_reducible refine x_intB ?_ | with_reducible refine x_callN ?_ | with_reducible refine x_dget ?_ | with_reducible refine x_gName ?_ | with_reducible refine x_gCons ?_ | with_reducible refine x_gNil ?_ | with_reducible refine x_forK ?_ | with_reducible refine x_lc ?_ | with_reducible refine x_yes ?_ | with_reducible refine x_iU ?_ | with_reducible refine x_itS ?_ | with_reducible refine x_iList ?_ | with_reducible refine x_iTup ?_ | with_reducible refine x_iRng1 ?_ | with_reducible refine x_iRng2 ?_ | with_reducible refine x_iEnum ?_ | with_reducible refine x_iZip ?_ | with_reducible refine x_brk ?_ | with_reducible refine x_cont ?_ | with_reducible refine x_ct ?_ | with_reducible refine x_bk ?_ | ((with_reducible refine' x_aug ?zzh ?_); (case zzh => rfl)) | with_reducible refine x_ipI ?_ | ((with_reducible refine x_eqS ?zzh ?_); (case zzh => rfl)) | ((with_reducible refine x_neS ?zzh ?_); (case zzh => rfl)) | ((with_reducible refine x_mulI ?zzh ?_); (case zzh => first | exact .inl ⟨by omega, by omega⟩ | exact .inr ⟨by omega, by omega⟩)) | ((with_reducible refine x_rI ?zzh ?_); (case zzh => first | omega | exact ⟨by omega, by omega⟩ | exact ⟨by omega, by omega, by omega⟩)) | ((with_reducible refine' x_ixL ?zzh ?zze ?_); (case zzh => walk_at "sql"); (case zze => (first | rfl | assumption | exact atI_nat rfl | (simp; done)))) | ((with_reducible refine' x_lenL ?zzh ?_); (case zzh => walk_at "sql")) | ((with_reducible refine' w_setL hw 0 ?zzh ?zze ?_); (case zzh => rfl); (case zze => first | rfl | assumption); intro H hw; walk_at "nm") | ((with_reducible refine' w_setL hw 1 ?zzh ?zze ?_); (case zzh => rfl); (case zze => first | rfl | assumption); intro H hw; walk_at "nm") | ((with_reducible refine' w_setL hw 2 ?zzh ?zze ?_); (case zzh => rfl); (case zze => first | rfl | assumption); intro H hw; walk_at "nm") | ((with_reducible refine' w_setL hw 3 ?zzh ?zze ?_); (case zzh => rfl); (case zze => first | rfl | assumption); intro H hw; walk_at "nm") | ((with_reducible refine w_lst hw (by first | exact szl rfl | assumption) ?_); intro p H hp hw) | ((with_reducible refine w_tupC hw (by first | exact szl rfl | assumption) ?_); intro p H hp hw) | ((with_reducible refine' x_inT ?zzh ?zze ?zze2 ?_); (case zzh => walk_at "sqt"); (case zze => rfl); (case zze2 => rfl)) | ((with_reducible refine' x_inL ?zzh ?zze ?zze2 ?_); (case zzh => walk_at "sql"); (case zze => rfl); (case zze2 => rfl)) | ((with_reducible refine' x_notInT ?zzh ?zze ?zze2 ?_); (case zzh => walk_at "sqt"); (case zze => rfl); (case zze2 => rfl)) | ((with_reducible refine' x_notInL ?zzh ?zze ?zze2 ?_); (case zzh => walk_at "sql"); (case zze => rfl); (case zze2 => rfl)) | ((with_reducible refine' x_ixT ?zzh ?zze ?_); (case zzh => walk_at "sqt"); (case zze => (first | rfl | assumption | exact atI_nat rfl | (simp; done)))) | ((with_reducible refine' w_slL hw ?zzh ?_); (case zzh => walk_at "sql"); intro p H hp hw) | ((with_reducible refine' w_listL hw ?zzh ?_); (case zzh => walk_at "sql"); intro p H hp hw) | ((with_reducible refine' x_itL ?zzh ?_); (case zzh => walk_at "sql")) | ((with_reducible refine' x_itT ?zzh ?_); (case zzh => walk_at "sqt")) | ((with_reducible refine' x_iL ?zzh ?_); (case zzh => walk_at "sql")) | ((with_reducible refine' x_en ?zzh ?_); (case zzh => walk_at "sql")) | ((with_reducible refine x_rng1 ?zzh1 ?zzh2 ?_); (case zzh1 => first | omega | (simp only [List.length_map]; omega)); (case zzh2 => first | omega | (simp only [List.length_map]; omega))) | ((with_reducible refine x_rng2 ?zzh ?_); (case zzh => first | exact ⟨by omega, by omega, by omega, by omega⟩)) | ((with_reducible refine' x_gTup ?zzh ?zze ?_); (case zzh => walk_at "sqt"); (case zze => rfl)) | (with_reducible refine x_wipe rfl ?_) | ((with_reducible refine' w_app hw 0 ?zzh ?zze ?_); (case zzh => rfl); (case zze => first | (refine sz_lt ?_; simp; done) | (refine sz_lt ?_; simp; omega) | assumption); intro H hw; walk_at "nm") | ((with_reducible refine' w_app hw 1 ?zzh ?zze ?_); (case zzh => rfl); (case zze => first | (refine sz_lt ?_; simp; done) | (refine sz_lt ?_; simp; omega) | assumption); intro H hw; walk_at "nm") | ((with_reducible refine' w_app hw 2 ?zzh ?zze ?_); (case zzh => rfl); (case zze => first | (refine sz_lt ?_; simp; done) | (refine sz_lt ?_; simp; omega) | assumption); intro H hw; walk_at "nm") | ((with_reducible refine' w_app hw 3 ?zzh ?zze ?_); (case zzh => rfl); (case zze => first | (refine sz_lt ?_; simp; done) | (refine sz_lt ?_; simp; omega) | assumption); intro H hw; walk_at "nm") | ((with_reducible refine' w_app hw 4 ?zzh ?zze ?_); (case zzh => rfl); (case zze => first | (refine sz_lt ?_; simp; done) | (refine sz_lt ?_; simp; omega) | assumption); intro H hw; walk_at "nm") | ((with_reducible refine' x_callL ?zzh ?_); (case zzh => rfl)) | (with_reducible refine x_lens rfl rfl ?_) | ((with_reducible refine' x_sum ?zzh ?_); (case zzh => walk_at "sql")) | ((with_reducible refine' x_gU2 ?zzh ?_); (case zzh => walk_at "sql")) | ((with_reducible refine' x_gU3 ?zzh ?_); (case zzh => walk_at "sql")) | ((with_reducible refine' x_gStL1 hw ?zzh ?zze ?_); (case zzh => walk_at "sql"); (case zze => simp); intro p H hp hw) | ((with_reducible refine' x_take hw 0 ?zzh ?zzbx ?zze ?zze2 ?zze3 ?_); (case zzh => rfl); (case zzbx => assumption); (case zze => omega); (case zze2 => omega); (case zze3 => omega); intro r a c H hr0 hr1 bx hcc hw; walk_at "nm") | ((with_reducible refine' x_take hw 1 ?zzh ?zzbx ?zze ?zze2 ?zze3 ?_); (case zzh => rfl); (case zzbx => assumption); (case zze => omega); (case zze2 => omega); (case zze3 => omega); intro r a c H hr0 hr1 bx hcc hw; walk_at "nm") | ((with_reducible refine' x_take hw 2 ?zzh ?zzbx ?zze ?zze2 ?zze3 ?_); (case zzh => rfl); (case zzbx => assumption); (case zze => omega); (case zze2 => omega); (case zze3 => omega); intro r a c H hr0 hr1 bx hcc hw; walk_at "nm") | ((with_reducible refine' x_take hw 3 ?zzh ?zzbx ?zze ?zze2 ?zze3 ?_); (case zzh => rfl); (case zzbx => assumption); (case zze => omega); (case zze2 => omega); (case zze3 => omega); intro r a c H hr0 hr1 bx hcc hw; walk_at "nm") | ((with_reducible refine' x_take hw 4 ?zzh ?zzbx ?zze ?zze2 ?zze3 ?_); (case zzh => rfl); (case zzbx => assumption); (case zze => omega); (case zze2 => omega); (case zze3 => omega); intro r a c H hr0 hr1 bx hcc hw; walk_at "nm") | ((with_reducible refine' w_cat hw ?zzh1 ?zzh2 ?zze ?_); (case zzh1 => walk_at "lst"); (case zzh2 => walk_at "lst"); (case zze => first | exact szl rfl | (simp; omega)); intro p H hp hw) | ((with_reducible refine' w_rev hw ?zzh ?_); (case zzh => walk_at "sql"); intro p H hp hw) | ((with_reducible refine' w_disp hw ?_); intro p H hp hw) | ((with_reducible refine' w_dispEnd hw 0 ?zzh ?zze ?zze2 ?_); (case zzh => rfl); (case zze => rfl); (case zze2 => exact Nat.le_of_ble_eq_true rfl); intro H hw; walk_at "nm") | ((with_reducible refine' w_dispEnd hw 1 ?zzh ?zze ?zze2 ?_); (case zzh => rfl); (case zze => rfl); (case zze2 => exact Nat.le_of_ble_eq_true rfl); intro H hw; walk_at "nm") | ((with_reducible refine' w_dispEnd hw 2 ?zzh ?zze ?zze2 ?_); (case zzh => rfl); (case zze => rfl); (case zze2 => exact Nat.le_of_ble_eq_true rfl); intro H hw; walk_at "nm") | ((with_reducible refine' w_dispEnd hw 3 ?zzh ?zze ?zze2 ?_); (case zzh => rfl); (case zze => rfl); (case zze2 => exact Nat.le_of_ble_eq_true rfl); intro H hw; walk_at "nm") | ((with_reducible refine' w_update (n := 1) (m := 0) hw ?zzh ?zzh2 (by decide) ?zze ?_); (case zzh => rfl); (case zzh2 => rfl); (case zze => exact Nat.le_of_ble_eq_true rfl); intro H hw; walk_at "nm") | ((with_reducible refine' w_update (n := 0) (m := 1) hw ?zzh ?zzh2 (by decide) ?zze ?_); (case zzh => rfl); (case zzh2 => rfl); (case zze => exact Nat.le_of_ble_eq_true rfl); intro H hw; walk_at "nm") | ((with_reducible refine' w_update (n := 2) (m := 0) hw ?zzh ?zzh2 (by decide) ?zze ?_); (case zzh => rfl); (case zzh2 => rfl); (case zze => exact Nat.le_of_ble_eq_true rfl); intro H hw; walk_at "nm") | (with_reducible refine x_isiI (b := true) (by decide +kernel) ?_) | (with_reducible refine x_isiB (b := true) (by decide +kernel) ?_) | (with_reducible refine x_isiS (b := true) (by decide +kernel) ?_) | (with_reducible refine x_isiN (b := true) (by decide +kernel) ?_) | (with_reducible refine x_isiI (b := false) (by decide +kernel) ?_) | (with_reducible refine x_isiB (b := false) (by decide +kernel) ?_) | (with_reducible refine x_isiS (b := false) (by decide +kernel) ?_) | (with_reducible refine x_isiN (b := false) (by decide +kernel) ?_) | ((with_reducible refine' x_eqIL ?zzh1 ?zzh2 ?_); (case zzh1 => walk_at "lst"); (case zzh2 => walk_at "lst")) | ((with_reducible refine' x_neIL ?zzh1 ?zzh2 ?_); (case zzh1 => walk_at "lst"); (case zzh2 => walk_at "lst")) | ((with_reducible refine' x_tyL ?zzh ?_); (case zzh => walk_at "lst")) | ((with_reducible refine' x_tyD ?zzh ?_); (case zzh => walk_at "lst")) | ((with_reducible refine' w_append (n := 0) hw ?zzh ?zze ?_); (case zzh => rfl); (case zze => first | (refine sz_lt ?_; simp; done) | (refine sz_lt ?_; simp; omega) | assumption); intro H hw; walk_at "nm") | ((with_reducible refine' w_append (n := 1) hw ?zzh ?zze ?_); (case zzh => rfl); (case zze => first | (refine sz_lt ?_; simp; done) | (refine sz_lt ?_; simp; omega) | assumption); intro H hw; walk_at "nm") | ((with_reducible refine' w_append (n := 2) hw ?zzh ?zze ?_); (case zzh => rfl); (case zze => first | (refine sz_lt ?_; simp; done) | (refine sz_lt ?_; simp; omega) | assumption); intro H hw; walk_at "nm") | ((with_reducible refine' w_append (n := 3) hw ?zzh ?zze ?_); (case zzh => rfl); (case zze => first | (refine sz_lt ?_; simp; done) | (refine sz_lt ?_; simp; omega) | assumption); intro H hw; walk_at "nm") | ((with_reducible refine' x_dgetS ?zzh ?zze ?_); (case zzh => walk_at "lst"); (case zze => rfl)) | ((with_reducible refine x_ifP (by first | omega | exact rfl) ?_)) | ((with_reducible refine x_ifN (by omega) ?_)) | ((with_reducible refine x_ifnP (by first | omega | exact rfl) ?_)) | ((with_reducible refine x_ifnN (by omega) ?_)) | (with_reducible refine x_ifbT (by decide +kernel) ?_) | (with_reducible refine x_ifbF (by decide +kernel) ?_) | with_reducible refine x_revS ?_ | ((with_reducible refine x_revP ?zzh ?_); (case zzh => omega); intro y hy) | ((with_reducible refine x_slP ?zzh ?_); (case zzh => omega); intro y hy) | ((with_reducible refine x_addP ?zzh ?_); (case zzh => omega); intro y hy) | ((with_reducible refine x_ixP ?zzh ?zzh1 ?zzh2 ?_); (case zzh => omega); (case zzh1 => omega); (case zzh2 => omega); intro y hy) | ((with_reducible refine x_mulP ?zzh ?zzh1 ?zzh2 ?_); (case zzh => omega); (case zzh1 => omega); (case zzh2 => first | omega | decide +kernel); intro y hy; (try simp only [Int.reduceToNat] at hy)) | ((with_reducible refine x_lenS ?zzh ?_); (case zzh => first | (refine sz_of ?_; omega))))))
namespace Fw
open PySem PySem.Spec PyProof.Rows L2

/-! ### callees -/
structure Fn (P : Program) (w : World) (K : PySem.W.Frag) (mg : Str → Option Value) (base : Heap) (CX : CXT) (k : Nat) (x : Str) (ps : List Str) (sp : Sp) : Prop where
  ex : ∃ (f : Addr) (fd : FuncData), mg x = some (.ref f) ∧ PySem.W.keepIn K (.ref f) = true ∧ Binds K fd ps [] ∧ FnOk P w K mg base CX k f fd ps sp
section
variable {X : Cx} {CX : CXT} {k j : Nat} {ps : List Str} {sp : Sp} {E : XK} {x : Str} {p pos : Pos} {e : Expr} {es : List Expr} {t : TA}
theorem pe_fn (F : Fn X.prog X.w X.K X.mg X.base CX k x ps sp) (hr : Room j X.A) (hk : k ≤ j) (hg : Gl X x) (hx : Passes CX X E) (ha : PA X (e :: es) t) (hdb : (x == ("__debug__" : Str)) = false := by decide)
    (he : starEach (e :: es) X.env = (false, eval e X.env) :: starEach es X.env := by rfl) (hpl : (backTo pos (starEach es X.env)).any (·.1) = false := by rfl) : PE X (.Call (.Name x p) (e :: es) [] pos) (tCall sp [] E t) := by
  obtain ⟨f, fd, hm, hkp, hb, F⟩ := F.ex
  exact pe_call F (hr.mono hk) hg hm hkp hb .nil hx ha hdb he hpl
theorem pe_fn0 (F : Fn X.prog X.w X.K X.mg X.base CX k x ps sp) (hr : Room j X.A) (hk : k ≤ j) (hg : Gl X x) (hx : Passes CX X E) (hdb : (x == ("__debug__" : Str)) = false := by decide) : PE X (.Call (.Name x p) [] [] pos) (tCall sp [] E tNil) := by
  obtain ⟨f, fd, hm, hkp, hb, F⟩ := F.ex
  exact pe_call0 F (hr.mono hk) hg hm hkp hb .nil hx hdb
end
theorem Fn.mono {P : Program} {w : World} {K : PySem.W.Frag} {mg : Str → Option Value} {base : Heap} {CX : CXT} {j k : Nat} {x : Str} {ps : List Str} {sp : Sp} (F : Fn P w K mg base CX j x ps sp) (h : j ≤ k) : Fn P w K mg base CX k x ps sp := by
  obtain ⟨f, fd, hm, hkp, hb, F⟩ := F.ex
  exact ⟨f, fd, hm, hkp, hb, F.mono h⟩

/-! ### universal operators -/
section
variable {X : Cx}
def uAdd (K : PySem.W.Frag) : R2 := fun x y H Q => (∃ i j, x = .int i ∧ y = .int j ∧ Q (.int (i + j)) H) ∨ (∃ i j, x = .str i ∧ y = .str j ∧ i.length + j.length ≤ sizeLine ∧ Q (.str (i ++ j)) H) ∨ rCat x y H Q ∨ rCatA K x y H Q
theorem op_addU {K : PySem.W.Frag} (hK : X.K = K := by rfl) : OpR X (binaryOp .Add) (uAdd K) := hK ▸ OpR.or op_add (OpR.or op_add_str (OpR.or op_cat op_catA))
def uMul (K : PySem.W.Frag) : R2 := fun x y H Q => (rI CMul fun i j => .int (i * j)) x y H Q ∨ rRep x y H Q ∨ rRepT K x y H Q
theorem op_mulU {K : PySem.W.Frag} (hK : X.K = K := by rfl) : OpR X (binaryOp .Mult) (uMul K) := hK ▸ OpR.or op_mul (OpR.or op_rep op_repT)
def uEq (K : PySem.W.Frag) : R2 := fun x y H Q => rEq x y H Q ∨ rEqD K x y H Q
def uNe (K : PySem.W.Frag) : R2 := fun x y H Q => rNe x y H Q ∨ rNeD K x y H Q
theorem op_eqU {K : PySem.W.Frag} {k : Nat} (hr : Room k X.A) (hK : X.K = K := by rfl) : OpR X (compareOp .Eq) (uEq K) := hK ▸ OpR.or op_eq (op_eqD hr.units)
theorem op_neU {K : PySem.W.Frag} {k : Nat} (hr : Room k X.A) (hK : X.K = K := by rfl) : OpR X (compareOp .NotEq) (uNe K) := hK ▸ OpR.or op_ne (op_neD hr.units)
def uIs : R2 := fun x y H Q => (y = .non ∧ Q (.bl (decide (x = .non))) H) ∨ rIsB x y H Q
def uIsNot : R2 := fun x y H Q => (y = .non ∧ Q (.bl (!decide (x = .non))) H) ∨ rNotB x y H Q
theorem op_isU : OpR X (compareOp .Is) uIs := OpR.or op_isN op_isBl
theorem op_isNotU : OpR X (compareOp .IsNot) uIsNot := OpR.or op_notN op_notBl
end
section
variable {X : Cx}
theorem pe_powc {i j z : Int} {k1 k2 : Nat} {p1 p2 pos : Pos} (h : CPow i j) (e : i ^ j.toNat = z) : PE X (.BinOp (.Constant (.int i) k1 p1) .Pow (.Constant (.int j) k2 p2) pos) (tC (.int z)) := by
  refine ⟨fun pins s σ H Q I q => (pe_op op_pow pe_int pe_int).run pins s σ H Q I ⟨i, j, rfl, rfl, h, ?_⟩⟩
  show Q (.int (i ^ j.toNat)) H
  rw [e]
  exact q
end
/-! ### a def's body, its slots written out -/
section
variable {P : Program} {w : World} {K : PySem.W.Frag} {mg : Str → Option Value} {base : Heap}
theorem okS {x qual : Str} {st : Stmt} {f : Addr} {fd : FuncData} {N ps : List Str} {k : Nat} {sp : Sp} (F : Fun K x qual st f fd) (S : FnScope N ps (defScope st)) (len : ∀ vs H Q E, sp vs H Q E → vs.length = ps.length)
    (hbody : ∀ (cdv : Value) (A : Around) (outer : List Env) (s : Shared) (H : Hp) (vs : List V) (Q : VK) (E : XK), Room k (A.deeper (envOfC qual (defScope st) s.heap.objs.size f cdv)) → sp vs H Q E →
      ∃ t σ, PSs (cxOf CX0 P w K mg base N qual (defScope st) f cdv A outer s H E).nox (defBody st) t ∧ L2.start N vs = σ ∧ t { nx := fun _ H' => Q .non H', rt := Q } σ H) : FnOk P w K mg base CX0 (k + 1) f fd ps sp := by
  refine F.ok S len fun cdv A outer s H vs Q E hr h => ?_
  obtain ⟨t, σ, h1, rfl, h2⟩ := hbody cdv A outer s H vs Q E hr h
  exact ⟨t, h1, h2⟩
end
end Fw
namespace Fw
open PySem PySem.Spec PyProof.Rows L2

/-! ### heaps: what is seen without some addresses -/
def del (H : Hp) (M : List Addr) : Hp := fun a => if a ∈ M then none else H a
theorem del_in {H : Hp} {M : List Addr} {a : Addr} (h : a ∈ M) : del H M a = none := by unfold del; rw [if_pos h]
theorem del_out {H : Hp} {M : List Addr} {a : Addr} (h : a ∉ M) : del H M a = H a := by unfold del; rw [if_neg h]
theorem del_some {H : Hp} {M : List Addr} {a : Addr} {o : HO} (h : del H M a = some o) : a ∉ M ∧ H a = some o := by
  unfold del at h
  split at h
  · cases h
  · rename_i q; exact ⟨q, h⟩
def Ext (H H' : Hp) : Prop := ∀ a o, H a = some o → H' a = some o
def Ex (M : List Addr) (H H' : Hp) : Prop := ∀ a o, a ∉ M → H a = some o → H' a = some o
theorem Ex.refl {M : List Addr} {H : Hp} : Ex M H H := fun _ _ _ h => h
theorem Ex.trans {M : List Addr} {H H1 H2 : Hp} (a : Ex M H H1) (b : Ex M H1 H2) : Ex M H H2 := fun c o n h => b c o n (a c o n h)
theorem Ex.sub {M M' : List Addr} {H H1 : Hp} (a : Ex M H H1) (s : ∀ x ∈ M, x ∈ M') : Ex M' H H1 := fun c o n h => a c o (fun z => n (s c z)) h
theorem Ex.new {M : List Addr} {H : Hp} {p : Addr} {o : HO} (h : H p = none) : Ex M H (upd H p o) := fun a u _ e => by rw [upd_ne (ne_of_none e h)]; exact e
theorem Ex.upd {M : List Addr} {H : Hp} {p : Addr} {o : HO} (h : p ∈ M) : Ex M H (upd H p o) := fun a u n e => by
  rw [upd_ne (fun z => n (by rw [z]; exact h))]; exact e
theorem Ex.ext {H H' : Hp} (h : Ex [] H H') : Ext H H' := fun a o e => h a o (fun z => nomatch z) e
theorem Ext.sqL {K : PySem.W.Frag} {H H' : Hp} {a : Addr} {xs : List V} (e : Ext H H') (h : SqL K H a xs) : SqL K H' a xs := by
  rcases h with (h | ⟨o, h⟩) | h
  · exact .inl (.inl (e _ _ h))
  · exact .inl (.inr ⟨o, e _ _ h⟩)
  · exact .inr h
theorem Ext.sqT {K : PySem.W.Frag} {H H' : Hp} {a : Addr} {xs : List V} (e : Ext H H') (h : SqT K H a xs) : SqT K H' a xs := by
  rcases h with (h | ⟨o, h⟩) | h
  · exact .inl (.inl (e _ _ h))
  · exact .inl (.inr ⟨o, e _ _ h⟩)
  · exact .inr h
/-! ### data as a whole: lists are tracked, tuples tracked or written -/
mutual
inductive Dd (K : PySem.W.Frag) (H : Hp) : V → PyData → Prop
  | non : Dd K H .non .none
  | bl (b : Bool) : Dd K H (.bl b) (.bool b)
  | int (i : Int) : Dd K H (.int i) (.int i)
  | str (x : Str) : Dd K H (.str x) (.str x)
  | lst {a : Addr} {xs : List V} {ds : List PyData} : H a = some (.lst xs) → DdAll K H xs ds → Dd K H (.ref a) (.list ds)
  | tup {a : Addr} {xs : List V} {ds : List PyData} : SqT K H a xs → DdAll K H xs ds → Dd K H (.ref a) (.tuple ds)
inductive DdAll (K : PySem.W.Frag) (H : Hp) : List V → List PyData → Prop
  | nil : DdAll K H [] []
  | cons {v : V} {vs : List V} {d : PyData} {ds : List PyData} : Dd K H v d → DdAll K H vs ds → DdAll K H (v :: vs) (d :: ds)
end
mutual
theorem Dd.ext {K : PySem.W.Frag} {H H' : Hp} (e : Ext H H') : ∀ {d : PyData} {v : V}, Dd K H v d → Dd K H' v d
  | _, _, .non => .non
  | _, _, .bl b => .bl b
  | _, _, .int i => .int i
  | _, _, .str x => .str x
  | _, _, .lst q r => .lst (e _ _ q) (DdAll.ext e r)
  | _, _, .tup q r => .tup (e.sqT q) (DdAll.ext e r)
theorem DdAll.ext {K : PySem.W.Frag} {H H' : Hp} (e : Ext H H') : ∀ {ds : List PyData} {vs : List V}, DdAll K H vs ds → DdAll K H' vs ds
  | _, _, .nil => .nil
  | _, _, .cons a b => .cons (Dd.ext e a) (DdAll.ext e b)
end
mutual
theorem Dd.dp {K : PySem.W.Frag} {H : Hp} : ∀ {d : PyData} {v : V}, Dd K H v d → Dp K H v d
  | _, _, .non => .non
  | _, _, .bl b => .bl b
  | _, _, .int i => .int i
  | _, _, .str x => .str x
  | _, _, .lst q r => .lst (SqL.of q) (DdAll.dp r)
  | _, _, .tup q r => .tup q (DdAll.dp r)
theorem DdAll.dp {K : PySem.W.Frag} {H : Hp} : ∀ {ds : List PyData} {vs : List V}, DdAll K H vs ds → DpAll K H vs ds
  | _, _, .nil => .nil
  | _, _, .cons a b => .cons (Dd.dp a) (DdAll.dp b)
end
theorem DdAll.length {K : PySem.W.Frag} {H : Hp} : ∀ {vs : List V} {ds : List PyData}, DdAll K H vs ds → vs.length = ds.length
  | _, _, .nil => rfl
  | _, _, .cons _ b => congrArg Nat.succ (DdAll.length b)
theorem DdAll.get {K : PySem.W.Frag} {H : Hp} : ∀ {vs : List V} {ds : List PyData} {i : Nat} {d : PyData}, DdAll K H vs ds → ds[i]? = some d → ∃ v, vs[i]? = some v ∧ Dd K H v d
  | _, _, _, _, .nil, e => by simp at e
  | _, _, 0, _, .cons a _, e => by simp at e; subst e; exact ⟨_, rfl, a⟩
  | _, _, i + 1, _, .cons _ b, e => by
    obtain ⟨v, h1, h2⟩ := DdAll.get (i := i) b (by simpa using e)
    exact ⟨v, by simpa using h1, h2⟩
theorem DdAll.append {K : PySem.W.Frag} {H : Hp} : ∀ {vs : List V} {ds : List PyData} {ws : List V} {es : List PyData}, DdAll K H vs ds → DdAll K H ws es → DdAll K H (vs ++ ws) (ds ++ es)
  | _, _, _, _, .nil, q => q
  | _, _, _, _, .cons a b, q => .cons a (DdAll.append b q)
theorem DdAll.drop {K : PySem.W.Frag} {H : Hp} : ∀ (n : Nat) {vs : List V} {ds : List PyData}, DdAll K H vs ds → DdAll K H (vs.drop n) (ds.drop n)
  | 0, _, _, q => q
  | _ + 1, _, _, .nil => .nil
  | n + 1, _, _, .cons _ b => DdAll.drop n b
theorem DdAll.take {K : PySem.W.Frag} {H : Hp} : ∀ (n : Nat) {vs : List V} {ds : List PyData}, DdAll K H vs ds → DdAll K H (vs.take n) (ds.take n)
  | 0, _, _, _ => .nil
  | _ + 1, _, _, .nil => .nil
  | n + 1, _, _, .cons a b => .cons a (DdAll.take n b)
theorem DdAll.ints {K : PySem.W.Frag} {H : Hp} : ∀ (ns : List Int), DdAll K H (ns.map V.int) (ns.map PyData.int)
  | [] => .nil
  | i :: r => .cons (.int i) (DdAll.ints r)

abbrev Rp (K : PySem.W.Frag) (M : List Addr) (H : Hp) (v : V) (d : PyData) : Prop := Dd K (del H M) v d
abbrev RpAll (K : PySem.W.Frag) (M : List Addr) (H : Hp) (v : List V) (d : List PyData) : Prop := DdAll K (del H M) v d
theorem del_ext {M M' Mc : List Addr} {H H' : Hp} (e : Ex Mc H H') (h1 : ∀ x ∈ Mc, x ∈ M) (h2 : ∀ x ∈ M', x ∉ M → H x = none) : Ext (del H M) (del H' M') := fun a o h => by
  obtain ⟨n, q⟩ := del_some h
  have n' : a ∉ M' := fun z => by have := h2 a z n; rw [q] at this; cases this
  rw [del_out n']
  exact e a o (fun z => n (h1 a z)) q
theorem del_sub {M M' : List Addr} {H : Hp} (h : ∀ x ∈ M', x ∈ M) : Ext (del H M) (del H M') := fun a o q => by
  obtain ⟨n, q⟩ := del_some q
  rw [del_out (fun z => n (h a z))]
  exact q
theorem del_all {M : List Addr} {H : Hp} : Ext (del H M) H := fun a o q => (del_some q).2
theorem Rp.dd {K : PySem.W.Frag} {M : List Addr} {H : Hp} {v : V} {d : PyData} (h : Rp K M H v d) : Dd K H v d := Dd.ext del_all h
theorem Rp.dp {K : PySem.W.Frag} {M : List Addr} {H : Hp} {v : V} {d : PyData} (h : Rp K M H v d) : Dp K H v d := (Dd.ext del_all h).dp
theorem Rp.less {K : PySem.W.Frag} {M M' : List Addr} {H : Hp} {v : V} {d : PyData} (h : Rp K M H v d) (s : ∀ x ∈ M', x ∈ M) : Rp K M' H v d := Dd.ext (del_sub s) h
theorem Rp.call {K : PySem.W.Frag} {M : List Addr} {H H' : Hp} {v : V} {d : PyData} {Mc : List Addr} (h : Rp K M H v d) (e : Ex Mc H H') (h1 : ∀ x ∈ Mc, x ∈ M) : Rp K M H' v d := Dd.ext (del_ext e h1 fun _ a b => absurd a b) h

theorem Rp.unL {K : PySem.W.Frag} {M : List Addr} {H : Hp} {a : Addr} {ds : List PyData} (h : Rp K M H (.ref a) (.list ds)) : ∃ xs, H a = some (.lst xs) ∧ RpAll K M H xs ds := by
  cases h with
  | lst q r => exact ⟨_, del_all _ _ q, r⟩
theorem Rp.unT {K : PySem.W.Frag} {M : List Addr} {H : Hp} {a : Addr} {ds : List PyData} (h : Rp K M H (.ref a) (.tuple ds)) : ∃ xs, SqT K H a xs ∧ RpAll K M H xs ds := by
  cases h with
  | tup q r => exact ⟨_, del_all.sqT q, r⟩
theorem DdAll.ints_inv {K : PySem.W.Frag} {H : Hp} : ∀ {ns : List Int} {xs : List V}, DdAll K H xs (ns.map PyData.int) → xs = ns.map V.int
  | [], _, .nil => rfl
  | _ :: _, _, .cons a b => by
    cases a
    rw [DdAll.ints_inv b]; rfl
theorem DdAll.strs_inv {K : PySem.W.Frag} {H : Hp} : ∀ {ns : List Str} {xs : List V}, DdAll K H xs (ns.map PyData.str) → xs = ns.map V.str
  | [], _, .nil => rfl
  | _ :: _, _, .cons a b => by
    cases a
    rw [DdAll.strs_inv b]; rfl
theorem DdAll.strs {K : PySem.W.Frag} {H : Hp} : ∀ (ns : List Str), DdAll K H (ns.map V.str) (ns.map PyData.str)
  | [] => .nil
  | i :: r => .cons (.str i) (DdAll.strs r)
theorem Rp.ints {K : PySem.W.Frag} {M : List Addr} {H : Hp} {a : Addr} {ns : List Int} (h : Rp K M H (.ref a) (.list (ns.map PyData.int))) : H a = some (.lst (ns.map V.int)) := by
  obtain ⟨xs, q, r⟩ := Rp.unL h
  rw [DdAll.ints_inv r] at q
  exact q
theorem Rp.strs {K : PySem.W.Frag} {M : List Addr} {H : Hp} {a : Addr} {ns : List Str} (h : Rp K M H (.ref a) (.list (ns.map PyData.str))) : H a = some (.lst (ns.map V.str)) := by
  obtain ⟨xs, q, r⟩ := Rp.unL h
  rw [DdAll.strs_inv r] at q
  exact q
theorem Rp.ints_of {K : PySem.W.Frag} {M : List Addr} {H : Hp} {a : Addr} {ns : List Int} (h : del H M a = some (.lst (ns.map V.int))) : Rp K M H (.ref a) (.list (ns.map PyData.int)) := .lst h (DdAll.ints ns)
theorem del_nil {H : Hp} : del H [] = H := by funext a; exact del_out (fun z => nomatch z)
abbrev Al (M : List Addr) (H : Hp) : Prop := ∀ a ∈ M, H a ≠ none
/-! ### facts that stand: data, a thing's content, a tuple's -/
inductive Fa where
  | rp (v : V) (d : PyData)
  | kn (p : Addr) (o : HO)
  | tp (p : Addr) (xs : List V)
  | al (vs : List V) (ds : List PyData)
def Fa.ok (K : PySem.W.Frag) (H : Hp) : Fa → Prop
  | .rp v d => Dd K H v d
  | .kn p o => H p = some o
  | .tp p xs => SqT K H p xs
  | .al vs ds => DdAll K H vs ds
theorem Fa.ext {K : PySem.W.Frag} {H H' : Hp} (e : Ext H H') : ∀ {r : Fa}, r.ok K H → r.ok K H'
  | .rp _ _, h => Dd.ext e h
  | .kn _ _, h => e _ _ h
  | .tp _ _, h => e.sqT h
  | .al _ _, h => DdAll.ext e h
/-! ### the state: owned cells L, facts R -/
abbrev av (L : List (Addr × HO)) (M0 : List Addr) : List Addr := L.map (·.1) ++ M0
structure W (K : PySem.W.Frag) (H0 : Hp) (Ms M0 : List Addr) (H : Hp) (L : List (Addr × HO)) (R : List Fa) : Prop where
  ex : Ex Ms H0 H
  al : ∀ a ∈ M0, H a ≠ none
  nd : (L.map (·.1)).Nodup
  cell : ∀ p ∈ L, H p.1 = some p.2
  own : ∀ p ∈ L, p.1 ∈ Ms ∨ (H0 p.1 = none ∧ p.1 ∉ M0)
  rep : ∀ r ∈ R, r.ok K (del H (av L M0))
section
variable {K : PySem.W.Frag} {H0 H H' : Hp} {Ms M0 : List Addr} {L : List (Addr × HO)} {R : List Fa} {p b : Addr} {o o' : HO} {i : Nat} {v : V} {d : PyData}
theorem W.at (w : W K H0 Ms M0 H L R) (i : Nat) (h : L[i]? = some (p, o)) : H p = some o := w.cell _ (List.mem_of_getElem? h)
theorem W.rp (w : W K H0 Ms M0 H L R) (i : Nat) (h : R[i]? = some (.rp v d)) : Rp K (av L M0) H v d := w.rep _ (List.mem_of_getElem? h)
theorem W.kn (w : W K H0 Ms M0 H L R) (i : Nat) (h : R[i]? = some (.kn p o)) : H p = some o := del_all _ _ (w.rep _ (List.mem_of_getElem? h))
theorem W.tp {xs : List V} (w : W K H0 Ms M0 H L R) (i : Nat) (h : R[i]? = some (.tp p xs)) : SqT K H p xs := del_all.sqT (w.rep _ (List.mem_of_getElem? h))
theorem W.all {vs : List V} {ds : List PyData} (w : W K H0 Ms M0 H L R) (i : Nat) (h : R[i]? = some (.al vs ds)) : RpAll K (av L M0) H vs ds := w.rep _ (List.mem_of_getElem? h)
theorem W.alloc' (w : W K H0 Ms M0 H L R) : ∀ a ∈ av L M0, H a ≠ none := fun a ha => by
  rcases List.mem_append.mp ha with h | h
  · obtain ⟨q, hq, e⟩ := List.mem_map.mp h
    rw [← e, w.cell q hq]; exact fun z => nomatch z
  · exact w.al a h
theorem W.new (w : W K H0 Ms M0 H L R) (h : H p = none) (o : HO) : W K H0 Ms M0 (upd H p o) ((p, o) :: L) R where
  ex := w.ex.trans (Ex.new h)
  al := fun a ha => by
    have := w.al a ha
    cases q : H a with
    | none => exact absurd q this
    | some u => rw [upd_ne (ne_of_none q h), q]; exact fun z => nomatch z
  nd := by
    refine List.nodup_cons.mpr ⟨fun z => ?_, w.nd⟩
    obtain ⟨q, hq, e⟩ := List.mem_map.mp z
    have := w.cell q hq
    rw [e, h] at this; cases this
  cell := fun q hq => by
    rcases List.mem_cons.mp hq with rfl | hq
    · exact upd_same
    · have := w.cell q hq
      rw [upd_ne (ne_of_none this h)]; exact this
  own := fun q hq => by
    rcases List.mem_cons.mp hq with rfl | hq
    · by_cases hm : p ∈ Ms
      · exact .inl hm
      · refine .inr ⟨?_, fun z => w.al p z h⟩
        cases e : H0 p with
        | none => rfl
        | some u =>
          have := w.ex _ _ hm e
          rw [h] at this; cases this
    · exact w.own q hq
  rep := fun r hr => Fa.ext (del_ext (Mc := []) (Ex.new h) (fun x z => nomatch z) fun x hx hn => by
    rcases List.mem_cons.mp hx with rfl | hx
    · exact h
    · exact absurd hx hn) (w.rep r hr)
theorem W.set (w : W K H0 Ms M0 H L R) (i : Nat) (hi : L[i]? = some (p, o)) (o' : HO) : W K H0 Ms M0 (upd H p o') (L.set i (p, o')) R := by
  have hm : (L.set i (p, o')).map (·.1) = L.map (·.1) := by
    rw [List.map_set]
    apply List.ext_getElem?
    intro n
    rw [List.getElem?_set]
    split
    · rename_i e; subst e
      rw [List.getElem?_map, hi]
      split
      · rfl
      · rename_i h; exact absurd (by rw [List.length_map]; exact (List.getElem?_eq_some_iff.mp hi).1) h
    · rfl
  have hpL : (p, o) ∈ L := List.mem_of_getElem? hi
  have hpa : p ∈ L.map (·.1) := List.mem_map.mpr ⟨_, hpL, rfl⟩
  have uniq : ∀ q ∈ L.set i (p, o'), q = (p, o') ∨ (q ∈ L ∧ q.1 ≠ p) := fun q hq => by
    obtain ⟨n, hn⟩ := List.mem_iff_getElem?.mp hq
    rw [List.getElem?_set] at hn
    split at hn
    · split at hn
      · left; exact (Option.some.inj hn).symm
      · cases hn
    · rename_i hne
      right
      refine ⟨List.mem_of_getElem? hn, fun e => hne ?_⟩
      have h1 : (L.map (·.1))[i]? = some p := by rw [List.getElem?_map, hi]; rfl
      have h2 : (L.map (·.1))[n]? = some p := by rw [List.getElem?_map, hn]; exact congrArg some e
      exact nd_ix w.nd h1 h2
  refine ⟨fun a u n e => ?_, fun a ha => ?_, by rw [hm]; exact w.nd, fun q hq => ?_, fun q hq => ?_, fun r hr => ?_⟩
  · by_cases ea : a = p
    · subst ea
      rcases w.own _ hpL with h | h
      · exact absurd h n
      · have h := h.1; rw [e] at h; cases h
    · rw [upd_ne ea]; exact w.ex a u n e
  · by_cases ea : a = p
    · subst ea; rw [upd_same]; exact fun z => nomatch z
    · rw [upd_ne ea]; exact w.al a ha
  · rcases uniq q hq with rfl | ⟨h1, h2⟩
    · exact upd_same
    · rw [upd_ne h2]; exact w.cell q h1
  · rcases uniq q hq with rfl | ⟨h1, _⟩
    · exact w.own (p, o) hpL
    · exact w.own q h1
  · show Fa.ok K (del _ ((L.set i (p, o')).map (·.1) ++ M0)) _
    rw [hm]
    exact Fa.ext (del_ext (Mc := [p]) (Ex.upd (List.mem_singleton.mpr rfl)) (fun x z => by rw [List.mem_singleton.mp z]; exact List.mem_append_left _ hpa) fun x a b => absurd a b) (w.rep r hr)
/-- a call that changes one cell -/
theorem W.call (w : W K H0 Ms M0 H L R) (i : Nat) (hi : L[i]? = some (p, o)) (e : Ex [p] H H') (h' : H' p = some o') : W K H0 Ms M0 H' (L.set i (p, o')) R := by
  have hm : (L.set i (p, o')).map (·.1) = L.map (·.1) := by
    rw [List.map_set]
    apply List.ext_getElem?
    intro n
    rw [List.getElem?_set]
    split
    · rename_i e; subst e
      rw [List.getElem?_map, hi]
      split
      · rfl
      · rename_i h; exact absurd (by rw [List.length_map]; exact (List.getElem?_eq_some_iff.mp hi).1) h
    · rfl
  have hpL : (p, o) ∈ L := List.mem_of_getElem? hi
  have hpa : p ∈ L.map (·.1) := List.mem_map.mpr ⟨_, hpL, rfl⟩
  have kp : ∀ a u, a ≠ p → H a = some u → H' a = some u := fun a u n q => e a u (fun z => n (List.mem_singleton.mp z)) q
  have uniq : ∀ q ∈ L.set i (p, o'), q = (p, o') ∨ (q ∈ L ∧ q.1 ≠ p) := fun q hq => by
    obtain ⟨n, hn⟩ := List.mem_iff_getElem?.mp hq
    rw [List.getElem?_set] at hn
    split at hn
    · split at hn
      · left; exact (Option.some.inj hn).symm
      · cases hn
    · rename_i hne
      right
      refine ⟨List.mem_of_getElem? hn, fun e => hne ?_⟩
      have h1 : (L.map (·.1))[i]? = some p := by rw [List.getElem?_map, hi]; rfl
      have h2 : (L.map (·.1))[n]? = some p := by rw [List.getElem?_map, hn]; exact congrArg some e
      exact nd_ix w.nd h1 h2
  refine ⟨fun a u n e0 => ?_, fun a ha => ?_, by rw [hm]; exact w.nd, fun q hq => ?_, fun q hq => ?_, fun r hr => ?_⟩
  · by_cases ea : a = p
    · subst ea
      rcases w.own _ hpL with h | h
      · exact absurd h n
      · have h := h.1; rw [show H0 a = some u from e0] at h; cases h
    · exact kp a u ea (w.ex a u n e0)
  · by_cases ea : a = p
    · subst ea; rw [h']; exact fun z => nomatch z
    · have := w.al a ha
      cases q : H a with
      | none => exact absurd q this
      | some u => rw [kp a u ea q]; exact fun z => nomatch z
  · rcases uniq q hq with rfl | ⟨h1, h2⟩
    · exact h'
    · exact kp _ _ h2 (w.cell q h1)
  · rcases uniq q hq with rfl | ⟨h1, _⟩
    · exact w.own (p, o) hpL
    · exact w.own q h1
  · show Fa.ok K (del _ ((L.set i (p, o')).map (·.1) ++ M0)) _
    rw [hm]
    exact Fa.ext (del_ext (Mc := [p]) e (fun x z => by rw [List.mem_singleton.mp z]; exact List.mem_append_left _ hpa) fun x a b => absurd a b) (w.rep r hr)
/-- a call that changes nothing -/
theorem W.pure (w : W K H0 Ms M0 H L R) (e : Ex [] H H') : W K H0 Ms M0 H' L R where
  ex := w.ex.trans (e.sub fun x z => nomatch z)
  al := fun a ha => by
    have := w.al a ha
    cases q : H a with
    | none => exact absurd q this
    | some u => rw [e.ext a u q]; exact fun z => nomatch z
  nd := w.nd
  cell := fun q hq => e.ext _ _ (w.cell q hq)
  own := w.own
  rep := fun r hr => Fa.ext (del_ext e (fun x z => nomatch z) fun x a b => absurd a b) (w.rep r hr)
theorem W.addF {r : Fa} (w : W K H0 Ms M0 H L R) (h : r.ok K (del H (av L M0))) : W K H0 Ms M0 H L (r :: R) :=
  ⟨w.ex, w.al, w.nd, w.cell, w.own, fun r hr => by
    rcases List.mem_cons.mp hr with rfl | hr
    · exact h
    · exact w.rep r hr⟩
theorem W.add (w : W K H0 Ms M0 H L R) (h : Rp K (av L M0) H v d) : W K H0 Ms M0 H L (.rp v d :: R) := w.addF h
theorem W.newTup (w : W K H0 Ms M0 H L R) (h : H p = none) {xs : List V} {ds : List PyData} (hd : RpAll K (av L M0) H xs ds) : W K H0 Ms M0 (upd H p (.tup xs)) L (.rp (.ref p) (.tuple ds) :: R) := by
  have w1 := w.pure (Ex.new (o := .tup xs) h)
  refine w1.add (Dd.tup ?_ (DdAll.ext (del_ext (Mc := []) (Ex.new h) (fun x z => nomatch z) fun x a b => absurd a b) hd))
  refine .inl (.inl ?_)
  rw [del_out (fun z => w.alloc' p z h)]
  exact upd_same
theorem W.newLst (w : W K H0 Ms M0 H L R) (h : H p = none) {xs : List V} {ds : List PyData} (hd : RpAll K (av L M0) H xs ds) : W K H0 Ms M0 (upd H p (.lst xs)) L (.rp (.ref p) (.list ds) :: R) := by
  have w1 := w.pure (Ex.new (o := .lst xs) h)
  refine w1.add (Dd.lst ?_ (DdAll.ext (del_ext (Mc := []) (Ex.new h) (fun x z => nomatch z) fun x a b => absurd a b) hd))
  rw [del_out (fun z => w.alloc' p z h)]
  exact upd_same
/-- the first cell, a list of data, becomes data -/
theorem W.freeze {xs : List V} {ds : List PyData} (w : W K H0 Ms M0 H ((p, .lst xs) :: L) R) (hp : p ∉ M0) (hd : RpAll K (av ((p, .lst xs) :: L) M0) H xs ds) : W K H0 Ms M0 H L (.rp (.ref p) (.list ds) :: R) := by
  have nd := List.nodup_cons.mp w.nd
  have s : ∀ x ∈ av L M0, x ∈ av ((p, HO.lst xs) :: L) M0 := fun x hx => List.mem_cons_of_mem _ hx
  refine ⟨w.ex, w.al, nd.2, fun q hq => w.cell q (List.mem_cons_of_mem _ hq), fun q hq => w.own q (List.mem_cons_of_mem _ hq), fun r hr => ?_⟩
  rcases List.mem_cons.mp hr with rfl | hr
  · refine Dd.lst ?_ (DdAll.ext (del_sub s) hd)
    rw [del_out (fun z => (List.mem_append.mp z).elim nd.1 hp)]
    exact w.cell _ (List.mem_cons_self ..)
  · exact Fa.ext (del_sub s) (w.rep r hr)
theorem W.ne (w : W K H0 Ms M0 H L R) {i j : Nat} {p q : Addr} {o u : HO} (hi : L[i]? = some (p, o)) (hj : L[j]? = some (q, u)) (h : i ≠ j) : p ≠ q := fun e => h (by
  have h1 : (L.map (·.1))[i]? = some p := by rw [List.getElem?_map, hi]; rfl
  have h2 : (L.map (·.1))[j]? = some p := by rw [List.getElem?_map, hj, e]; rfl
  exact nd_ix w.nd h1 h2)
theorem W.freeze0 {xs : List V} {ds : List PyData} (w : W K H0 [] M0 H ((p, .lst xs) :: L) R) (hd : RpAll K (av ((p, .lst xs) :: L) M0) H xs ds) : W K H0 [] M0 H L (.rp (.ref p) (.list ds) :: R) :=
  w.freeze ((w.own _ (List.mem_cons_self ..)).elim (fun z => nomatch z) fun z => z.2) hd
theorem W.freeze1 {xs : List V} {ds : List PyData} (w : W K H0 [b] M0 H ((p, .lst xs) :: L) R) (j : Nat) (hj : L[j]? = some (b, o)) (hd : RpAll K (av ((p, .lst xs) :: L) M0) H xs ds) : W K H0 [b] M0 H L (.rp (.ref p) (.list ds) :: R) :=
  w.freeze ((w.own _ (List.mem_cons_self ..)).elim (fun z => absurd (List.mem_singleton.mp z) (w.ne (i := 0) (j := j + 1) rfl hj (Nat.succ_ne_zero j).symm)) fun z => z.2) hd
theorem W.freezeT {xs : List V} {ds : List PyData} (w : W K H0 Ms M0 H ((p, .tup xs) :: L) R) (hp : p ∉ M0) (hd : RpAll K (av ((p, .tup xs) :: L) M0) H xs ds) : W K H0 Ms M0 H L (.rp (.ref p) (.tuple ds) :: R) := by
  have nd := List.nodup_cons.mp w.nd
  have s : ∀ x ∈ av L M0, x ∈ av ((p, HO.tup xs) :: L) M0 := fun x hx => List.mem_cons_of_mem _ hx
  refine ⟨w.ex, w.al, nd.2, fun q hq => w.cell q (List.mem_cons_of_mem _ hq), fun q hq => w.own q (List.mem_cons_of_mem _ hq), fun r hr => ?_⟩
  rcases List.mem_cons.mp hr with rfl | hr
  · refine Dd.tup (SqT.of ?_) (DdAll.ext (del_sub s) hd)
    rw [del_out (fun z => (List.mem_append.mp z).elim nd.1 hp)]
    exact w.cell _ (List.mem_cons_self ..)
  · exact Fa.ext (del_sub s) (w.rep r hr)
theorem W.freezeT0 {xs : List V} {ds : List PyData} (w : W K H0 [] M0 H ((p, .tup xs) :: L) R) (hd : RpAll K (av ((p, .tup xs) :: L) M0) H xs ds) : W K H0 [] M0 H L (.rp (.ref p) (.tuple ds) :: R) :=
  w.freezeT ((w.own _ (List.mem_cons_self ..)).elim (fun z => nomatch z) fun z => z.2) hd
theorem W.freezeT1 {xs : List V} {ds : List PyData} (w : W K H0 [b] M0 H ((p, .tup xs) :: L) R) (j : Nat) (hj : L[j]? = some (b, o)) (hd : RpAll K (av ((p, .tup xs) :: L) M0) H xs ds) : W K H0 [b] M0 H L (.rp (.ref p) (.tuple ds) :: R) :=
  w.freezeT ((w.own _ (List.mem_cons_self ..)).elim (fun z => absurd (List.mem_singleton.mp z) (w.ne (i := 0) (j := j + 1) rfl hj (Nat.succ_ne_zero j).symm)) fun z => z.2) hd
/-- forget cells, data -/
theorem W.drop1 {c : Addr × HO} (w : W K H0 Ms M0 H (c :: L) R) : W K H0 Ms M0 H L R :=
  ⟨w.ex, w.al, (List.nodup_cons.mp w.nd).2, fun q hq => w.cell q (List.mem_cons_of_mem _ hq), fun q hq => w.own q (List.mem_cons_of_mem _ hq), fun r hr => Fa.ext (del_sub fun x hx => List.mem_cons_of_mem _ hx) (w.rep r hr)⟩
theorem W.sub {R' : List Fa} (w : W K H0 Ms M0 H L R) (h : ∀ r ∈ R', r ∈ R) : W K H0 Ms M0 H L R' := ⟨w.ex, w.al, w.nd, w.cell, w.own, fun r hr => w.rep r (h r hr)⟩
/-- a list of data: its items, and that it stays so -/
theorem W.open {ds : List PyData} (w : W K H0 Ms M0 H L R) (h : Rp K (av L M0) H (.ref p) (.list ds)) : ∃ xs, RpAll K (av L M0) H xs ds ∧ W K H0 Ms M0 H L (.kn p (.lst xs) :: R) := by
  cases h with
  | lst q r => exact ⟨_, r, w.addF q⟩
theorem W.openT {ds : List PyData} (w : W K H0 Ms M0 H L R) (h : Rp K (av L M0) H (.ref p) (.tuple ds)) : ∃ xs, RpAll K (av L M0) H xs ds ∧ W K H0 Ms M0 H L (.tp p xs :: R) := by
  cases h with
  | tup q r => exact ⟨_, r, w.addF (r := .tp p _) q⟩
/-- a cell that is changed no more: its content is a fact -/
theorem W.keep (w : W K H0 Ms M0 H ((p, o) :: L) R) (hp : p ∉ M0) : W K H0 Ms M0 H L (.kn p o :: R) := by
  have nd := List.nodup_cons.mp w.nd
  have s : ∀ x ∈ av L M0, x ∈ av ((p, o) :: L) M0 := fun x hx => List.mem_cons_of_mem _ hx
  refine ⟨w.ex, w.al, nd.2, fun q hq => w.cell q (List.mem_cons_of_mem _ hq), fun q hq => w.own q (List.mem_cons_of_mem _ hq), fun r hr => ?_⟩
  rcases List.mem_cons.mp hr with rfl | hr
  · show del H (av L M0) p = some o
    rw [del_out (fun z => (List.mem_append.mp z).elim nd.1 hp)]
    exact w.cell _ (List.mem_cons_self ..)
  · exact Fa.ext (del_sub s) (w.rep r hr)
theorem W.keep0 (w : W K H0 [] M0 H ((p, o) :: L) R) : W K H0 [] M0 H L (.kn p o :: R) := w.keep ((w.own _ (List.mem_cons_self ..)).elim (fun z => nomatch z) fun z => z.2)
theorem W.keep1 (w : W K H0 [b] M0 H ((p, o) :: L) R) (j : Nat) (hj : L[j]? = some (b, o')) : W K H0 [b] M0 H L (.kn p o :: R) :=
  w.keep ((w.own _ (List.mem_cons_self ..)).elim (fun z => absurd (List.mem_singleton.mp z) (w.ne (i := 0) (j := j + 1) rfl hj (Nat.succ_ne_zero j).symm)) fun z => z.2)
theorem W.fresh (w : W K H0 Ms M0 H L R) (h : H p = none) (hM : p ∉ Ms) : H0 p = none := by
  cases e : H0 p with
  | none => rfl
  | some u =>
    have := w.ex _ _ hM e
    rw [h] at this; cases this
theorem W.fresh0 (w : W K H0 [] M0 H L R) (i : Nat) (h : L[i]? = some (p, o)) : H0 p = none := (w.own _ (List.mem_of_getElem? h)).elim (fun z => nomatch z) fun z => z.1
theorem W.fresh1 (w : W K H0 [b] M0 H L R) (i j : Nat) (h : L[i]? = some (p, o)) (hj : L[j]? = some (b, o')) (hij : i ≠ j) : H0 p = none := (w.own _ (List.mem_of_getElem? h)).elim (fun z => absurd (List.mem_singleton.mp z) (w.ne h hj hij)) fun z => z.1
theorem W.sq0 {a : Addr} {xs : List V} (w : W K H0 [] M0 H L R) (h : SqL K H0 a xs) : SqL K H a xs := w.ex.ext.sqL h
/-- the start -/
theorem W.start1 (hb : H b = some o) (hM : ∀ a ∈ M0, H a ≠ none) (hR : ∀ r ∈ R, r.ok K (del H (b :: M0))) : W K H [b] M0 H [(b, o)] R :=
  ⟨Ex.refl, hM, by simp, fun p hp => by rw [List.mem_singleton.mp hp]; exact hb, fun p hp => .inl (by rw [List.mem_singleton.mp hp]; exact List.mem_singleton.mpr rfl), hR⟩
theorem W.start0 (hM : ∀ a ∈ M0, H a ≠ none) (hR : ∀ r ∈ R, r.ok K (del H M0)) : W K H [] M0 H [] R :=
  ⟨Ex.refl, hM, by simp, fun p hp => (nomatch hp), fun p hp => (nomatch hp), hR⟩
end
end Fw
namespace Fw
open PySem PySem.Spec PyProof.Rows L2

/-! ### further universal rules -/
section
variable {X : Cx}
theorem CallR.or {f : Value} {r r' : List V → Hp → VK → Prop} (h : CallR X f r) (h' : CallR X f r') : CallR X f (fun xs H Q => r xs H Q ∨ r' xs H Q) := by
  intro pins s σ H xs us Q I rx q
  rcases q with q | q
  · exact h pins s σ H xs us Q I rx q
  · exact h' pins s σ H xs us Q I rx q
theorem SlR.or {r r' : V → Option Int → Option Int → Hp → VK → Prop} (h : L2.SlR X r) (h' : L2.SlR X r') : L2.SlR X (fun x lo hi H Q => r x lo hi H Q ∨ r' x lo hi H Q) := by
  intro pins s σ H x v vl vu lo hi sl Q I rx hs pl pu q
  rcases q with q | q
  · exact h pins s σ H x v vl vu lo hi sl Q I rx hs pl pu q
  · exact h' pins s σ H x v vl vu lo hi sl Q I rx hs pl pu q
def uSl (K : PySem.W.Frag) : V → Option Int → Option Int → Hp → VK → Prop := fun x lo hi H Q => rSlL K x lo hi H Q ∨ rSlS x lo hi H Q ∨ rSlA K x lo hi H Q
theorem sl_U {K : PySem.W.Frag} (hK : X.K = K := by rfl) : L2.SlR X (uSl K) := hK ▸ SlR.or sl_list (SlR.or sl_str sl_tupA)
def uIx (K : PySem.W.Frag) : R2 := rIx K
theorem ix_U {K : PySem.W.Frag} (hK : X.K = K := by rfl) : IxR X (uIx K) := hK ▸ ix_seq
def uLen (K : PySem.W.Frag) : List V → Hp → VK → Prop := fun xs H Q => ∃ x n, xs = [x] ∧ LenV K x H n ∧ Q (.int n) H
theorem call_lenU {K : PySem.W.Frag} (hK : X.K = K := by rfl) : CallR X (.builtin "len") (uLen K) := hK ▸ call_len
def uAbs : List V → Hp → VK → Prop := fun xs H Q => ∃ i, xs = [.int i] ∧ Q (.int (if i < 0 then -i else i)) H
theorem call_absU : CallR X (.builtin "abs") uAbs := call_abs
def uInt : List V → Hp → VK → Prop := fun xs H Q => (∃ i, xs = [.int i] ∧ Q (.int i) H) ∨ ∃ k, xs = [.bl k] ∧ Q (.int (if k then 1 else 0)) H
theorem call_intU : CallR X (.type "int") uInt := call_int1
def uList (K : PySem.W.Frag) : List V → Hp → VK → Prop := fun xs H Q => ∃ p ys, xs = [.ref p] ∧ (SqL K H p ys ∨ SqT K H p ys) ∧ ∀ l, H l = none → Q (.ref l) (upd H l (.lst ys))
theorem call_listU {K : PySem.W.Frag} (hK : X.K = K := by rfl) : CallR X (.type "list") (uList K) := hK ▸ call_list_of
def uTuple (K : PySem.W.Frag) : List V → Hp → VK → Prop := fun xs H Q => ∃ p ys, xs = [.ref p] ∧ ((SqL K H p ys ∧ ∀ l, H l = none → Q (.ref l) (upd H l (.tup ys))) ∨ (SqT K H p ys ∧ Q (.ref p) H))
theorem call_tupleU {K : PySem.W.Frag} (hK : X.K = K := by rfl) : CallR X (.type "tuple") (uTuple K) := hK ▸ call_tuple_of
theorem call_sumU {K : PySem.W.Frag} (hc : X.calm = true) (hK : X.K = K := by rfl) : CallR X (.builtin "sum") (rSum K) := hK ▸ cr_sum hc
theorem call_allU {K : PySem.W.Frag} (hc : X.calm = true) (hK : X.K = K := by rfl) : CallR X (.builtin "all") (rAll K) := hK ▸ cr_all hc
theorem call_sortedU {K : PySem.W.Frag} (hK : X.K = K := by rfl) : CallR X (.builtin "sorted") (rSorted K) := hK ▸ cr_sorted
def uMin (K : PySem.W.Frag) : List V → Hp → VK → Prop := fun xs H Q => (∃ i j, xs = [.int i, .int j] ∧ Q (.int (if j < i then j else i)) H) ∨ rMin K xs H Q
def uMax (K : PySem.W.Frag) : List V → Hp → VK → Prop := fun xs H Q => (∃ i j, xs = [.int i, .int j] ∧ Q (.int (if j > i then j else i)) H) ∨ rMax K xs H Q
theorem call_minU {K : PySem.W.Frag} (hc : X.calm = true) (hK : X.K = K := by rfl) : CallR X (.builtin "min") (uMin K) := hK ▸ CallR.or (call_min2 hc) (cr_min hc)
theorem call_maxU {K : PySem.W.Frag} (hc : X.calm = true) (hK : X.K = K := by rfl) : CallR X (.builtin "max") (uMax K) := hK ▸ CallR.or (call_max2 hc) (cr_max hc)
end

section
variable {X : Cx} {tg : Expr}
theorem pi_L {K : PySem.W.Frag} {l : Expr} {tl : TE} (hl : PE X l tl) (hK : X.K = K := by rfl) : PI X tg l (iList K tl) := hK ▸ pi_list hl
theorem pi_T {K : PySem.W.Frag} {l : Expr} {tl : TE} (hl : PE X l tl) (hK : X.K = K := by rfl) : PI X tg l (iTup K tl) := hK ▸ pi_tup hl
theorem pi_En {K : PySem.W.Frag} {e : Expr} {ta : TA} {p pos tpos : Pos} {elts : List Expr} {kk : Nat} (hg : Gl X "enumerate") (hm : X.mg "enumerate" = none) (ha : PA X [e] ta) (hs : starEach [e] X.env = [(false, eval e X.env)] := by rfl) (hK : X.K = K := by rfl) :
    PI X (.Tuple elts kk tpos) (.Call (.Name "enumerate" p) [e] [] pos) (iEnum K ta) := hK ▸ pi_enum hg hm ha hs
theorem pg_T {K : PySem.W.Frag} {es : List Expr} {k : Nat} {t : TGs} {n : Nat} {pos : Pos} (hc : X.calm = true) (h : PGs X es t)
    (hn : (assignEach es X.env).length = n := by rfl) (hst : (assignEach es X.env).findIdx? (·.1) = none := by rfl) (hK : X.K = K := by rfl) : PG X (.Tuple es k pos) (gTup K n t) := hK ▸ pg_tup hc h hn hst
end
/-! ### steps -/
theorem szl {n : Nat} (h : Nat.ble n 100000 = true) : n ≤ sizeLine := Nat.le_trans (Nat.le_of_ble_eq_true h) (by decide)
theorem sz_of {n : Nat} (h : n ≤ 100000) : n ≤ sizeLine := Nat.le_trans h (by decide)
theorem sz_lt {n : Nat} (h : n < 100000) : n < sizeLine := Nat.lt_of_lt_of_le h (by decide)
section
variable {σ : L2.St} {H H' H0 : Hp} {i j : Nat} {v x y z : V} {ta tb te tv : TE} {tr t' : TA} {Q : VK} {QA : List V → Hp → Prop} {QB : Bool → Hp → Prop} {b : Bool} {K : PySem.W.Frag} {p q a : Addr} {c tc tu : TT} {D : Ends} {t1 t2 : TS} {xs ys vs : List V} {m n : Int} {r : R2} {A B : Prop}
theorem x_var (h : σ[i]? = some (some v)) (q : Q v H) : tVar i σ H Q := ⟨v, h, q⟩
theorem x_c (q : Q v H) : tC v σ H Q := q
theorem x_op (q : ta σ H fun x H1 => tb σ H1 fun y H2 => r x y H2 Q) : tOp r ta tb σ H Q := q
theorem x_un {r : V → Hp → VK → Prop} (q : ta σ H fun x H1 => r x H1 Q) : tUn r ta σ H Q := q
theorem x_cb {r : List V → Hp → VK → Prop} (q : t' σ H fun vs H1 => r vs H1 Q) : tCB r t' σ H Q := q
theorem x_call {sp : Sp} {dvs : List V} {E : XK} (q : t' σ H fun vs H1 => sp (vs ++ dvs) H1 Q E) : tCall sp dvs E t' σ H Q := q
theorem x_nil (q : QA [] H) : tNil σ H QA := q
theorem x_cons (q : ta σ H fun x H1 => tr σ H1 fun xs H2 => QA (x :: xs) H2) : tCons ta tr σ H QA := q
theorem x_sl {r : V → Option Int → Option Int → Hp → VK → Prop} {tl th : TO} (q : te σ H fun x H1 => tl σ H1 fun l H2 => th σ H2 fun u H3 => r x l u H3 Q) : tSl r te tl th σ H Q := q
theorem x_nopart {QO : Option Int → Hp → Prop} (q : QO none H) : tNoPart σ H QO := q
theorem x_part {QO : Option Int → Hp → Prop} (q : te σ H fun x H1 => ∃ i, x = .int i ∧ QO (some i) H1) : tPart te σ H QO := q
theorem x_isint {F : Int → Prop} (q : F n) : ∃ i, V.int n = .int i ∧ F i := ⟨n, rfl, q⟩
theorem x_isbl {F : Bool → Prop} (q : F b) : ∃ k, V.bl b = .bl k ∧ F k := ⟨b, rfl, q⟩
theorem x_test (q : te σ H fun x H' => ∃ k, x = .bl k ∧ QB k H') : tTest te σ H QB := q
theorem x_B (q : te σ H fun x H' => ∃ k, x = .bl k ∧ QB k H') : tB te σ H QB := q
theorem x_and (q : c σ H fun b H1 => if b = true then tu σ H1 QB else QB false H1) : tAnd c tu σ H QB := q
theorem x_or (q : c σ H fun b H1 => if b = true then QB true H1 else tu σ H1 QB) : tOr c tu σ H QB := q
theorem x_not (q : c σ H fun b H1 => QB (!b) H1) : tNot c σ H QB := q
theorem x_andV (q : ta σ H fun x H1 => ∃ c, x = .bl c ∧ if c = true then tb σ H1 Q else Q (.bl false) H1) : tAndV ta tb σ H Q := q
theorem x_orV (q : ta σ H fun x H1 => ∃ c, x = .bl c ∧ if c = true then Q (.bl true) H1 else tb σ H1 Q) : tOrV ta tb σ H Q := q
theorem x_notV (q : ta σ H fun x H1 => ∃ c, x = .bl c ∧ Q (.bl (!c)) H1) : tNotV ta σ H Q := q
theorem x_if (q : c σ H fun b H1 => if b = true then ta σ H1 Q else tb σ H1 Q) : tIf c ta tb σ H Q := q
theorem x_seq (q : t1 { D with nx := t2 D } σ H) : tSeq t1 t2 D σ H := q
theorem x_next (q : D.nx σ H) : tNext D σ H := q
theorem x_set (q : te σ H fun x H1 => D.nx (σ.set i (some x)) H1) : tAsg te (gName i) D σ H := q
theorem x_asgS {to ti : TE} {t : TSet} (q : te σ H fun x H1 => to σ H1 fun o H2 => ti σ H2 fun k H3 => t o k x H3 fun H4 => D.nx σ H4) : tAsg te (gSub to ti t) D σ H := q
theorem x_asgT {n : Nat} {g : TGs} (q : te σ H fun x H1 => gTup K n g x σ H1 D.nx) : tAsg te (gTup K n g) D σ H := q
theorem x_ret (q : te σ H D.rt) : tRet te D σ H := q
theorem x_drop (q : te σ H fun _ H1 => D.nx σ H1) : tDrop te D σ H := q
theorem x_ifS (q : c σ H fun b H1 => if b = true then t1 D σ H1 else t2 D σ H1) : tIfS c t1 t2 D σ H := q
theorem x_par (q : t' σ H fun vs H1 => ∃ v w, vs = [v, w] ∧ D.nx ((σ.set i (some v)).set j (some w)) H1) : tPar i j t' D σ H := q
theorem x_par3 {l : Nat} (q : t' σ H fun vs H1 => ∃ u v w, vs = [u, v, w] ∧ D.nx (((σ.set i (some u)).set j (some v)).set l (some w)) H1) : tPar3 i j l t' D σ H := q
theorem x_is2 {F : V → V → Prop} (q : F x y) : ∃ v w, [x, y] = [v, w] ∧ F v w := ⟨x, y, rfl, q⟩
theorem x_is3 {F : V → V → V → Prop} (q : F x y z) : ∃ u v w, [x, y, z] = [u, v, w] ∧ F u v w := ⟨x, y, z, rfl, q⟩
/-! values -/
theorem x_rI0 {g : Int → Int → V} (q : Q (g m n) H) : rI0 g (.int m) (.int n) H Q := ⟨m, n, rfl, rfl, q⟩
theorem x_rI {C : Int → Int → Prop} {g : Int → Int → V} (h : C m n) (q : Q (g m n) H) : rI C g (.int m) (.int n) H Q := ⟨m, n, rfl, rfl, h, q⟩
theorem x_rU {g : Int → V} (q : Q (g m) H) : rU g (.int m) H Q := ⟨m, rfl, q⟩
theorem x_addI (q : Q (.int (m + n)) H) : uAdd K (.int m) (.int n) H Q := .inl ⟨m, n, rfl, rfl, q⟩
theorem x_addS {u w : Str} (h : u.length + w.length ≤ sizeLine) (q : Q (.str (u ++ w)) H) : uAdd K (.str u) (.str w) H Q := .inr (.inl ⟨u, w, rfl, rfl, h, q⟩)
theorem x_mulI (h : CMul m n) (q : Q (.int (m * n)) H) : uMul K (.int m) (.int n) H Q := .inl ⟨m, n, rfl, rfl, h, q⟩
theorem x_eqS (h : scal x y = true) (q : Q (.bl (decide (x = y))) H) : uEq K x y H Q := .inl ⟨h, q⟩
theorem x_neS (h : scal x y = true) (q : Q (.bl (!decide (x = y))) H) : uNe K x y H Q := .inl ⟨h, q⟩
theorem dI : decide (V.int m = V.int n) = decide (m = n) := by simp
theorem dS {u w : Str} : decide (V.str u = V.str w) = decide (u = w) := by simp
theorem dB {u w : Bool} : decide (V.bl u = V.bl w) = decide (u = w) := by simp
theorem x_eqI (q : Q (.bl (decide (m = n))) H) : uEq K (.int m) (.int n) H Q := .inl ⟨rfl, by rw [dI]; exact q⟩
theorem x_neI (q : Q (.bl (!decide (m = n))) H) : uNe K (.int m) (.int n) H Q := .inl ⟨rfl, by rw [dI]; exact q⟩
theorem x_eqStr {u w : Str} (q : Q (.bl (decide (u = w))) H) : uEq K (.str u) (.str w) H Q := .inl ⟨rfl, by rw [dS]; exact q⟩
theorem x_neStr {u w : Str} (q : Q (.bl (!decide (u = w))) H) : uNe K (.str u) (.str w) H Q := .inl ⟨rfl, by rw [dS]; exact q⟩
theorem x_eqB {u w : Bool} (q : Q (.bl (decide (u = w))) H) : uEq K (.bl u) (.bl w) H Q := .inl ⟨rfl, by rw [dB]; exact q⟩
theorem x_neB {u w : Bool} (q : Q (.bl (!decide (u = w))) H) : uNe K (.bl u) (.bl w) H Q := .inl ⟨rfl, by rw [dB]; exact q⟩
theorem x_isNI (q : Q (.bl false) H) : uIs (.int m) .non H Q := .inl ⟨rfl, by rw [decide_eq_false (fun z => nomatch z)]; exact q⟩
theorem x_isNotNI (q : Q (.bl true) H) : uIsNot (.int m) .non H Q := .inl ⟨rfl, by rw [decide_eq_false (fun z => nomatch z)]; exact q⟩
theorem x_isNS {u : Str} (q : Q (.bl false) H) : uIs (.str u) .non H Q := .inl ⟨rfl, by rw [decide_eq_false (fun z => nomatch z)]; exact q⟩
theorem x_isNotNS {u : Str} (q : Q (.bl true) H) : uIsNot (.str u) .non H Q := .inl ⟨rfl, by rw [decide_eq_false (fun z => nomatch z)]; exact q⟩
theorem x_isNB (q : Q (.bl false) H) : uIs (.bl b) .non H Q := .inl ⟨rfl, by rw [decide_eq_false (fun z => nomatch z)]; exact q⟩
theorem x_isNotNB (q : Q (.bl true) H) : uIsNot (.bl b) .non H Q := .inl ⟨rfl, by rw [decide_eq_false (fun z => nomatch z)]; exact q⟩
theorem x_isNR (q : Q (.bl false) H) : uIs (.ref p) .non H Q := .inl ⟨rfl, by rw [decide_eq_false (fun z => nomatch z)]; exact q⟩
theorem x_isNotNR (q : Q (.bl true) H) : uIsNot (.ref p) .non H Q := .inl ⟨rfl, by rw [decide_eq_false (fun z => nomatch z)]; exact q⟩
theorem x_isNN (q : Q (.bl true) H) : uIs .non .non H Q := .inl ⟨rfl, by rw [decide_eq_true rfl]; exact q⟩
theorem x_isNotNN (q : Q (.bl false) H) : uIsNot .non .non H Q := .inl ⟨rfl, by rw [decide_eq_true rfl]; exact q⟩
theorem x_eqR (h : scal x x = true) (q : Q (.bl true) H) : uEq K x x H Q := .inl ⟨h, by rw [decide_eq_true rfl]; exact q⟩
theorem x_neR (h : scal x x = true) (q : Q (.bl false) H) : uNe K x x H Q := .inl ⟨h, by rw [decide_eq_true rfl]; exact q⟩
theorem x_isN (q : Q (.bl (decide (x = .non))) H) : uIs x .non H Q := .inl ⟨rfl, q⟩
theorem x_isNotN (q : Q (.bl (!decide (x = .non))) H) : uIsNot x .non H Q := .inl ⟨rfl, q⟩
theorem x_isB {a b : Bool} (q : Q (.bl (decide (a = b))) H) : uIs (.bl a) (.bl b) H Q := .inr ⟨a, b, rfl, rfl, q⟩
theorem x_isNotB {a b : Bool} (q : Q (.bl (!decide (a = b))) H) : uIsNot (.bl a) (.bl b) H Q := .inr ⟨a, b, rfl, rfl, q⟩
theorem x_ixL (h : SqL K H p xs) (e : atI xs m = some v) (q : Q v H) : uIx K (.ref p) (.int m) H Q := .inl ⟨p, xs, m, v, rfl, rfl, h, e, q⟩
theorem x_ixT (h : SqT K H p xs) (e : atI xs m = some v) (q : Q v H) : uIx K (.ref p) (.int m) H Q := .inr (.inl ⟨p, xs, m, v, rfl, rfl, h, e, q⟩)
theorem x_ixS {u : Str} {c : Nat} (h : u.length ≤ sizeLine) (e : atI u.cps.toList m = some c) (q : Q (.str ⟨#[c]⟩) H) : uIx K (.str u) (.int m) H Q := .inr (.inr ⟨u, m, c, rfl, rfl, h, e, q⟩)
theorem x_setL {QH : Hp → Prop} (h : H p = some (.lst xs)) (e : ixN xs.length m = some j) (q : QH (upd H p (.lst (xs.set j v)))) : rSetL (.ref p) (.int m) v H QH := ⟨p, xs, m, j, rfl, rfl, h, e, q⟩
theorem x_lenL (h : SqL K H p xs) (q : Q (.int xs.length) H) : uLen K [.ref p] H Q := ⟨_, xs.length, rfl, .inl ⟨xs, h, rfl⟩, q⟩
theorem x_lenT (h : SqT K H p xs) (q : Q (.int xs.length) H) : uLen K [.ref p] H Q := ⟨_, xs.length, rfl, .inr ⟨xs, h, rfl⟩, q⟩
theorem x_lenS {u : Str} (h : u.length ≤ sizeLine) (q : Q (.int u.length) H) : uLen K [.str u] H Q := ⟨_, u.length, rfl, ⟨h, rfl⟩, q⟩
theorem x_abs (q : Q (.int (if m < 0 then -m else m)) H) : uAbs [.int m] H Q := ⟨m, rfl, q⟩
theorem x_intI (q : Q (.int m) H) : uInt [.int m] H Q := .inl ⟨m, rfl, q⟩
theorem x_intB (q : Q (.int (if b then 1 else 0)) H) : uInt [.bl b] H Q := .inr ⟨b, rfl, q⟩
theorem x_sum {ns : List Int} (h : SqL K H p (ns.map V.int)) (q : Q (.int ns.sum) H) : rSum K [.ref p] H Q := ⟨p, ns, rfl, h, q⟩
theorem x_all {bs : List Bool} (h : SqL K H p (bs.map V.bl)) (q : Q (.bl (bs.all id)) H) : rAll K [.ref p] H Q := ⟨p, bs, rfl, h, q⟩
theorem x_min2 (q : Q (.int (if n < m then n else m)) H) : uMin K [.int m, .int n] H Q := .inl ⟨m, n, rfl, q⟩
theorem x_max2 (q : Q (.int (if n > m then n else m)) H) : uMax K [.int m, .int n] H Q := .inl ⟨m, n, rfl, q⟩
/-! targets -/
theorem x_gName {QS : L2.St → Hp → Prop} (q : QS (σ.set i (some v)) H) : gName i v σ H QS := q
theorem x_gTup {QS : L2.St → Hp → Prop} {n : Nat} {t : TGs} (h : SqT K H p xs) (e : xs.length = n) (q : t xs σ H QS) : gTup K n t (.ref p) σ H QS := ⟨p, xs, rfl, h, e, q⟩
theorem x_gCons {QS : L2.St → Hp → Prop} {t : TG} {u : TGs} (q : t v σ H fun σ' H' => u xs σ' H' QS) : gCons t u (v :: xs) σ H QS := ⟨v, xs, rfl, q⟩
theorem x_gNil {QS : L2.St → Hp → Prop} (q : QS σ H) : gNil [] σ H QS := ⟨rfl, q⟩
theorem x_for {wi : TI} {g : TG} {tb : TS} (q : wi σ H fun J H1 => ∃ W : Nat → Nat → L2.St → Hp → Prop, (∃ m, W 0 m σ H1) ∧ ∀ i m σ H, W i m σ H →
      (J.stop i H ∧ D.nx σ H) ∨ (J.go i H ∧ ∃ N : L2.St → Hp → Prop, (∀ σ' H', N σ' H' → ∃ m', m' < m ∧ W (i + 1) m' σ' H') ∧ ∀ x H', J.yld i H x H' → g x σ H' fun σ2 H2 => tb { D with nx := N, ct := N, bk := D.nx } σ2 H2)) : tFor wi g tb D σ H := q
theorem x_iList {R : It → Hp → Prop} (q : te σ H fun x H1 => ∃ a, x = .ref a ∧ (∃ xs, SqL K H1 a xs) ∧ R (Itl K a) H1) : iList K te σ H R := q
theorem x_iTup {R : It → Hp → Prop} (q : te σ H fun x H1 => ∃ a, x = .ref a ∧ (∃ xs, SqT K H1 a xs) ∧ R (Itt K a) H1) : iTup K te σ H R := q
theorem x_iL {R : Addr → Prop} (h : SqL K H p xs) (q : R p) : ∃ a, V.ref p = .ref a ∧ (∃ xs, SqL K H a xs) ∧ R a := ⟨p, rfl, ⟨xs, h⟩, q⟩
theorem x_iT {R : Addr → Prop} (h : SqT K H p xs) (q : R p) : ∃ a, V.ref p = .ref a ∧ (∃ xs, SqT K H a xs) ∧ R a := ⟨p, rfl, ⟨xs, h⟩, q⟩
theorem x_iRng1 {R : It → Hp → Prop} (q : t' σ H fun vs H1 => ∃ j : Int, vs = [.int j] ∧ -(2 ^ 62) ≤ j ∧ j < 2 ^ 62 ∧ R (Itr 0 j.toNat) H1) : iRng1 t' σ H R := q
theorem x_rng1 {R : Int → Prop} (h1 : -(2 ^ 62) ≤ m) (h2 : m < 2 ^ 62) (q : R m) : ∃ j : Int, [V.int m] = [.int j] ∧ -(2 ^ 62) ≤ j ∧ j < 2 ^ 62 ∧ R j := ⟨m, rfl, h1, h2, q⟩
theorem x_iRng2 {R : It → Hp → Prop} (q : t' σ H fun vs H1 => ∃ i j : Int, vs = [.int i, .int j] ∧ (-(2 ^ 62) ≤ i ∧ i < 2 ^ 62 ∧ -(2 ^ 62) ≤ j ∧ j < 2 ^ 62) ∧ R (Itr i (j - i).toNat) H1) : iRng2 t' σ H R := q
theorem x_rng2 {R : Int → Int → Prop} (h1 : -(2 ^ 62) ≤ m ∧ m < 2 ^ 62 ∧ -(2 ^ 62) ≤ n ∧ n < 2 ^ 62) (q : R m n) : ∃ i j : Int, [V.int m, V.int n] = [.int i, .int j] ∧ (-(2 ^ 62) ≤ i ∧ i < 2 ^ 62 ∧ -(2 ^ 62) ≤ j ∧ j < 2 ^ 62) ∧ R i j := ⟨m, n, rfl, h1, q⟩
theorem x_iEnum {R : It → Hp → Prop} (q : t' σ H fun vs H1 => ∃ a xs, vs = [.ref a] ∧ SqL K H1 a xs ∧ R (Ite K a) H1) : iEnum K t' σ H R := q
theorem x_en {R : Addr → Prop} (h : SqL K H p xs) (q : R p) : ∃ a xs, [V.ref p] = [.ref a] ∧ SqL K H a xs ∧ R a := ⟨p, xs, rfl, h, q⟩
theorem x_iZip {R : It → Hp → Prop} (q : t' σ H fun vs H1 => ∃ a b xs ys, vs = [.ref a, .ref b] ∧ SqL K H1 a xs ∧ SqL K H1 b ys ∧ R (Itz K a b) H1) : iZip K t' σ H R := q
def LstK (xs : List V) (H : Hp) (Q : VK) : Prop := xs.length ≤ sizeLine ∧ ∀ p, H p = none → Q (.ref p) (upd H p (.lst xs))
def TupK (xs : List V) (H : Hp) (Q : VK) : Prop := xs.length ≤ sizeLine ∧ ∀ p, H p = none → Q (.ref p) (upd H p (.tup xs))
/-! with the state -/
section
variable {Ms M0 : List Addr} {L : List (Addr × HO)} {R : List Fa} {QH : Hp → Prop} {u : V}
theorem w_setL (hw : W K H0 Ms M0 H L R) (k : Nat) (hL : L[k]? = some (p, .lst xs)) (e : ixN xs.length m = some j) (q : ∀ H', W K H0 Ms M0 H' (L.set k (p, .lst (xs.set j v))) R → QH H') : rSetL (.ref p) (.int m) v H QH :=
  x_setL (hw.at k hL) e (q _ (hw.set k hL _))
theorem w_lst (hw : W K H0 Ms M0 H L R) (h : xs.length ≤ sizeLine) (q : ∀ p H', H p = none → W K H0 Ms M0 H' ((p, .lst xs) :: L) R → Q (.ref p) H') : LstK xs H Q :=
  ⟨h, fun p hp => q p _ hp (hw.new hp _)⟩
theorem x_lst (q : t' σ H fun xs H1 => LstK xs H1 Q) : tLst t' σ H Q := q
theorem x_tup (q : t' σ H fun xs H1 => TupK xs H1 Q) : tTup t' σ H Q := q
theorem w_tup {ds : List PyData} (hw : W K H0 Ms M0 H L R) (hd : RpAll K (av L M0) H xs ds) (h : xs.length ≤ sizeLine) (q : ∀ p H', H p = none → W K H0 Ms M0 H' L (.rp (.ref p) (.tuple ds) :: R) → Q (.ref p) H') : TupK xs H Q :=
  ⟨h, fun p hp => q p _ hp (hw.newTup hp hd)⟩
theorem w_tupC (hw : W K H0 Ms M0 H L R) (h : xs.length ≤ sizeLine) (q : ∀ p H', H p = none → W K H0 Ms M0 H' ((p, .tup xs) :: L) R → Q (.ref p) H') : TupK xs H Q :=
  ⟨h, fun p hp => q p _ hp (hw.new hp _)⟩
theorem w_slL (hw : W K H0 Ms M0 H L R) {lo hi : Option Int} (h : SqL K H p xs) (q : ∀ p H', H p = none → W K H0 Ms M0 H' ((p, .lst (cutV xs lo hi)) :: L) R → Q (.ref p) H') : uSl K (.ref p) lo hi H Q :=
  .inl ⟨p, xs, rfl, h, fun p hp => q p _ hp (hw.new hp _)⟩
theorem w_listL (hw : W K H0 Ms M0 H L R) (h : SqL K H p xs) (q : ∀ p H', H p = none → W K H0 Ms M0 H' ((p, .lst xs) :: L) R → Q (.ref p) H') : uList K [V.ref p] H Q := ⟨p, xs, rfl, .inl h, fun l hl => q l _ hl (hw.new hl _)⟩
theorem w_listT (hw : W K H0 Ms M0 H L R) (h : SqT K H p xs) (q : ∀ p H', H p = none → W K H0 Ms M0 H' ((p, .lst xs) :: L) R → Q (.ref p) H') : uList K [V.ref p] H Q := ⟨p, xs, rfl, .inr h, fun l hl => q l _ hl (hw.new hl _)⟩
end
/-! branches -/
theorem x_ifT (h : A) : if true = true then A else B := iteT h
theorem x_ifF (h : B) : if false = true then A else B := iteF h
theorem x_ifd {P : Prop} [Decidable P] (h1 : P → A) (h2 : ¬ P → B) : if decide P = true then A else B := by
  by_cases h : P
  · rw [decide_eq_true h]; exact iteT (h1 h)
  · rw [decide_eq_false h]; exact iteF (h2 h)
theorem x_ifn {P : Prop} [Decidable P] (h1 : ¬ P → A) (h2 : P → B) : if (!decide P) = true then A else B := by
  by_cases h : P
  · rw [decide_eq_true h]; exact iteF (h2 h)
  · rw [decide_eq_false h]; exact iteT (h1 h)
theorem x_ifP {P : Prop} [Decidable P] (h : P) (q : A) : if decide P = true then A else B := by rw [decide_eq_true h]; exact iteT q
theorem x_ifN {P : Prop} [Decidable P] (h : ¬ P) (q : B) : if decide P = true then A else B := by rw [decide_eq_false h]; exact iteF q
theorem x_ifnP {P : Prop} [Decidable P] (h : P) (q : B) : if (!decide P) = true then A else B := by rw [decide_eq_true h]; exact iteF q
theorem x_ifnN {P : Prop} [Decidable P] (h : ¬ P) (q : A) : if (!decide P) = true then A else B := by rw [decide_eq_false h]; exact iteT q
theorem x_ifnT (h : B) : if (!true) = true then A else B := iteF h
theorem x_ifnF (h : A) : if (!false) = true then A else B := iteT h
theorem x_nx {n bk ct : L2.St → Hp → Prop} {r : VK} (q : n σ H) : Ends.nx (Ends.mk n r bk ct) σ H := q
theorem x_rt {n bk ct : L2.St → Hp → Prop} {r : VK} (q : r v H) : Ends.rt (Ends.mk n r bk ct) v H := q
theorem x_bk {n bk ct : L2.St → Hp → Prop} {r : VK} (q : bk σ H) : Ends.bk (Ends.mk n r bk ct) σ H := q
theorem x_ct {n bk ct : L2.St → Hp → Prop} {r : VK} (q : ct σ H) : Ends.ct (Ends.mk n r bk ct) σ H := q
theorem x_brk (q : D.bk σ H) : tBreak D σ H := q
theorem x_cont (q : D.ct σ H) : tCont D σ H := q
theorem x_ifbT (h : b = true) (q : A) : if b = true then A else B := by rw [h]; exact iteT q
theorem x_ifbF (h : b = false) (q : B) : if b = true then A else B := by rw [h]; exact iteF q
theorem x_ifb (h1 : b = true → A) (h2 : b = false → B) : if b = true then A else B := by
  cases b
  · exact iteF (h2 rfl)
  · exact iteT (h1 rfl)
end
end Fw
namespace Fw
open PySem PySem.Spec PyProof.Rows L2
/-! ### calls with keywords, defaults -/
structure FnN (P : Program) (w : World) (K : PySem.W.Frag) (mg : Str → Option Value) (base : Heap) (CX : CXT) (k : Nat) (x : Str) (n : Nat) (ks : List Str) (gV : List V → List V → List V) (sp : Sp) : Prop where
  ex : ∃ (f : Addr) (fd : FuncData) (ps : List Str) (g : List Value → List Value → List Value), mg x = some (.ref f) ∧ PySem.W.keepIn K (.ref f) = true ∧ KBn K fd ps n ks g gV ∧ FnOk P w K mg base CX k f fd ps sp
section
variable {X : Cx} {CX : CXT} {k j n : Nat} {ks : List Str} {gV : List V → List V → List V} {sp : Sp} {E : XK} {x : Str} {p pos : Pos} {e : Expr} {es : List Expr} {kws : List Keyword} {t tk : TA}
theorem pe_fnN (F : FnN X.prog X.w X.K X.mg X.base CX k x n ks gV sp) (hr : Room j X.A) (hk : k ≤ j) (hg : Gl X x) (hx : Passes CX X E) (ha : PA X (e :: es) t) (hkw : PK X kws tk) (hall : (backToKw pos (keywordEach kws X.env)).all (·.1.isSome) = true := by rfl) (hks : (backToKw pos (keywordEach kws X.env)).filterMap (·.1) = ks := by rfl)
    (hdb : (x == ("__debug__" : Str)) = false := by decide) (he : starEach (e :: es) X.env = (false, eval e X.env) :: starEach es X.env := by rfl)
    (hpl : ((backTo pos (starEach (e :: es) X.env)).any (·.1) || (backToKw pos (keywordEach kws X.env)).any (·.1.isNone)) = false := by rfl) :
    PE X (.Call (.Name x p) (e :: es) kws pos) (tCallN n ks.length sp gV E t tk) := by
  obtain ⟨f, fd, ps, g, hm, hkp, hb, F⟩ := F.ex
  exact pe_callN F (hr.mono hk) hg hm hkp hb hx ha hkw hall hks hdb he hpl
theorem pe_fnN0 (F : FnN X.prog X.w X.K X.mg X.base CX k x n ks gV sp) (hr : Room j X.A) (hk : k ≤ j) (hg : Gl X x) (hx : Passes CX X E) (hkw : PK X kws tk) (hall : (backToKw pos (keywordEach kws X.env)).all (·.1.isSome) = true := by rfl) (hks : (backToKw pos (keywordEach kws X.env)).filterMap (·.1) = ks := by rfl)
    (hdb : (x == ("__debug__" : Str)) = false := by decide)
    (hpl : ((backTo pos (starEach [] X.env)).any (·.1) || (backToKw pos (keywordEach kws X.env)).any (·.1.isNone)) = false := by rfl) :
    PE X (.Call (.Name x p) [] kws pos) (tCallN n ks.length sp gV E tNil tk) := by
  obtain ⟨f, fd, ps, g, hm, hkp, hb, F⟩ := F.ex
  refine ⟨fun pins s σ H Q I h => ?_⟩
  refine wpAny_Call_Name_kw (ld_glob I hg hm ?_ hdb)
  refine PySem.W.callWith_KW0 (h₀ := X.base) I.ok.mod.kin hkp hall ?_ hpl
  refine thn (hkw.run pos pins s σ H _ I h) fun ws s2 ⟨zs, H2, I2, rz, l1, l2, q2⟩ => ⟨I2.kIn, ?_⟩
  rw [hks]
  exact run_fnN F (hr.mono hk) hb hx I2 .nil rz l1 l2 q2
theorem x_callN {m : Nat} {σ : L2.St} {H : Hp} {Q : VK} (q : t σ H fun vs H1 => tk σ H1 fun zs H2 => vs.length = n ∧ zs.length = m ∧ sp (gV vs zs) H2 Q E) : tCallN n m sp gV E t tk σ H Q := q
theorem x_lens {n m n' m' : Nat} {P : Prop} (h1 : n = n') (h2 : m = m') (q : P) : n = n' ∧ m = m' ∧ P := ⟨h1, h2, q⟩
end
/-- all parameters are written -/
theorem kbn_all {K : PySem.W.Frag} {x qual : Str} {params : Arguments} {body : List Stmt} {scope : Scope} {kws : List (Str × V)} {f : Addr} {fd : FuncData} {ps : List Str} (F : FunD K x qual params body scope [] kws f fd) (n : Nat) (ks : List Str) (g : {α : Type} → List α → List α → List α)
    (hrel : ∀ {vs zs : List V} {us ws : List Value}, Vals vs us → Vals zs ws → Vals (g vs zs) (g us ws))
    (h : ∀ (kV doc pm : Value) (an : Option Addr) (cdv ct : Value) (us ws : List Value), us.length = n → ws.length = ks.length → bindArgs (PySem.W.fnOf x qual params body scope .none kV doc pm an cdv ct) ⟨us, ks.zip ws⟩ = pure (ps.zip (g us ws))) : KBn K fd ps n ks (fun us ws => g us ws) (fun vs zs => g vs zs) := by
  obtain ⟨oc, od, dV, kV, doc, pm, an, cdv, ct, osl, rfl, lk, hcd, hD, hK⟩ := F.ex
  rcases hD with ⟨_, rfl⟩ | ⟨e, _⟩
  · exact ⟨fun s us ws X l1 l2 => .of_eq (h kV doc pm an cdv ct us ws l1 l2), fun r1 r2 => hrel r1 r2⟩
  · exact absurd rfl e
/-! ### a def's body with its slots written out, from FunD -/
section
variable {P : Program} {w : World} {K : PySem.W.Frag} {mg : Str → Option Value} {base : Heap}
theorem okD {x qual : Str} {st : Stmt} {dvs : List V} {kws : List (Str × V)} {f : Addr} {fd : FuncData} {N ps : List Str} {k : Nat} {sp : Sp} (F : FunD K x qual (defArgs st) (defBody st) (defScope st) dvs kws f fd) (S : FnScope N ps (defScope st)) (len : ∀ vs H Q E, sp vs H Q E → vs.length = ps.length)
    (hbody : ∀ (cdv : Value) (A : Around) (outer : List Env) (s : Shared) (H : Hp) (vs : List V) (Q : VK) (E : XK), Room k (A.deeper (envOfC qual (defScope st) s.heap.objs.size f cdv)) → sp vs H Q E →
      ∃ t σ, PSs (cxOf CX0 P w K mg base N qual (defScope st) f cdv A outer s H E).nox (defBody st) t ∧ L2.start N vs = σ ∧ t { nx := fun _ H' => Q .non H', rt := Q } σ H) : FnOk P w K mg base CX0 (k + 1) f fd ps sp := by
  refine F.ok S len fun cdv A outer s H vs Q E hr h => ?_
  obtain ⟨t, σ, h1, rfl, h2⟩ := hbody cdv A outer s H vs Q E hr h
  exact ⟨t, h1.nox, h2⟩
end
end Fw
namespace Fw
open PySem PySem.Spec PyProof.Rows L2
/-! ### a, .., *rest = a list -/
section
variable {X : Cx} {pos : Pos}
theorem pgs_star {e : Expr} {es : List Expr} {t : TG} {u : TGs} {sp : Pos} (h1 : PG X e t) (h2 : PGs X es u)
    (hs : (assignEach (.Starred e sp :: es) X.env).map (·.2) = assign e X.env :: (assignEach es X.env).map (·.2) := by rfl) : PGs X (.Starred e sp :: es) (gCons t u) := by
  refine ⟨fun pins s σ H vs us Q I r h => ?_⟩
  obtain ⟨v, vr, e1, h⟩ := h
  subst e1
  cases r with
  | cons r rr =>
    rw [hs]
    refine assignInOrder_cons (thn (h1.run pins s σ H _ _ _ I r h) fun _ s1 ⟨σ1, H1, I1, q1⟩ => ?_)
    exact h2.run pins s1 σ1 H1 _ _ Q I1 rr q1
def gStL (K : PySem.W.Frag) (i : Nat) (t : TGs) : TG := fun v σ H Q => ∃ a xs, v = .ref a ∧ SqL K H a xs ∧ i ≤ xs.length ∧ xs.length ≤ 16384 ∧ ∀ D, H D = none → t (xs.take i ++ [.ref D]) σ (upd H D (.lst (xs.drop i))) Q
theorem pg_stL {K : PySem.W.Frag} {es : List Expr} {k i : Nat} {t : TGs} (hc : X.calm = true) (h : PGs X es t)
    (hn : (assignEach es X.env).length = i + 1 := by rfl) (hst : (assignEach es X.env).findIdx? (·.1) = some i := by rfl) (hK : X.K = K := by rfl) : PG X (.Tuple es k pos) (gStL K i t) := by
  subst hK
  refine ⟨fun pins s σ H v u Q I r hw => ?_⟩
  obtain ⟨a, xs, e1, hq, hl, hz4, hw⟩ := hw
  subst e1
  cases r
  obtain ⟨its, rv, pl, hz⟩ := I.list hq
  have hl' : s.heap.IsList a its.toArray := by
    obtain ⟨o, m, e, c, d, q⟩ := pl
    exact ⟨o, e, c, m, q⟩
  have hlen : its.length = xs.length := rv.length.symm
  have hh := I.ok.hd hc
  have hlt : a ≠ s.heap.objs.size := by obtain ⟨o, ho, _⟩ := hl'; exact Nat.ne_of_lt (Heap.lt_size ho)
  rw [PyProof.Rows.assign_Tuple]
  refine wpAny_bind (wpAny_standAt ?_)
  unfold unpack
  rw [hn, hst]
  refine wpAny_bind (wpAny_holding ?_)
  unfold unpackItems
  refine wpAny_bind ?_
  unfold notIterableAtAll
  refine wpAny_bind (wpAny_specialOf hl'.typeIs slot_list_iter.lookup ?_)
  refine wpAny_pure ?_
  simp only [Bool.false_eq_true, if_false]
  refine wpAny_bind (wpAny_holding (wpAny_pyIter_list hl' ?_))
  refine wpAny_bind (wpAny_holding (PySem.W.kun_draw hlt i 0 _ _ ⟨_, Heap.get?_push_size _ rfl, rfl, rfl⟩ (hl'.push _) (by rw [List.size_toArray]; omega) fun h₁ hit₁ hs₁ => ?_))
  have hl₁ : h₁.IsList a its.toArray := (hl'.push _).extBut hs₁.extBut hlt
  rw [Nat.zero_add] at hit₁
  have hit₁' := hit₁
  obtain ⟨oi, hoi, _⟩ := hit₁'
  have hl₁' := hl₁
  obtain ⟨ol, hol, _⟩ := hl₁'
  rw [List.drop_zero]
  have hfl : (its.take i).length = i := by rw [List.length_take]; omega
  rw [if_neg (show ¬ ((its.toArray.toList.take i).length < i) by show ¬ (its.take i).length < i; rw [hfl]; omega)]
  refine wpAny_bind (wpAny_holding (PySem.W.kun_collect (s := { s with heap := h₁ }) (T := "list_iterator") (.inr (.inr (.inl rfl))) (Walks.list (A := X.A.in1) hh s.heap.objs.size a hlt its.toArray) (fun j u st => st.1.typeIs) (k := i) (by rw [List.size_toArray]; omega) ⟨hit₁, hl₁⟩ (Heap.lt_size hoi) (Heap.lt_size hol) (fun h₂ tk hk => ?_) (by rw [List.size_toArray]; omega)))
  show wpAny _ _ (if (its.drop i).length < i + 1 - 1 - i then _ else _) _ _ _
  rw [if_neg (by omega)]
  have he : ∀ b o, s.heap.get? b = some o → h₂.get? b = some o := fun b o e => hk b o (Nat.ne_of_lt (Heap.lt_size e)) (hs₁.extBut b o (Nat.ne_of_lt (Heap.lt_size e)) (Heap.get?_push_of_some _ e))
  have I2 : Inv X pins σ H { s with heap := h₂, toks := tk } := I.kept (t' := tk) he
  have hmid : (its.drop i).length - (i + 1 - 1 - i) = (its.drop i).length := by omega
  show wpAny _ _ (newList ((its.drop i).take ((its.drop i).length - (i + 1 - 1 - i))) >>= fun d => pure (its.take i ++ [d] ++ (its.drop i).drop ((its.drop i).length - (i + 1 - 1 - i)))) _ _ _
  rw [hmid, List.take_length, List.drop_length]
  have hrl : (its.drop i).length ≤ sizeLine := by rw [List.length_drop, sizeLine_eq]; omega
  refine wpAny_bind (wpAny_newList ?_ hrl)
  refine wpAny_pure ?_
  rw [List.append_nil]
  have hf : H h₂.objs.size = none := I2.hok.fresh (Nat.le_refl _)
  have I3 := I2.laid (a := h₂.objs.size) (o := .lst (xs.drop i)) (h' := h₂.push { cls := .type "list", data := .seq (its.drop i).toArray 0 }) (t' := tk) (fun b u e => Heap.get?_push_of_some _ e) (Nat.le_refl _) ⟨by rw [List.length_drop]; omega, its.drop i, 0, rv.drop i, Heap.get?_push_size _ rfl⟩
  exact h.run pins _ σ _ (xs.take i ++ [.ref h₂.objs.size]) _ Q I3 ((rv.take i).append (.cons (show RelV (.ref h₂.objs.size) (.ref h₂.objs.size) from rfl) .nil)) (hw _ hf)
def gU (K : PySem.W.Frag) (n : Nat) (t : TGs) : TG := gUnl K n t
theorem pg_uL {K : PySem.W.Frag} {es : List Expr} {k : Nat} {t : TGs} {n : Nat} (hc : X.calm = true) (h : PGs X es t)
    (hn : (assignEach es X.env).length = n := by rfl) (hst : (assignEach es X.env).findIdx? (·.1) = none := by rfl) (hK : X.K = K := by rfl) : PG X (.Tuple es k pos) (gU K n t) := hK ▸ pg_unl hc h hn hst
theorem x_gStL {K : PySem.W.Frag} {i : Nat} {t : TGs} {σ : L2.St} {H H0 : Hp} {QS : L2.St → Hp → Prop} {p : Addr} {xs : List V} {Ms M0 : List Addr} {L : List (Addr × HO)} {R : List Fa} (hw : W K H0 Ms M0 H L R) (h : SqL K H p xs) (h1 : i ≤ xs.length) (h2 : xs.length ≤ 16384)
    (q : ∀ D H', H D = none → W K H0 Ms M0 H' ((D, .lst (xs.drop i)) :: L) R → t (xs.take i ++ [.ref D]) σ H' QS) : gStL K i t (.ref p) σ H QS := ⟨p, xs, rfl, h, h1, h2, fun D hD => q D _ hD (hw.new hD _)⟩
theorem x_gStL1 {K : PySem.W.Frag} {t : TGs} {σ : L2.St} {H H0 : Hp} {QS : L2.St → Hp → Prop} {p : Addr} {x : V} {xs : List V} {Ms M0 : List Addr} {L : List (Addr × HO)} {R : List Fa} (hw : W K H0 Ms M0 H L R) (h : SqL K H p (x :: xs)) (h2 : xs.length ≤ 16383)
    (q : ∀ D H', H D = none → W K H0 Ms M0 H' ((D, .lst xs) :: L) R → t [x, .ref D] σ H' QS) : gStL K 1 t (.ref p) σ H QS := x_gStL hw h (Nat.succ_le_succ (Nat.zero_le _)) (by rw [List.length_cons]; omega) q
theorem x_gU {K : PySem.W.Frag} {n : Nat} {t : TGs} {σ : L2.St} {H : Hp} {QS : L2.St → Hp → Prop} {p : Addr} {xs : List V} (h : SqL K H p xs) (h1 : xs.length = n) (q : t xs σ H QS) : gU K n t (.ref p) σ H QS := ⟨p, xs, rfl, h, h1, q⟩
theorem x_gU2 {K : PySem.W.Frag} {t : TGs} {σ : L2.St} {H : Hp} {QS : L2.St → Hp → Prop} {p : Addr} {x y : V} (h : SqL K H p [x, y]) (q : t [x, y] σ H QS) : gU K 2 t (.ref p) σ H QS := x_gU h rfl q
theorem x_gU3 {K : PySem.W.Frag} {t : TGs} {σ : L2.St} {H : Hp} {QS : L2.St → Hp → Prop} {p : Addr} {x y z : V} (h : SqL K H p [x, y, z]) (q : t [x, y, z] σ H QS) : gU K 3 t (.ref p) σ H QS := x_gU h rfl q
theorem x_asgG {te : TE} {g : TG} {D : Ends} {σ : L2.St} {H : Hp} (q : te σ H fun x H1 => g x σ H1 D.nx) : tAsg te g D σ H := q
end
end Fw
namespace Fw
open PySem PySem.Spec PyProof.Rows L2
/-! ### d.update(e) -/
section
variable {X : Cx} {σ : L2.St} {H H0 : Hp}
def rUpdate : V → List V → Hp → VK → Prop := fun x vs H Q => ∃ a b kvs more, x = .ref a ∧ vs = [.ref b] ∧ H a = some (.dK kvs) ∧ H b = some (.dK more) ∧ a ≠ b ∧ kvs.length + more.length ≤ 1000 ∧ Q .non (upd H a (.dK (mergeK kvs more)))
theorem length_putK {κ : Type} [DecidableEq κ] (kvs : List (κ × V)) (k : κ) (v : V) : (putK kvs k v).length ≤ kvs.length + 1 := by
  unfold putK
  split
  · rw [List.length_map]; omega
  · rw [List.length_append]; exact Nat.le_refl _
theorem length_mergeK : ∀ (more kvs : List (Key × V)), (mergeK kvs more).length ≤ kvs.length + more.length
  | [], kvs => Nat.le_refl _
  | m :: r, kvs => by
    show (mergeK (putK kvs m.1 m.2) r).length ≤ _
    have h1 := length_mergeK r (putK kvs m.1 m.2)
    have h2 := length_putK kvs m.1 m.2
    rw [List.length_cons]
    omega
theorem mt_update : MtR X "dict.update" rUpdate := by
  intro pins s σ H x vs v us Q I rx rv h
  obtain ⟨a, b, kvs, more, rfl, rfl, ha, hb, hne, hz, q⟩ := h
  cases rx
  obtain ⟨u, rfl, ru⟩ := vals1 rv
  cases ru
  obtain ⟨z, hd, ws, rel, dd⟩ := dk_of I.hok ha
  obtain ⟨z2, hd2, ws2, rel2, dd2⟩ := dk_of I.hok hb
  have l1 := rel.length
  have l2 := rel2.length
  refine call_meetsIn PySem.F.slot_dict_update dd.typeIs PySem.F.entry_dict_update (PySem.F.args_dict_update_2 _ _) (meets_dict_update (mixKind X.prog X.w) a b hne hd2) ⟨ws, ws2, dd, dd2, by rw [sizeLine_eq]; omega, fun h' dd' _ hs => ?_⟩
  have he : ∃ q, h'.get? a = some q := let ⟨q, _, _, hq, _⟩ := dd'; ⟨q, hq⟩
  have hl := length_mergeK more kvs
  exact ⟨.non, _, d_write (t' := s.toks) I (by rw [ha]; exact True.intro) hs he (dk_new (by rw [sizeLine_eq]; omega) hd (KV.merge rel2 rel) dd'), rfl, q⟩
theorem pe_gI {x : Str} {i : Int} {pos : Pos} (hg : Gl X x) (hm : ∃ t, X.mg x = some (.int i t)) (hd : (x == ("__debug__" : Str)) = false := by decide) : PE X (.Name x pos) (tC (.int i)) := by
  obtain ⟨t, hm⟩ := hm
  exact pe_glob hg hm ⟨t, rfl⟩ hd
theorem pe_gS {x z : Str} {pos : Pos} (hg : Gl X x) (hm : ∃ t, X.mg x = some (.str z t)) (hd : (x == ("__debug__" : Str)) = false := by decide) : PE X (.Name x pos) (tC (.str z)) := by
  obtain ⟨t, hm⟩ := hm
  exact pe_glob hg hm ⟨t, rfl⟩ hd
theorem pe_gR {x : Str} {a : Addr} {pos : Pos} (hg : Gl X x) (hm : X.mg x = some (.ref a)) (hd : (x == ("__debug__" : Str)) = false := by decide) : PE X (.Name x pos) (tC (.ref a)) := pe_glob hg hm rfl hd
/-! ### steps for dicts -/
theorem x_dget {td ty : TE} {Q : VK} (q : td σ H fun x H1 => ty σ H1 fun y H2 => ∃ a v, x = .ref a ∧ DGet H2 a y (some v) ∧ Q v H2) : tDGet td ty σ H Q := q
theorem x_dgetS {p : Addr} {kvs : List (Key × V)} {x : Str} {v : V} {F : V → Prop} (h : H p = some (.dK kvs)) (e : valV kvs (.inr x) = some v) (q : F v) : ∃ a v, V.ref p = .ref a ∧ DGet H a (.str x) (some v) ∧ F v :=
  ⟨p, v, rfl, .inl ⟨kvs, .inr x, .inl h, rfl, e.symm⟩, q⟩
def uIxD (K : PySem.W.Frag) (w : World) : R2 := rIxD K w
theorem ix_D {K : PySem.W.Frag} {w : World} (hK : X.K = K := by rfl) (hw : X.w = w := by rfl) : IxR X (uIxD K w) := hK ▸ hw ▸ ix_kdict
theorem x_ixD {K : PySem.W.Frag} {w : World} {p : Addr} {z : Str} {v : V} {Q : VK} (h : KDct K w p z v) (q : Q v H) : uIxD K w (.ref p) (.str z) H Q := ⟨p, z, v, rfl, rfl, h, q⟩
theorem x_callL {i : Nat} {f : Addr} {sp : Sp} {dvs : List V} {E : XK} {t : TA} {Q : VK} (h : σ[i]? = some (some (.ref f))) (q : t σ H fun vs H1 => sp (vs ++ dvs) H1 Q E) : tCallL i f sp dvs E t σ H Q := ⟨h, q⟩
end
end Fw
namespace Fw
open PySem PySem.Spec PyProof.Rows L2
section
variable {X : Cx} {σ : L2.St} {H H0 : Hp} {K : PySem.W.Frag} {Q : VK} {p : Addr} {xs : List V} {x : V}
/-! ### in, not in -/
def uIn (K : PySem.W.Frag) : R2 := fun x y H Q => rIn K false x y H Q ∨ (∃ (c : Nat) (z : Str), x = .str ⟨#[c]⟩ ∧ y = .str z ∧ Q (.bl (decide (c ∈ z.cps.toList))) H) ∨ rInD K x y H Q
def uNotIn (K : PySem.W.Frag) : R2 := fun x y H Q => rIn K true x y H Q ∨ (∃ (c : Nat) (z : Str), x = .str ⟨#[c]⟩ ∧ y = .str z ∧ Q (.bl (!decide (c ∈ z.cps.toList))) H) ∨ rNotInD K x y H Q
theorem Room.un65 {k : Nat} {A : Around} (r : Room k A) : A.units + 65 < cLine := by have := r.un; omega
theorem op_inU {k : Nat} (hr : Room k X.A) (hK : X.K = K := by rfl) : OpR X (compareOp .In) (uIn K) := hK ▸ OpR.or op_in_seq (OpR.or op_in_sign (op_inD (Room.un65 hr)))
theorem op_notInU {k : Nat} (hr : Room k X.A) (hK : X.K = K := by rfl) : OpR X (compareOp .NotIn) (uNotIn K) := hK ▸ OpR.or op_notIn_seq (OpR.or op_notIn_sign (op_notInD (Room.un65 hr)))
theorem x_inL (h : SqL K H p xs) (h1 : flatV x = true) (h2 : xs.all flatV = true) (q : Q (.bl (inV x xs)) H) : uIn K x (.ref p) H Q := .inl ⟨p, xs, rfl, .inl h, h1, h2, q⟩
theorem x_inT (h : SqT K H p xs) (h1 : flatV x = true) (h2 : xs.all flatV = true) (q : Q (.bl (inV x xs)) H) : uIn K x (.ref p) H Q := .inl ⟨p, xs, rfl, .inr h, h1, h2, q⟩
theorem x_notInL (h : SqL K H p xs) (h1 : flatV x = true) (h2 : xs.all flatV = true) (q : Q (.bl (!inV x xs)) H) : uNotIn K x (.ref p) H Q := .inl ⟨p, xs, rfl, .inl h, h1, h2, q⟩
theorem x_notInT (h : SqT K H p xs) (h1 : flatV x = true) (h2 : xs.all flatV = true) (q : Q (.bl (!inV x xs)) H) : uNotIn K x (.ref p) H Q := .inl ⟨p, xs, rfl, .inr h, h1, h2, q⟩
theorem x_inSign {c : Nat} {z : Str} (q : Q (.bl (decide (c ∈ z.cps.toList))) H) : uIn K (.str ⟨#[c]⟩) (.str z) H Q := .inr (.inl ⟨c, z, rfl, rfl, q⟩)
/-! ### lists: +, dict displays, reversed slices -/
variable {Ms M0 : List Addr} {L : List (Addr × HO)} {R : List Fa} {q : Addr} {ys : List V}
theorem w_cat (hw : W K H0 Ms M0 H L R) (h1 : H p = some (.lst xs)) (h2 : H q = some (.lst ys)) (hz : xs.length + ys.length ≤ sizeLine) (k : ∀ p H', H p = none → W K H0 Ms M0 H' ((p, .lst (xs ++ ys)) :: L) R → Q (.ref p) H') : uAdd K (.ref p) (.ref q) H Q :=
  .inr (.inr (.inl ⟨p, q, xs, ys, rfl, rfl, h1, h2, hz, fun l hl => k l _ hl (hw.new hl _)⟩))
theorem w_rep (hw : W K H0 Ms M0 H L R) {k : Int} (h1 : H p = some (.lst xs)) (h2 : -(2 ^ 63) ≤ k) (h3 : k < 2 ^ 63) (hz : xs.length * k.toNat ≤ sizeLine) (c : ∀ p H', H p = none → W K H0 Ms M0 H' ((p, .lst (List.replicate k.toNat xs).flatten) :: L) R → Q (.ref p) H') : uMul K (.ref p) (.int k) H Q :=
  .inr (.inl ⟨p, k, xs, rfl, rfl, h1, h2, h3, hz, fun l hl => c l _ hl (hw.new hl _)⟩)
def toKey : V → Key
  | .str x => .inr x
  | .int i => .inl i
  | _ => .inl 0
def DispK (p : Addr) (ps : List (V × V)) (H : Hp) (Q : VK) : Prop := H p = some (.dK []) ∧ ∃ kvs : List (Key × V), ps = kvs.map (fun kv => (kV kv.1, kv.2)) ∧ kvs.length ≤ 15 ∧ Q (.ref p) (upd H p (.dK (mergeK [] kvs)))
def RevK (K : PySem.W.Frag) (x : V) (H : Hp) (Q : VK) : Prop := ∃ a xs, x = .ref a ∧ SqL K H a xs ∧ ∀ p, H p = none → Q (.ref p) (upd H p (.lst xs.reverse))
theorem w_disp {trs : List (TE × TE)} (hw : W K H0 Ms M0 H L R) (k : ∀ p H', H p = none → W K H0 Ms M0 H' ((p, .dK []) :: L) R → tPairs trs σ H' fun ps H2 => DispK p ps H2 Q) : tDisp trs σ H Q :=
  fun p hp => k p _ hp (hw.new hp _)
theorem x_pairs {tk tv : TE} {r : List (TE × TE)} {QP : List (V × V) → Hp → Prop} (k : tk σ H fun x H1 => tv σ H1 fun y H2 => tPairs r σ H2 fun ps H3 => QP ((x, y) :: ps) H3) : tPairs ((tk, tv) :: r) σ H QP := k
theorem x_pairs0 {QP : List (V × V) → Hp → Prop} (k : QP [] H) : tPairs [] σ H QP := k
theorem w_dispEnd {ps : List (V × V)} (hw : W K H0 Ms M0 H L R) (n : Nat) (hL : L[n]? = some (p, .dK [])) (e : ps = (ps.map fun p => (toKey p.1, p.2)).map fun kv => (kV kv.1, kv.2)) (hl : ps.length ≤ 15)
    (k : ∀ H', W K H0 Ms M0 H' (L.set n (p, .dK (mergeK [] (ps.map fun p => (toKey p.1, p.2))))) R → Q (.ref p) H') : DispK p ps H Q :=
  ⟨hw.at n hL, _, e, by rw [List.length_map]; exact hl, k _ (hw.set n hL _)⟩
theorem w_update {n m : Nat} {kvs more : List (Key × V)} (hw : W K H0 Ms M0 H L R) (h1 : L[n]? = some (p, .dK kvs)) (h2 : L[m]? = some (q, .dK more)) (hnm : n ≠ m) (hz : kvs.length + more.length ≤ 1000)
    (k : ∀ H', W K H0 Ms M0 H' (L.set n (p, .dK (mergeK kvs more))) R → Q .non H') : rUpdate (.ref p) [.ref q] H Q := ⟨p, q, kvs, more, rfl, rfl, hw.at n h1, hw.at m h2, hw.ne h1 h2 hnm, hz, k _ (hw.set n h1 _)⟩
theorem x_bm {T : String} {r : V → List V → Hp → VK → Prop} {to : TE} {t : TA} (k : to σ H fun x H1 => tyV K T x H1 ∧ t σ H1 fun xs H2 => r x xs H2 Q) : tBM K T r to t σ H Q := k
theorem x_bm0 {T : String} {r : V → List V → Hp → VK → Prop} {to : TE} (k : to σ H fun x H1 => tyV K T x H1 ∧ r x [] H1 Q) : tBM0 K T r to σ H Q := k
theorem x_tyL {B : Prop} (h : H p = some (.lst xs)) (k : B) : tyV K "list" (.ref p) H ∧ B := ⟨.inl ⟨rfl, _, SqL.of h⟩, k⟩
theorem x_tyD {B : Prop} {kvs : List (Key × V)} (h : H p = some (.dK kvs)) (k : B) : tyV K "dict" (.ref p) H ∧ B := ⟨.inr (.inr (.inl ⟨rfl, .inl ⟨_, h⟩⟩)), k⟩
theorem x_tyS {B : Prop} {z : Str} (k : B) : tyV K "str" (.str z) H ∧ B := ⟨rfl, k⟩
theorem w_append {n : Nat} (hw : W K H0 Ms M0 H L R) (h1 : L[n]? = some (p, .lst xs)) (hz : xs.length < sizeLine) (k : ∀ H', W K H0 Ms M0 H' (L.set n (p, .lst (xs ++ [x]))) R → Q .non H') : rAppend (.ref p) [x] H Q := ⟨p, xs, x, rfl, rfl, hw.at n h1, hz, k _ (hw.set n h1 _)⟩
section
variable {o e : Expr} {es : List Expr} {to : TE} {t : TA} {name : Str} {apos cpos : Pos} {T id : String} {r : V → List V → Hp → VK → Prop}
theorem pe_m0 (pa : PlainAttrs T) (slot : Slot T name id) (hty : typeOf (.builtin id) = pure (.type "method_descriptor")) (hm : MtR X id r) (ho : PE X o to)
    (hbase : attributeBase o name X.env (eval o X.env) = eval o X.env := by rfl) (hline : (apos.endLine == cpos.line) = true := by rfl) (hK : X.K = K := by rfl) : PE X (.Call (.Attribute o name apos) [] [] cpos) (tBM0 K T r to) := hK ▸ pe_bm0 pa slot hty hm ho hbase hline
theorem pe_m1 (pa : PlainAttrs T) (slot : Slot T name id) (hty : typeOf (.builtin id) = pure (.type "method_descriptor")) (hm : MtR X id r) (ho : PE X o to) (ha : PA X (e :: es) t)
    (hbase : attributeBase o name X.env (eval o X.env) = eval o X.env := by rfl)
    (hfew : ((backTo cpos (starEach (e :: es) X.env)).all (fun x => !x.1) && (backToKw cpos (keywordEach [] X.env)).all (fun x => x.1.isSome)
      && decide ((e :: es).length + ([] : List Keyword).length + (if ([] : List Keyword).isEmpty then 0 else 1) < 30)) = true := by rfl)
    (hline : (apos.endLine == cpos.line) = true := by rfl) (hs : starEach (e :: es) X.env = (false, eval e X.env) :: starEach es X.env := by rfl) (hplain : (backTo cpos (starEach es X.env)).any (·.1) = false := by rfl) (hK : X.K = K := by rfl) :
    PE X (.Call (.Attribute o name apos) (e :: es) [] cpos) (tBM K T r to t) := hK ▸ pe_bm pa slot hty hm ho ha hbase hfew hline hs hplain
end
theorem pe_revU {e : Expr} {te : TE} {k : Nat} {p1 p2 p3 pos : Pos} (he : PE X e te) (hK : X.K = K := by rfl) : PE X (.Subscript e (.Slice none none (some (.UnaryOp .USub (.Constant (.int 1) k p1) p2)) p3) pos) (tRevL K te) := hK ▸ pe_revL he
theorem x_rev {te : TE} (k : te σ H fun x H1 => RevK K x H1 Q) : tRevL K te σ H Q := k
theorem w_rev (hw : W K H0 Ms M0 H L R) (h : SqL K H p xs) (k : ∀ p H', H p = none → W K H0 Ms M0 H' ((p, .lst xs.reverse) :: L) R → Q (.ref p) H') : RevK K (.ref p) H Q :=
  ⟨p, xs, rfl, h, fun l hl => k l _ hl (hw.new hl _)⟩
end
end Fw
namespace Fw
open PySem PySem.Spec PyProof.Rows L2
section
variable {X : Cx} {σ : L2.St} {H H0 : Hp} {K : PySem.W.Frag} {Q : VK} {p q : Addr} {xs : List V} {x : V} {m : Int} {b : Bool} {T n : String}
/-! ### isinstance -/
def uIsi (K : PySem.W.Frag) : List V → Hp → VK → Prop := fun xs H Q => rIsi K xs H Q ∨ rIsiT K xs H Q
theorem call_isiU (hK : X.K = K := by rfl) : CallR X (.builtin "isinstance") (uIsi K) := hK ▸ CallR.or call_isi call_isiT
theorem x_isi (ht : TyX K H x (.type T)) (e : kitB T n = some b) (k : Q (.bl b) H) : uIsi K [x, .ty n] H Q := .inl ⟨x, .ty n, .type T, .type n, b, rfl, .ty n, ht, kit_ty e, k⟩
theorem x_isiI {i : Int} (e : kitB "int" n = some b) (k : Q (.bl b) H) : uIsi K [.int i, .ty n] H Q := x_isi (.base (.int _)) e k
theorem x_isiB {c : Bool} (e : kitB "bool" n = some b) (k : Q (.bl b) H) : uIsi K [.bl c, .ty n] H Q := x_isi (.base (.bl _)) e k
theorem x_isiS {z : Str} (e : kitB "str" n = some b) (k : Q (.bl b) H) : uIsi K [.str z, .ty n] H Q := x_isi (.base (.str _)) e k
theorem x_isiN (e : kitB "NoneType" n = some b) (k : Q (.bl b) H) : uIsi K [.non, .ty n] H Q := x_isi (.base .non) e k
theorem x_isiL (h : H p = some (.lst xs)) (e : kitB "list" n = some b) (k : Q (.bl b) H) : uIsi K [.ref p, .ty n] H Q := x_isi (.base (.lst h)) e k
theorem x_isiT (h : H p = some (.tup xs)) (e : kitB "tuple" n = some b) (k : Q (.bl b) H) : uIsi K [.ref p, .ty n] H Q := x_isi (.base (.tup h)) e k
/-! ### an item at a drawn place -/
theorem x_ixAny (h : SqL K H p xs) (h0 : 0 ≤ m) (h1 : m < xs.length) (k : ∀ v ∈ xs, Q v H) : uIx K (.ref p) (.int m) H Q := by
  have hm : m.toNat < xs.length := by omega
  have e : m = ((m.toNat : Nat) : Int) := by omega
  have q : atI xs ((m.toNat : Nat) : Int) = some xs[m.toNat] := atI_nat (List.getElem?_eq_getElem hm)
  rw [← e] at q
  exact x_ixL h q (k _ (List.getElem_mem hm))
theorem at_get {α : Type} {xs : List α} (h0 : 0 ≤ m) (h1 : m < xs.length) : atI xs m = some (xs[m.toNat]'(by omega)) := by
  have hm : m.toNat < xs.length := by omega
  have e : m = ((m.toNat : Nat) : Int) := by omega
  have q : atI xs ((m.toNat : Nat) : Int) = some xs[m.toNat] := atI_nat (List.getElem?_eq_getElem hm)
  rw [← e] at q
  exact q
theorem x_chain {r r' : R2} {ta tb tc : TE} (k : ta σ H fun x H1 => tb σ H1 fun y H2 => r x y H2 fun z H3 => ∃ k, z = .bl k ∧ (if k = true then tc σ H3 fun w' H4 => r' y w' H4 Q else Q (.bl false) H3)) : tChain r r' ta tb tc σ H Q := k
end
end Fw
namespace Fw
open PySem PySem.Spec PyProof.Rows L2
section
variable {X : Cx} {σ : L2.St} {H H0 : Hp} {K : PySem.W.Frag} {Q : VK} {p q : Addr} {xs : List V} {x : V} {m : Int} {b : Bool} {n : Nat} {Ms M0 : List Addr} {L : List (Addr × HO)} {R : List Fa}
variable {J : It} {G : Hp → Prop} {Y : Nat → Hp → V → Hp → Prop} {wi : TI} {g : TG} {tt : TT} {te : TE} {vs : List Nat} {D : Ends} {tb : TS}
/-! ### comprehensions, loops over any walk, with the state -/
def LcK (J : It) (g : TG) (tt : TT) (te : TE) (vs : List Nat) (σ : L2.St) (H1 : Hp) (Q : VK) : Prop := ∀ D, H1 D = none → ∃ W : Nat → Nat → Hp → Prop, (∃ m, W 0 m (upd H1 D (.lst []))) ∧ ∀ i m H, W i m H →
  (J.stop i H ∧ Q (.ref D) H) ∨ (J.go i H ∧ ∃ Nx : Hp → Prop, (∀ H', Nx H' → ∃ m', m' < m ∧ W (i + 1) m' H') ∧ ∀ x H', J.yld i H x H' → g x (wipe σ vs) H' fun σ2 H2 => wipe σ2 vs = wipe σ vs ∧ tt σ2 H2 fun b H3 =>
    if b = true then te σ2 H3 fun y H4 => ∃ acc, H4 D = some (.lst acc) ∧ acc.length < sizeLine ∧ Nx (upd H4 D (.lst (acc ++ [y]))) else Nx H3)
def AppK (D : Addr) (N : Hp → Prop) (y : V) (H : Hp) : Prop := ∃ acc, H D = some (.lst acc) ∧ acc.length < sizeLine ∧ N (upd H D (.lst (acc ++ [y])))
theorem x_lc (k : wi σ H fun J H1 => LcK J g tt te vs σ H1 Q) : tLc wi g tt te vs σ H Q := k
theorem w_lcK (hw : W K H0 Ms M0 H L R) (wk : Walk J n G Y) (Pv : Addr → Nat → Hp → Prop) (h0 : ∀ D H', H D = none → W K H0 Ms M0 H' ((D, .lst []) :: L) R → Pv D 0 H') (hG : ∀ D i H, i ≤ n → Pv D i H → G H)
    (hs : ∀ D i x H H', i < n → Pv D i H → Y i H x H' → g x (wipe σ vs) H' fun σ2 H2 => wipe σ2 vs = wipe σ vs ∧ tt σ2 H2 fun b H3 => if b = true then te σ2 H3 fun y H4 => AppK D (Pv D (i + 1)) y H4 else Pv D (i + 1) H3)
    (hd : ∀ D H, Pv D n H → Q (.ref D) H) : LcK J g tt te vs σ H Q := fun D hD =>
  lc_it wk (Pv D) (h0 D _ hD (hw.new hD _)) (hG D) (hs D) (hd D)
theorem w_app {N : Hp → Prop} (hw : W K H0 Ms M0 H L R) (k : Nat) (hL : L[k]? = some (p, .lst xs)) (hz : xs.length < sizeLine) (c : ∀ H', W K H0 Ms M0 H' (L.set k (p, .lst (xs ++ [x]))) R → N H') : AppK p N x H :=
  ⟨xs, hw.at k hL, hz, c _ (hw.set k hL _)⟩
theorem x_yes {QB : Bool → Hp → Prop} (k : QB true H) : tYes σ H QB := k
theorem x_wipe {B : Prop} {σ2 : L2.St} (h : wipe σ2 vs = wipe σ vs) (k : B) : wipe σ2 vs = wipe σ vs ∧ B := ⟨h, k⟩
def ForK (J : It) (g : TG) (tb : TS) (D : Ends) (σ : L2.St) (H1 : Hp) : Prop := ∃ W : Nat → Nat → L2.St → Hp → Prop, (∃ m, W 0 m σ H1) ∧ ∀ i m σ H, W i m σ H →
      (J.stop i H ∧ D.nx σ H) ∨ (J.go i H ∧ ∃ N : L2.St → Hp → Prop, (∀ σ' H', N σ' H' → ∃ m', m' < m ∧ W (i + 1) m' σ' H') ∧ ∀ x H', J.yld i H x H' → g x σ H' fun σ2 H2 => tb { D with nx := N, ct := N, bk := D.nx } σ2 H2)
theorem x_forK (k : wi σ H fun J H1 => ForK J g tb D σ H1) : tFor wi g tb D σ H := k
theorem w_for (wk : Walk J n G Y) (Pv : Nat → L2.St → Hp → Prop) (h0 : Pv 0 σ H) (hG : ∀ i σ H, i ≤ n → Pv i σ H → G H)
    (hs : ∀ i x σ H H', i < n → Pv i σ H → Y i H x H' → g x σ H' fun σ2 H2 => tb (Ends.mk (Pv (i + 1)) D.rt D.nx (Pv (i + 1))) σ2 H2) (hd : ∀ σ H, Pv n σ H → D.nx σ H) : ForK J g tb D σ H := for_it wk Pv h0 hG hs hd
theorem W.abs {F : Prop} (hw : W K H0 Ms M0 H L R) (k : ∀ L' R', L' = L → R' = R → W K H0 Ms M0 H L' R' → F) : F := k L R rfl rfl hw
/-! ### what is walked: a list, a tuple, a text -/
def ItV (K : PySem.W.Frag) (x : V) (H : Hp) (R : It → Hp → Prop) : Prop := (∃ a xs, x = .ref a ∧ SqL K H a xs ∧ R (Itl K a) H) ∨ (∃ a xs, x = .ref a ∧ SqT K H a xs ∧ R (Itt K a) H) ∨ ∃ z, x = .str z ∧ R (Its z) H
def iU (K : PySem.W.Frag) (te : TE) : TI := fun σ H R => te σ H fun x H1 => ItV K x H1 R
theorem pi_U {tg l : Expr} {tl : TE} (hl : PE X l tl) (hK : X.K = K := by rfl) : PI X tg l (iU K tl) := by
  subst hK
  refine ⟨fun pins s σ H R I h => ?_⟩
  refine thn (hl.run pins s σ H _ I h) fun v s1 ⟨x, H1, I1, r1, q1⟩ => ?_
  rcases q1 with ⟨a, xs, e, hq, q⟩ | ⟨a, xs, e, hq, q⟩ | ⟨z, e, q⟩
  · subst e
    cases r1
    obtain ⟨its, rv, p, hz⟩ := I1.list hq
    refine wpAny_pyIter_list p.isList ?_
    refine ⟨s1.heap.objs.size, [s1.heap.objs.size], _, _, H1, rfl, I1.kept (t' := s1.toks) fun b o e => Heap.get?_push_of_some _ e, turn_list a _, ⟨_, Heap.get?_push_size _ rfl, rfl, rfl⟩, fun b hb => ?_, q⟩
    have e : b = s1.heap.objs.size := by simpa using hb
    subst e
    exact I1.fpOk (Nat.le_refl _) (I1.hok.fresh (Nat.le_refl _))
  · subst e
    cases r1
    obtain ⟨its, rv, p, hz⟩ := I1.tuple hq
    refine wpAny_pyIter_tuple (show s1.heap.IsTuple a its.toArray from p) ?_
    refine ⟨s1.heap.objs.size, [s1.heap.objs.size], _, _, H1, rfl, I1.kept (t' := s1.toks) fun b o e => Heap.get?_push_of_some _ e, turn_tuple a _, ⟨_, Heap.get?_push_size _ rfl, rfl, rfl⟩, fun b hb => ?_, q⟩
    have e : b = s1.heap.objs.size := by simpa using hb
    subst e
    exact I1.fpOk (Nat.le_refl _) (I1.hok.fresh (Nat.le_refl _))
  · subst e
    obtain ⟨t, rfl⟩ := r1
    cases ha : z.cps.all (· < 128)
    · exact wpAny_pyIter_wide ha (pi_one (tk := s1.toks) I1 _ (turn_str _ z t "str_iterator" (.inr rfl)) ⟨_, Heap.get?_push_size _ rfl, rfl, rfl⟩ q)
    · exact wpAny_pyIter_ascii ha (pi_one (tk := s1.toks) I1 _ (turn_str _ z t "str_ascii_iterator" (.inl rfl)) ⟨_, Heap.get?_push_size _ rfl, rfl, rfl⟩ q)
theorem x_iU {R : It → Hp → Prop} {te : TE} (k : te σ H fun x H1 => ItV K x H1 R) : iU K te σ H R := k
theorem x_itL {R : It → Hp → Prop} (h : SqL K H p xs) (k : R (Itl K p) H) : ItV K (.ref p) H R := .inl ⟨p, xs, rfl, h, k⟩
theorem x_itT {R : It → Hp → Prop} (h : SqT K H p xs) (k : R (Itt K p) H) : ItV K (.ref p) H R := .inr (.inl ⟨p, xs, rfl, h, k⟩)
theorem x_itS {R : It → Hp → Prop} {z : Str} (k : R (Its z) H) : ItV K (.str z) H R := .inr (.inr ⟨z, rfl, k⟩)
/-! ### all of truths -/
theorem rep_bl (n : Nat) : List.replicate n (V.bl true) = (List.replicate n true).map V.bl := by rw [List.map_replicate]
theorem all_rep (n : Nat) : (List.replicate n true).all id = true := by simp
theorem x_allT (h : H p = some (.lst (List.replicate n (.bl true)))) (k : Q (.bl true) H) : rAll K [.ref p] H Q := ⟨p, List.replicate n true, rfl, by rw [← rep_bl]; exact SqL.of h, by rw [all_rep]; exact k⟩
theorem rep_snoc {α : Type} (n : Nat) (v : α) : List.replicate n v ++ [v] = List.replicate (n + 1) v := by rw [List.replicate_succ']
end
end Fw
namespace Fw
open PySem PySem.Spec PyProof.Rows L2
/-! ### == of data -/
theorem lay_ints : ∀ ns : List Int, PyData.canLayAll0 (ns.map PyData.int) = true
  | [] => by simp [PyData.canLayAll0]
  | n :: r => by simp [PyData.canLayAll0, PyData.canLay0, lay_ints r]
theorem depth_ints : ∀ ns : List Int, PyData.depthAll (ns.map PyData.int) ≤ 1
  | [] => by simp [PyData.depthAll]
  | n :: r => by have := depth_ints r; simp [PyData.depthAll, PyData.depth]; omega
theorem shaped_ints (ns : List Int) : SeqAt.shaped (.list (ns.map .int)) = true := by
  unfold SeqAt.shaped
  have h := depth_ints ns
  simp [PyData.canLay0, PyData.depth, lay_ints ns]
  omega
theorem eqv_ints : ∀ ns ms : List Int, PyData.eqvAll (ns.map PyData.int) (ms.map PyData.int) = decide (ns = ms)
  | [], [] => by simp [PyData.eqvAll]
  | [], _ :: _ => by simp [PyData.eqvAll]
  | _ :: _, [] => by simp [PyData.eqvAll]
  | n :: r, m :: t => by
    simp [PyData.eqvAll, PyData.eqv, eqv_ints r t]
    congr 1

section
variable {H : Hp} {K : PySem.W.Frag} {Q : VK} {p q : Addr} {ns ms : List Int}
theorem dp_ints (h : H p = some (.lst (ns.map V.int))) : Dp K H (.ref p) (.list (ns.map .int)) := .lst (SqL.of h) (DdAll.dp (DdAll.ints ns))
theorem x_eqIL (h1 : H p = some (.lst (ns.map V.int))) (h2 : H q = some (.lst (ms.map V.int))) (k : Q (.bl (decide (ns = ms))) H) : uEq K (.ref p) (.ref q) H Q :=
  .inr ⟨_, _, dp_ints h1, dp_ints h2, shaped_ints ns, shaped_ints ms, by rw [PyData.eqv, eqv_ints]; exact k⟩
theorem x_neIL (h1 : H p = some (.lst (ns.map V.int))) (h2 : H q = some (.lst (ms.map V.int))) (k : Q (.bl (!decide (ns = ms))) H) : uNe K (.ref p) (.ref q) H Q :=
  .inr ⟨_, _, dp_ints h1, dp_ints h2, shaped_ints ns, shaped_ints ms, by rw [PyData.eqv, eqv_ints]; exact k⟩
theorem w_sorted {H0 : Hp} {Ms M0 : List Addr} {L : List (Addr × HO)} {R : List Fa} (hw : W K H0 Ms M0 H L R) (ns : List Int) (h : SqL K H p (ns.map V.int)) (h64 : ns.length < 64) (k : ∀ (ns' : List Int) p H', ns'.Perm ns → ns'.Pairwise (· ≤ ·) → H p = none → W K H0 Ms M0 H' ((p, .lst (ns'.map V.int)) :: L) R → Q (.ref p) H') : rSorted K [.ref p] H Q :=
  ⟨p, ns, rfl, h, h64, fun ns' l h1 h2 h3 => k ns' l _ h1 h2 h3 (hw.new h3 _)⟩
end
end Fw
namespace Fw
open PySem PySem.Spec PyProof.Rows L2
section
variable {σ : L2.St} {H H0 : Hp} {K : PySem.W.Frag} {Q : VK} {p q : Addr} {xs : List V} {x : V} {Ms M0 : List Addr} {L : List (Addr × HO)} {R : List Fa} {ds es : List PyData}
/-- a new thing that a call made -/
theorem W.adopt {H' : Hp} {o : HO} (w : W K H0 Ms M0 H L R) (e : Ex [] H H') (h : H p = none) (h' : H' p = some o) : W K H0 Ms M0 H' ((p, o) :: L) R where
  ex := w.ex.trans (e.sub fun x z => nomatch z)
  al := (w.pure e).al
  nd := by
    refine List.nodup_cons.mpr ⟨fun z => ?_, w.nd⟩
    obtain ⟨q, hq, e⟩ := List.mem_map.mp z
    have := w.cell q hq
    rw [e, h] at this; cases this
  cell := fun q hq => by
    rcases List.mem_cons.mp hq with rfl | hq
    · exact h'
    · exact e.ext _ _ (w.cell q hq)
  own := fun q hq => by
    rcases List.mem_cons.mp hq with rfl | hq
    · by_cases hm : p ∈ Ms
      · exact .inl hm
      · refine .inr ⟨?_, fun z => w.al p z h⟩
        cases e : H0 p with
        | none => rfl
        | some u =>
          have := w.ex _ _ hm e
          rw [h] at this; cases this
    · exact w.own q hq
  rep := fun r hr => Fa.ext (del_ext (Mc := []) e (fun x z => nomatch z) fun x hx hn => by
    rcases List.mem_cons.mp hx with rfl | hx
    · exact h
    · exact absurd hx hn) (w.rep r hr)
/-- keep some of the facts, by their places -/
theorem W.pick {R' : List Fa} (hw : W K H0 Ms M0 H L R) (is : List Nat) (h : (is.map fun i => R[i]?) = R'.map some) : W K H0 Ms M0 H L R' := hw.sub fun r hr => by
  have h1 : some r ∈ R'.map some := List.mem_map.mpr ⟨r, hr, rfl⟩
  rw [← h] at h1
  obtain ⟨i, _, e⟩ := List.mem_map.mp h1
  exact List.mem_of_getElem? e
/-- keep some of the cells, by their places -/
theorem W.cells {L' : List (Addr × HO)} (hw : W K H0 Ms M0 H L R) (is : List Nat) (h : (is.map fun i => L[i]?) = L'.map some) (hn : is.Nodup) : W K H0 Ms M0 H L' R := by
  have hm : ∀ r ∈ L', r ∈ L := fun r hr => by
    have h1 : some r ∈ L'.map some := List.mem_map.mpr ⟨r, hr, rfl⟩
    rw [← h] at h1
    obtain ⟨i, _, e⟩ := List.mem_map.mp h1
    exact List.mem_of_getElem? e
  have hl : L'.length = is.length := by have := congrArg List.length h; simpa using this.symm
  refine ⟨hw.ex, hw.al, ?_, fun q hq => hw.cell q (hm q hq), fun q hq => hw.own q (hm q hq), fun r hr => Fa.ext (del_sub fun x hx => ?_) (hw.rep r hr)⟩
  · rw [List.nodup_iff_pairwise_ne, List.pairwise_iff_getElem]
    intro i j hi hj hij e
    rw [List.length_map] at hi hj
    have g : ∀ (k : Nat) (hk : k < L'.length), L[is[k]'(by omega)]? = some L'[k] := fun k hk => by
      have := congrArg (fun l => l[k]?) h
      simp only [List.getElem?_map, List.getElem?_eq_getElem hk, List.getElem?_eq_getElem (show k < is.length by omega), Option.map_some] at this
      exact Option.some.inj this
    have h1 : (L.map (·.1))[is[i]'(by omega)]? = some L'[i].1 := by rw [List.getElem?_map, g i hi]; rfl
    have h2 : (L.map (·.1))[is[j]'(by omega)]? = some L'[i].1 := by
      rw [List.getElem?_map, g j hj]
      rw [List.getElem_map, List.getElem_map] at e
      exact congrArg some e.symm
    have h3 := nd_ix hw.nd h1 h2
    exact absurd ((List.getElem_inj hn).mp h3) (Nat.ne_of_lt hij)
  · rcases List.mem_append.mp hx with hx | hx
    · obtain ⟨q, hq, e⟩ := List.mem_map.mp hx
      exact List.mem_append_left _ (List.mem_map.mpr ⟨q, hm q hq, e⟩)
    · exact List.mem_append_right _ hx
/-! ### displays as data -/
theorem w_lstD (hw : W K H0 Ms M0 H L R) (hd : RpAll K (av L M0) H xs ds) (h : xs.length ≤ sizeLine) (k : ∀ p H', H p = none → W K H0 Ms M0 H' L (.rp (.ref p) (.list ds) :: R) → Q (.ref p) H') : LstK xs H Q :=
  ⟨h, fun p hp => k p _ hp (hw.newLst hp hd)⟩
theorem w_tupD (hw : W K H0 Ms M0 H L R) (hd : RpAll K (av L M0) H xs ds) (h : xs.length ≤ sizeLine) (k : ∀ p H', H p = none → W K H0 Ms M0 H' L (.rp (.ref p) (.tuple ds) :: R) → Q (.ref p) H') : TupK xs H Q :=
  ⟨h, fun p hp => k p _ hp (hw.newTup hp hd)⟩
theorem w_catD (hw : W K H0 Ms M0 H L R) (h1 : Rp K (av L M0) H (.ref p) (.list ds)) (h2 : Rp K (av L M0) H (.ref q) (.list es)) (hz : ds.length + es.length ≤ sizeLine) (k : ∀ p H', H p = none → W K H0 Ms M0 H' L (.rp (.ref p) (.list (ds ++ es)) :: R) → Q (.ref p) H') : uAdd K (.ref p) (.ref q) H Q := by
  obtain ⟨xs, hx, rx⟩ := Rp.unL h1
  obtain ⟨ys, hy, ry⟩ := Rp.unL h2
  exact .inr (.inr (.inl ⟨p, q, xs, ys, rfl, rfl, hx, hy, by rw [rx.length, ry.length]; exact hz, fun l hl => k l _ hl (hw.newLst hl (rx.append ry))⟩))
/-- a list of data walked: the i-th item -/
theorem Rp.walk (h : Rp K M0 H (.ref p) (.list ds)) : ∃ xs, H p = some (.lst xs) ∧ xs.length = ds.length ∧ ∀ (i : Nat) x, xs[i]? = some x → ∃ d, ds[i]? = some d ∧ Rp K M0 H x d := by
  obtain ⟨xs, hx, rx⟩ := Rp.unL h
  refine ⟨xs, hx, rx.length, fun i x hi => ?_⟩
  have hlt : i < ds.length := by rw [← rx.length]; exact (List.getElem?_eq_some_iff.mp hi).1
  obtain ⟨v, h1, h2⟩ := rx.get (List.getElem?_eq_getElem hlt)
  rw [hi] at h1
  cases h1
  exact ⟨_, List.getElem?_eq_getElem hlt, h2⟩
theorem Rp.walkT (h : Rp K M0 H (.ref p) (.tuple ds)) : ∃ xs, SqT K H p xs ∧ xs.length = ds.length ∧ ∀ (i : Nat) x, xs[i]? = some x → ∃ d, ds[i]? = some d ∧ Rp K M0 H x d := by
  obtain ⟨xs, hx, rx⟩ := Rp.unT h
  refine ⟨xs, hx, rx.length, fun i x hi => ?_⟩
  have hlt : i < ds.length := by rw [← rx.length]; exact (List.getElem?_eq_some_iff.mp hi).1
  obtain ⟨v, h1, h2⟩ := rx.get (List.getElem?_eq_getElem hlt)
  rw [hi] at h1
  cases h1
  exact ⟨_, List.getElem?_eq_getElem hlt, h2⟩
theorem Rp.item {i : Nat} (h : Rp K M0 H (.ref p) (.list ds)) (hk : H p = some (.lst xs)) (hi : xs[i]? = some x) : ∃ d, ds[i]? = some d ∧ Rp K M0 H x d := by
  obtain ⟨ys, hy, _, hw⟩ := Rp.walk h
  rw [hk] at hy
  cases hy
  exact hw i x hi
theorem Rp.ref {ds : List PyData} (h : Rp K M0 H x (.tuple ds)) : ∃ t xs, x = .ref t ∧ SqT K H t xs ∧ RpAll K M0 H xs ds := by
  cases h with
  | tup q r => exact ⟨_, _, rfl, del_all.sqT q, r⟩
theorem RpAll.cons_inv {d : PyData} (h : RpAll K M0 H xs (d :: ds)) : ∃ v vs, xs = v :: vs ∧ Rp K M0 H v d ∧ RpAll K M0 H vs ds := by
  cases h with
  | cons a b => exact ⟨_, _, rfl, a, b⟩
theorem RpAll.nil_inv (h : RpAll K M0 H xs []) : xs = [] := by
  cases h
  rfl
theorem Rp.str_inv {z : Str} (h : Rp K M0 H x (.str z)) : x = .str z := by
  cases h
  rfl
theorem Rp.int_inv {z : Int} (h : Rp K M0 H x (.int z)) : x = .int z := by
  cases h
  rfl
theorem Rp.bool_inv {z : Bool} (h : Rp K M0 H x (.bool z)) : x = .bl z := by
  cases h
  rfl
theorem Rp.tup2 {d e : PyData} (h : Rp K M0 H x (.tuple [d, e])) : ∃ t v w, x = .ref t ∧ SqT K H t [v, w] ∧ Rp K M0 H v d ∧ Rp K M0 H w e := by
  obtain ⟨t, xs, rfl, hq, h1⟩ := Rp.ref h
  obtain ⟨v, vs, rfl, hv, h2⟩ := RpAll.cons_inv h1
  obtain ⟨w, ws, rfl, hw, h3⟩ := RpAll.cons_inv h2
  cases RpAll.nil_inv h3
  exact ⟨t, v, w, rfl, hq, hv, hw⟩
theorem Rp.tup3 {d e f : PyData} (h : Rp K M0 H x (.tuple [d, e, f])) : ∃ t v w u, x = .ref t ∧ SqT K H t [v, w, u] ∧ Rp K M0 H v d ∧ Rp K M0 H w e ∧ Rp K M0 H u f := by
  obtain ⟨t, xs, rfl, hq, h1⟩ := Rp.ref h
  obtain ⟨v, vs, rfl, hv, h2⟩ := RpAll.cons_inv h1
  obtain ⟨w, ws, rfl, hw, h3⟩ := RpAll.cons_inv h2
  obtain ⟨u, us, rfl, hu, h4⟩ := RpAll.cons_inv h3
  cases RpAll.nil_inv h4
  exact ⟨t, v, w, u, rfl, hq, hv, hw, hu⟩
end
end Fw
namespace Fw
open PySem PySem.Spec PyProof.Rows L2
section
variable {P : Program} {w : World} {K : PySem.W.Frag} {mg : Str → Option Value} {base : Heap} {CX : CXT} {k : Nat} {x qual : Str} {st : Stmt} {kws : List (Str × V)} {f : Addr} {fd : FuncData} {ps : List Str} {sp : Sp}
theorem ofD (F : FunD K x qual (defArgs st) (defBody st) (defScope st) [] kws f fd) : Fun K x qual st f fd := by
  obtain ⟨oc, od, dV, kV, doc, pm, an, cdv, ct, osl, e, lk, hcd, hD, hK⟩ := F.ex
  rcases hD with ⟨_, rfl⟩ | ⟨e, _⟩
  · exact ⟨⟨oc, od, kV, doc, pm, an, cdv, ct, osl, e, lk, hcd⟩, F.kp⟩
  · exact absurd rfl e
theorem mkFn (F : FunD K x qual (defArgs st) (defBody st) (defScope st) [] kws f fd) (gm : mg x = some (.ref f))
    (h : ∀ (kV doc pm : Value) (an : Option Addr) (cdv ct : Value) (us : List Value), us.length = ps.length → bindArgs (PySem.W.fnOf x qual (defArgs st) (defBody st) (defScope st) .none kV doc pm an cdv ct) ⟨us, []⟩ = pure (ps.zip us))
    (G : FnOk P w K mg base CX k f fd ps sp) : Fn P w K mg base CX k x ps sp := ⟨f, fd, gm, F.kp, F.bindsN h, G⟩
end
end Fw
namespace Fw
open PySem PySem.Spec PyProof.Rows L2
/-! ### own exception classes, straight under one of Python's -/
/-- Python's class B, its mro tl -/
structure Bs (x : Str) (B nI iI : String) (tl : List Value) : Prop where
  new : ∃ (N iN : String) (tN : List Value), ExcBaseFacts N nI iN tN ∧ tl.contains (.type N) = true
  noA : tl.contains (.type "AttributeError") = false
  noN : tl.contains (.type "NameError") = false
  hasB : tl.contains (.type B) = true
  ini : Slot B "__init__" iI
  iEntry : entryFor table iI = some Builtin.«BaseException.__init__»
  iSplit : splitId iI = some (B, "__init__")
  iKind : builtinKind iI = some .slot
  iRow : Manifest.signature? iI = some ⟨.positional, "*", B, .self, [⟨"args", .varPos, false⟩]⟩
  noStar : (B != "*") = true
  store : StoreFacts B tl "object.__setattr__" "object"
  ty : typeOf (.type B) = pure (.type "type")
  stub : Manifest.isStub B = false
  boot : bootBuiltins x = some (.type B)
  fi : ∀ K, PySem.W.findCls K (.type B) (.type "type") "__init__" = some (.val (.builtin iI))
  hi : PySem.W.handedIn (.builtin iI) = true
  nn : x ≠ "__name__"
  nd : (x == ("__debug__" : Str)) = false
/-- an own class at C, its instances' own dict and all -/
structure Own (K : PySem.W.Frag) (C : Addr) (nI : String) (tl : List Value) : Prop where
  inn : PySem.W.excInitIn K C tl nI = true
  over : PySem.W.excOver K C tl = true
  hd : PySem.W.hasDictIn K C = true
  sa : PySem.W.findIn K (.ref C) "__setattr__" = some (some (.builtin "object.__setattr__"))
  sub : PySem.W.subIn K (.ref C) (.type "BaseException") = some true
  ty : PySem.W.typeIn K (.ref C) = some (.type "type")
  kp : PySem.W.keepIn K (.ref C) = true
  ga : PySem.W.findIn K (.ref C) "__getattribute__" = some (some (.builtin "BaseException.__getattribute__"))
  gg : PySem.W.findIn K (.ref C) "__getattr__" = some none
  cl : PySem.W.findIn K (.ref C) "__class__" = some (some (.builtin "object.__class__"))
  cg : PySem.W.specialIn K (.builtin "object.__class__") "__get__" = some (some (.builtin "getset_descriptor.__get__"))
  ct : PySem.W.takesIn K (.builtin "object.__class__") = some true
  mo : PySem.W.mroIn K C (.type "object") = some true
def ownB (K : PySem.W.Frag) (C : Addr) (nI : String) (tl : List Value) : Bool :=
  PySem.W.excInitIn K C tl nI && PySem.W.excOver K C tl && PySem.W.hasDictIn K C && decide (PySem.W.findIn K (.ref C) "__setattr__" = some (some (.builtin "object.__setattr__"))) && decide (PySem.W.subIn K (.ref C) (.type "BaseException") = some true) &&
  decide (PySem.W.typeIn K (.ref C) = some (.type "type")) && PySem.W.keepIn K (.ref C) && decide (PySem.W.findIn K (.ref C) "__getattribute__" = some (some (.builtin "BaseException.__getattribute__"))) && decide (PySem.W.findIn K (.ref C) "__getattr__" = some none) &&
  decide (PySem.W.findIn K (.ref C) "__class__" = some (some (.builtin "object.__class__"))) && decide (PySem.W.specialIn K (.builtin "object.__class__") "__get__" = some (some (.builtin "getset_descriptor.__get__"))) &&
  decide (PySem.W.takesIn K (.builtin "object.__class__") = some true) && decide (PySem.W.mroIn K C (.type "object") = some true)
theorem own_of {K : PySem.W.Frag} {C : Addr} {nI : String} {tl : List Value} (h : ownB K C nI tl = true) : Own K C nI tl := by
  unfold ownB at h
  simp only [Bool.and_eq_true, decide_eq_true_eq] at h
  obtain ⟨⟨⟨⟨⟨⟨⟨⟨⟨⟨⟨⟨h1, h2⟩, h3⟩, h4⟩, h5⟩, h6⟩, h7⟩, h8⟩, h9⟩, h10⟩, h11⟩, h12⟩, h13⟩ := h
  exact ⟨h1, h2, h3, h4, h5, h6, h7, h8, h9, h10, h11, h12, h13⟩
/-! the class called: its __new__ is that of a class N above, its __init__ its own -/
section
variable {M : Model} {A : Around} {E : Value → Shared → Prop} {h : Heap} {g : Array GenState} {d : Drawn} {t : Nat} {os : OsState} {nm q : Str} {C N0 : Addr} {bs bm tN : List Value} {hdct : Bool} {sn : List Str} {sub : List Value} {ab : Bool} {col : Option Bool} {dd : Option Addr} {k0 k1 k2 k3 k5 : Option Value} {x : Str} {B N nI iI iN : String} {tl : List Value}
theorem ask_new (F : ExcBaseFacts N nI iN tN) (hN : bm.contains (.type N) = true) {rest : List Value} {Q : Unit → Shared → Prop} (hC : h.get? C = some (excClassObj nm q C N0 bs bm hdct sn sub ab col dd k0 k1 k2 k3 k5 nI)) (hq : Q () ⟨h, g, d, t, os⟩) :
    wpAny M A (checkBuiltinCall nI ⟨.ref C :: rest, []⟩) Q E ⟨h, g, d, t, os⟩ := by
  have has : (Value.ref C :: bm).contains (.type N) = true := by rw [List.contains_cons, hN, Bool.or_true]
  have star := F.noStar
  simp only [checkBuiltinCall, F.newKind, F.newSplit, F.newRow]
  repeat (first | refine wpAny_loadPart_at hC ?_ | (refine wpAny_isSubtype_exc hC ?_; rw [has]) | refine wpAny_staticBase_exc hC ?_ | refine wpAny_madeBy_exc hC ?_ | simp only [bne_self_eq_false, Bool.false_eq_true, if_false] | wp_step)
  exact hq
theorem ask_init (F : Bs x B nI iI tl) (hT : ∀ X : String, bm.contains (.type X) = tl.contains (.type X)) {e : Addr} {oe : Obj} {rest : List Value} {Q : Unit → Shared → Prop} (hC : h.get? C = some (excClassObj nm q C N0 bs bm hdct sn sub ab col dd k0 k1 k2 k3 k5 nI)) (he : h.get? e = some oe)
    (hc : oe.cls = .ref C) (hq : Q () ⟨h, g, d, t, os⟩) : wpAny M A (checkBuiltinCall iI ⟨.ref e :: rest, []⟩) Q E ⟨h, g, d, t, os⟩ := by
  have has : (Value.ref C :: bm).contains (.type B) = true := by rw [List.contains_cons, hT, F.hasB, Bool.or_true]
  have short := F.noStar
  simp only [checkBuiltinCall, F.iKind, F.iSplit, F.iRow]
  repeat (first | (with_reducible refine wpAny_loadPart_at he ?_; rw [hc]) | with_reducible refine wpAny_loadPart_at hC ?_ | (with_reducible refine wpAny_isSubtype_exc hC ?_; rw [has]) | wp_step)
  refine wpAny_onRaise ?_
  rw [show ∀ (a b : String) (n : Nat), Bind.check ⟨.positional, "*", B, .self, [⟨"args", .varPos, false⟩]⟩ a b n (List.map (fun x => x.fst) ({ pos := Value.ref e :: rest } : Args).kw) = pure () from fun a b n => check_star_args _ _ _ _ _ _]
  exact wpAny_pure hq
end
section
variable {prog : Program} {w : World} {A : Around} {E : Value → Shared → Prop} {R : Result → Shared → Prop} {h : Heap} {g : Array GenState} {d : Drawn} {t : Nat} {os : OsState} {nm q : Str} {C N0 : Addr} {bs bm tN : List Value} {hdct : Bool} {sn : List Str} {sub : List Value} {ab : Bool} {col : Option Bool} {dd : Option Addr} {k0 k1 k2 k3 k5 : Option Value} {x : Str} {B N nI iI iN : String} {tl : List Value}
theorem run_new (F : ExcBaseFacts N nI iN tN) (hN : bm.contains (.type N) = true) (hA : bm.contains (.type "AttributeError") = false) (hM : bm.contains (.type "NameError") = false) {rest : List Value} (hC : h.get? C = some (excClassObj nm q C N0 bs bm hdct sn sub ab col dd k0 k1 k2 k3 k5 nI))
    (hq : R (.ok (.ret (.ref (h.objs.size + 1)))) ⟨(h.push (PySem.W.kdv_tup rest)).push (PySem.HandSPX.excO C h.objs.size), g, d, t, os⟩) (hrest : rest.length ≤ sizeLine) :
    codeAny (model prog w) A (.builtin nI ⟨.ref C :: rest, []⟩) R ⟨h, g, d, t, os⟩ := by
  have ends := F.ends
  have has : (Value.ref C :: bm).contains (.type N) = true := by rw [List.contains_cons, hN, Bool.or_true]
  have noa : (Value.ref C :: bm).contains (.type "AttributeError") = false := by rw [List.contains_cons, hA]; rfl
  have non : (Value.ref C :: bm).contains (.type "NameError") = false := by rw [List.contains_cons, hM]; rfl
  refine codeAny_builtinAt F.entry ?_
  unfold Builtin.«BaseException.__new__»
  refine PySem.wpAt_bind ?_
  show PySem.wpAt _ _ _ (stack >>= _) _ _ _
  refine PySem.wpAt_bind (PySem.wpAt_stack fun p below => PySem.wpAt_of_wpAny ?_)
  wp_walk
  refine PySem.wpAt_of_wpAny ?_
  rw [F.owner]
  repeat (first | with_reducible refine wpAny_madeHere_exc F.canon hC ?_ | with_reducible refine wpAny_loadPart_at hC ?_ | (with_reducible refine wpAny_isSubtype_exc hC ?_; first | rw [has] | rw [noa] | rw [non]) | wp_step)
  show R _ _
  rw [Heap.size_push]
  exact hq
theorem run_cls (F : ExcBaseFacts N nI iN tN) (hN : bm.contains (.type N) = true) (hA : bm.contains (.type "AttributeError") = false) (hM : bm.contains (.type "NameError") = false) {rest : List Value} {fI : Addr} (hC : h.get? C = some (excClassObj nm q C N0 bs bm hdct sn sub ab col dd k0 k1 k2 k3 k5 nI))
    (hi : PySem.W.Looks (model prog w) h (typeLookup (.ref C) "__init__") (some (.ref fI))) (hb : ∀ self, PySem.W.Looks (model prog w) h (bindSpecial (.ref fI) self) (.ref fI, [self])) (hrest : rest.length ≤ sizeLine)
    (hq : codeAny (model prog w) (A.under (.builtin "type.__call__" ⟨.ref C :: rest, []⟩)) (.call (.ref fI) ⟨.ref (h.objs.size + 1) :: rest, []⟩) (PySem.W.InitBack (h.objs.size + 1) R) ⟨(h.push (PySem.W.kdv_tup rest)).push (PySem.HandSPX.excO C h.objs.size), g, d, t, os⟩) :
    codeAny (model prog w) A (.call (.ref C) ⟨rest, []⟩) R ⟨h, g, d, t, os⟩ := by
  have f1 := tc_lookup
  have f2 := tc_bind (.ref C)
  have isT : (⟨h, g, d, t, os⟩ : Shared).TypeIs (.ref C) "type" := ⟨_, hC, rfl⟩
  refine codeAny_of_tree ?_
  show wpAny _ _ (callAny (.ref C) _) _ _ _
  repeat (any_goals (first | assumption | with_reducible refine wpAny_loadPart_at hC ?_ | wp_step))
  refine ⟨rfl, codeAny_call_builtin_at (Code.quiet_builtin _ (by decide +kernel)) entry_typeCall (wpAny_check_type_call_sub hC ?_)⟩
  show wpAny _ _ (Builtin.«type.__call__» ⟨.ref C :: rest, []⟩) _ _ _
  repeat (first | with_reducible refine wpAny_loadPart_at hC ?_ | with_reducible refine wpAny_madeBy_exc hC ?_ | wp_step)
  refine codeAny_call_builtin_code (Code.quiet_builtin _ F.quiet) (ask_new F hN hC (run_new F hN hA hM hC ?_ hrest))
  show wpAny _ _ _ _ _ _
  have k : ∀ b o, h.get? b = some o → ((h.push (PySem.W.kdv_tup rest)).push (PySem.HandSPX.excO C h.objs.size)).get? b = some o := fun b o e => Heap.get?_push_of_some _ (Heap.get?_push_of_some _ e)
  have hC1 := k _ _ hC
  have hget : ((h.push (PySem.W.kdv_tup rest)).push (PySem.HandSPX.excO C h.objs.size)).get? (h.objs.size + 1) = some (PySem.HandSPX.excO C h.objs.size) := by heap_get
  have me : (Value.ref C :: bm).contains (.ref C) = true := by simp
  unfold isInstance
  repeat (first | with_reducible refine wpAny_loadPart_at hget ?_ | (with_reducible refine wpAny_isSubtype_exc hC1 ?_; rw [me]) | wp_step)
  show wpAny _ _ (typeLookup (.ref C) _) _ _ _
  refine (hi.keeps k).at (wpAny_holding (wpAny_bind (((hb (.ref (h.objs.size + 1))).keeps k).at (wpAny_bind (wpAny_call (codeAny_mono hq fun r s' z => ?_))))))
  rcases r with e | (v | _ | _ | _) <;> first | exact z | exact z.elim | skip
  obtain ⟨rfl, z⟩ := z
  first
    | exact wpAny_pure (wpAny_pure z)
    | (wp_walk; exact z)
theorem run_init (F : Bs x B nI iI tl) (hT : ∀ X : String, bm.contains (.type X) = tl.contains (.type X)) {e t0 : Addr} {rest : List Value} (hC : h.get? C = some (excClassObj nm q C N0 bs bm hdct sn sub ab col dd k0 k1 k2 k3 k5 nI)) (he : h.get? e = some (PySem.HandSPX.excO C t0)) (hrest : rest.length ≤ sizeLine)
    (hq : ∀ h' t1, (∀ b o, b ≠ e → h.get? b = some o → h'.get? b = some o) → h'.get? e = some (PySem.HandSPX.excO C t1) → R (.ok (.ret .none)) ⟨h', g, d, t, os⟩) :
    codeAny (model prog w) A (.call (.builtin iI) ⟨.ref e :: rest, []⟩) R ⟨h, g, d, t, os⟩ := by
  refine codeAny_call_builtin F.ini.plain F.iEntry (ask_init F hT hC he rfl ?_)
  wp_walk
  refine hq _ h.objs.size (fun b o hb ho => ?_) ?_
  · rw [Heap.get?_update_other _ _ (Ne.symm hb)]
    exact Heap.get?_push_of_some _ ho
  · rw [Heap.get?_update_self _ (Heap.get?_push_of_some _ he) rfl]
    rfl
end
section
variable {prog : Program} {w : World} {A : Around} {R : Result → Shared → Prop} {hp : Heap} {g : Array GenState} {d : Drawn} {t : Nat} {os : OsState} {K : PySem.W.Frag} {C : Addr} {B nI : String} {tl : List Value} {name : Str} {tk : Tok} {v : Value} {x : Addr} {fv : Array Value}
theorem noTaker (h : PySem.W.findIn K (.ref C) name = some none) : PySem.W.takerIn K C name = some none := by
  unfold PySem.W.takerIn
  rw [h]
  rfl
theorem put_first (SF : StoreFacts B tl "object.__setattr__" "object") (T : Own K C nI tl) (X : K.In hp) (hx : hp.get? x = some { cls := .ref C, data := .fields fv }) (hno : PySem.W.findIn K (.ref C) name = some none)
    (hq : ∀ h' tk' dx, (∀ b o, b ≠ x → hp.get? b = some o → h'.get? b = some o) → hp.objs.size ≤ dx → dx ≠ x → h'.get? x = some { cls := .ref C, dict := some dx, data := .fields fv } →
      h'.Ns1 dx (fun y => if y = name then some v else none) → R (.ok (.ret .none)) ⟨h', g, d, tk', os⟩) :
    codeAny (model prog w) A (.call (.builtin "object.__setattr__") ⟨[.ref x, .str name tk, v], []⟩) R ⟨hp, g, d, t, os⟩ := by
  have I : PySem.W.InstAt hp x { cls := .ref C, data := .fields fv } C none := ⟨hx, rfl, rfl, trivial⟩
  refine PySem.W.osa_openX SF X I T.over (noTaker hno) fun b => ?_
  obtain ⟨cd, hcd, hh⟩ := PySem.W.any_some T.hd
  have hcls : PySem.W.Looks (model prog w) hp (classData C) cd := PySem.W.looks_clsIn X hcd
  have hxs : x ≠ hp.objs.size := Nat.ne_of_lt (Heap.lt_size hx)
  obtain ⟨nm, bs, mro, ns, qn, hd, sn, sb, ab, col, del⟩ := cd
  dsimp only at hh
  subst hh
  show wpAny _ _ (Builtin.ObjectAttr.storeInOwnDict (.ref x) (.ref C) (.str name tk) name v b) _ _ _
  unfold Builtin.ObjectAttr.storeInOwnDict Builtin.ObjectAttr.ownDictForStores
  repeat (first | with_reducible refine PySem.HandSPX.store_in_new ?_ ?_ | with_reducible refine wpAny_loadPart_at hx ?_ | with_reducible refine hcls.at ?_ | wp_step)
  · exact ⟨_, #[], _, (Heap.get?_update_ne _ _ _ _ hxs.symm).trans (Heap.get?_push_at rfl rfl), rfl, fun e he => absurd he (by simp), fun _ => rfl⟩
  · intro h' tk' hn' hs
    refine hq h' tk' hp.objs.size (fun b o hb ho => ?_) (Nat.le_refl _) hxs.symm ?_ hn'
    · exact (hs.2 b (Nat.ne_of_lt (Heap.lt_size ho))).trans ((Heap.get?_update_ne _ _ _ _ hb).trans (Heap.get?_push_of_some _ ho))
    · exact (hs.2 x hxs).trans (Heap.get?_update_self _ (Heap.get?_push_of_some _ hx) rfl)
theorem put_more {dx : Addr} {m0 : Str → Option Value} {nl : List Str} (SF : StoreFacts B tl "object.__setattr__" "object") (T : Own K C nI tl) (X : K.In hp) (hx : hp.get? x = some { cls := .ref C, dict := some dx, data := .fields fv }) (hns : hp.Ns1 dx m0) (hw : Within m0 nl) (hz : nl.length ≤ 1000)
    (hno : PySem.W.findIn K (.ref C) name = some none)
    (hq : ∀ h' tk', (∀ b o, b ≠ dx → hp.get? b = some o → h'.get? b = some o) → h'.Ns1 dx (fun y => if y = name then some v else m0 y) → R (.ok (.ret .none)) ⟨h', g, d, tk', os⟩) :
    codeAny (model prog w) A (.call (.builtin "object.__setattr__") ⟨[.ref x, .str name tk, v], []⟩) R ⟨hp, g, d, t, os⟩ := by
  obtain ⟨oD, esD, epD, hoD, hdD, _⟩ := hns.count hw
  have I : PySem.W.InstAt hp x { cls := .ref C, dict := some dx, data := .fields fv } C (some oD) := ⟨hx, rfl, rfl, hoD⟩
  refine PySem.W.osa_openX SF X I T.over (noTaker hno) fun b => ?_
  obtain ⟨cd, hcd, hh⟩ := PySem.W.any_some T.hd
  have hcls : PySem.W.Looks (model prog w) hp (classData C) cd := PySem.W.looks_clsIn X hcd
  obtain ⟨nm, bs, mro, ns, qn, hd, sn, sb, ab, col, del⟩ := cd
  dsimp only at hh
  subst hh
  show wpAny _ _ (Builtin.ObjectAttr.storeInOwnDict (.ref x) (.ref C) (.str name tk) name v b) _ _ _
  unfold Builtin.ObjectAttr.storeInOwnDict Builtin.ObjectAttr.ownDictForStores
  repeat (first | with_reducible refine PySem.OEX.store_in_old hns hw hz ?_ | with_reducible refine wpAny_loadPart_at hx ?_ | with_reducible refine hcls.at ?_ | wp_step)
  intro h' tk' hn' hs
  exact hq h' tk' (fun b o hb ho => (hs.2 b hb).trans ho) hn'
end
section
variable {X : Cx} {pins : List (Addr × Obj)} {σ : L2.St} {H : Hp} {s : Shared} {a C dx : Addr} {f : Str} {y : V} {u : Value} {fs : List (Str × V)} {Q : Unit → Shared → Prop} {E : Value → Shared → Prop} {A : Around} {B nI iI : String} {tl : List Value}
/-- self.f = y, when the exception has no dict as yet -/
theorem field_first (SF : StoreFacts B tl "object.__setattr__" "object") (T : Own X.K C nI tl) (I : Inv X pins σ H s) (e : H a = some (exo a C none)) (hno : PySem.W.findIn X.K (.ref C) f = some none) (ry : RelV y u)
    (h : ∀ dx s', H dx = none → dx ≠ a → Inv X pins σ (upd (upd H dx (exd dx [(f, y)])) a (exo a C (some dx))) s' → Q () s') : wpAny (model X.prog X.w) A (setAttr (.ref a) f u) Q E s := by
  obtain ⟨t1, ho⟩ := exo_at I.hok e
  obtain ⟨hp, g, d, t, os⟩ := s
  refine PySem.W.set_plain I.kIn (od := none) ⟨ho, rfl, rfl, trivial⟩ T.sa ?_
  refine put_first SF T I.kIn ho hno (fun h' tk' dx k dn dne hx hn => ?_)
  have fr : H dx = none := I.hok.fresh dn
  have old : ∀ {b : Addr} {o : Obj}, hp.get? b = some o → b ≠ dx := fun {b o} q => Nat.ne_of_lt (Nat.lt_of_lt_of_le (Heap.lt_size q) dn)
  have away : ∀ {b : Addr}, H b = none → b ≠ a := fun {b} n z => nomatch (z ▸ n : H a = none).symm.trans e
  have two : ∀ {b : Addr} {o : HO}, H b = some o → exo a C none ≠ o → upd (upd H dx (exd dx [(f, y)])) a (exo a C (some dx)) b = some o := fun {b o} q ne => by
    rw [upd_ne (at_ne e q ne), upd_ne (ne_of_none q fr)]
    exact q
  refine h dx _ fr dne (I.un (t' := tk') ⟨fun b o q n _ _ => k b o (away n) q, fun b o q n _ _ => ⟨o.slots, k b o (away n) q⟩, fun b o q n _ => by rw [upd_ne (away n), upd_ne (old q)]; exact n, fun b o q _ => ?_,
    fun b xs q => two q exo_tup, fun b o v q => two q exo_frz, fun b ps q => ⟨#[], by rw [two q exo_tbl]; simp⟩⟩ fun b o q => ?_)
  · by_cases hb : b = a
    · exact ⟨_, hb ▸ hx⟩
    · exact ⟨o, k b o hb q⟩
  · by_cases hb : b = a
    · subst hb
      rw [upd_same] at q
      cases q
      exact exo_ok hx
    rw [upd_ne hb] at q
    by_cases hd : b = dx
    · subst hd
      rw [upd_same] at q
      cases q
      exact exd_ok hn (relO_put (fs := []) ry fun g => True.intro)
    rw [upd_ne hd] at q
    exact (I.hok b o q).stay (fun c v hc z => k c v (hc.elim (fun z => z ▸ hb) fun z => at_ne e z exo_own) z) (fun c hc => two hc exo_own) fun c xs hc => two hc exo_tup
/-- self.f = y, when it has one -/
theorem field_more (SF : StoreFacts B tl "object.__setattr__" "object") (T : Own X.K C nI tl) (I : Inv X pins σ H s) (e : H a = some (exo a C (some dx))) (ed : H dx = some (exd dx fs)) (hl : fs.length ≤ 900) (hno : PySem.W.findIn X.K (.ref C) f = some none) (ry : RelV y u)
    (h : ∀ s', Inv X pins σ (upd H dx (exd dx ((f, y) :: fs))) s' → Q () s') : wpAny (model X.prog X.w) A (setAttr (.ref a) f u) Q E s := by
  obtain ⟨t1, ho⟩ := exo_at I.hok e
  obtain ⟨mA, hns, rel⟩ := exd_at I.hok ed
  have hw := within_of rel
  obtain ⟨hp, g, d, t, os⟩ := s
  obtain ⟨oD, _, _, hoD, _, _⟩ := hns.count hw
  refine PySem.W.set_plain I.kIn (od := some oD) ⟨ho, rfl, rfl, hoD⟩ T.sa ?_
  refine put_more SF T I.kIn ho hns hw (by rw [List.length_map]; omega) hno (fun h' tk' k hn => ?_)
  obtain ⟨o, es, ep, e', r⟩ := id hn
  exact h _ (I.write (t' := tk') (x := dx) (e := dx) (o := exd dx ((f, y) :: fs)) (by rw [ed]; exact True.intro) (.inl rfl) k ⟨o, e'⟩ (exd_ok hn (relO_put ry rel)))
/-- B.__init__(self, ..) -/
theorem base_init {x : Str} {us : List Value} {Q : Value → Shared → Prop} (F : Bs x B nI iI tl) (T : Own X.K C nI tl) (I : Inv X pins σ H s) (e : H a = some (exo a C none)) (hl : us.length ≤ sizeLine) (h : ∀ s', Inv X pins σ H s' → Q .none s') :
    wpAny (model X.prog X.w) A (call (.builtin iI) (.ref a :: us)) Q E s := by
  obtain ⟨nm, N, q, bs, bm, hd, sn, sub, ab, col, dd, k0, k1, k2, k3, k5, hC, hT⟩ := PySem.W.excInit_of I.kIn T.inn
  obtain ⟨t1, ho⟩ := exo_at I.hok e
  obtain ⟨hp, g, d, t, os⟩ := s
  refine wpAny_call (run_init F hT hC ho hl fun h' t2 k hx => ?_)
  have J := I.write (t' := t) (x := a) (e := a) (o := exo a C none) (by rw [e]; exact True.intro) (.inl rfl) k ⟨_, hx⟩ (exo_ok hx)
  have eu : upd H a (exo a C none) = H := funext fun b => by
    by_cases hb : b = a
    · rw [hb, upd_same, e]
    · rw [upd_ne hb]
  exact h _ (eu ▸ J)
end
/-- B.__init__(self, ..) -/
def tBI (K : PySem.W.Frag) (nI : String) (tl : List Value) (ta : TA) : TE := fun σ H Q => ta σ H fun vs H1 => ∃ (a C : Addr) (ws : List V), vs = .ref a :: ws ∧ ws.length ≤ 1000 ∧ Own K C nI tl ∧ H1 a = some (exo a C none) ∧ Q .non H1
/-- self.f = e -/
def tFld (K : PySem.W.Frag) (nI : String) (tl : List Value) (f : Str) (to te : TE) : TS := fun D σ H => te σ H fun y H1 => to σ H1 fun x H2 => ∃ a C : Addr, x = .ref a ∧ Own K C nI tl ∧ PySem.W.findIn K (.ref C) f = some none ∧
  ((H2 a = some (exo a C none) ∧ ∀ dx, H2 dx = none → dx ≠ a → D.nx σ (upd (upd H2 dx (exd dx [(f, y)])) a (exo a C (some dx)))) ∨
    ∃ (dx : Addr) (fs : List (Str × V)), H2 a = some (exo a C (some dx)) ∧ H2 dx = some (exd dx fs) ∧ fs.length ≤ 900 ∧ D.nx σ (upd H2 dx (exd dx ((f, y) :: fs))))
section
variable {X : Cx} {o e : Expr} {es : List Expr} {to te : TE} {ta : TA} {f x : Str} {p p' p1 p2 pos : Pos} {B nI iI : String} {tl : List Value}
theorem pe_binit {pl : Sem Bool} (F : Bs x B nI iI tl) (hg : Gl X x) (hm : X.mg x = none) (ha : PA X (e :: es) ta)
    (hc : eval (.Call (.Attribute (.Name x p1) "__init__" p2) (e :: es) [] pos) X.env = (do
      let ov ← eval (.Name x p1) X.env
      standAt p2.atName
      let (f, first) ← holding [ov] (getMethod ov "__init__" pl)
      callWith pos f first (backTo pos (starEach (e :: es) X.env)) (backToKw pos (keywordEach [] X.env))) := by rfl)
    (he : starEach (e :: es) X.env = (false, eval e X.env) :: starEach es X.env := by rfl) (hpl : (backTo pos (starEach es X.env)).any (·.1) = false := by rfl) :
    PE X (.Call (.Attribute (.Name x p1) "__init__" p2) (e :: es) [] pos) (tBI X.K nI tl ta) := by
  refine ⟨fun pins s σ H Q I h => ?_⟩
  refine PySem.W.methodCall_KW (ld_blt I hg hm F.boot ?_ F.nn F.nd) hc
  obtain ⟨m, fr⟩ := I.fr
  refine PySem.W.method_type fr I.ok.mod.kin F.ty F.stub (F.fi _) F.hi ?_
  show wpAny _ _ (callWith pos (Value.builtin iI) [] (backTo pos (starEach (e :: es) X.env)) []) _ _ _
  refine PyProof.Rows.callWith_method1 (thn (ha.run pos pins _ σ H _ (I.tok _) h) fun us s1 ⟨vs, H1, I1, r1, a, C, ws, ev, hl, T, ea, q⟩ => ?_) he hpl
  subst ev
  cases r1 with
  | @cons _ u0 _ ur ra rw' =>
    obtain rfl : u0 = Value.ref a := ra
    exact base_init F T I1 ea (by rw [← Paired.length rw', sizeLine_eq]; omega) fun s' J => ⟨.non, H1, J, rfl, q⟩
theorem ps_fld (F : Bs x B nI iI tl) (ho : PE X o to) (he : PE X e te) (hs : swapsWith e (some (.Attribute o f p')) pos.line X.env = pure false := by rfl) : PS X (.Assign [.Attribute o f p'] e pos) (tFld X.K nI tl f to te) := by
  refine ⟨fun pins s σ H D I h => ?_⟩
  refine plainObj_wpAny_Assign_Attribute (thn (he.run pins s σ H _ I h) fun v s1 ⟨y, H1, I1, r1, q1⟩ => thn (ho.run pins s1 σ H1 _ I1 q1) fun u s2 ⟨x, H2, I2, r2, a, C, ex, T, hno, q⟩ => ?_) hs
  subst ex
  obtain rfl : u = Value.ref a := r2
  rcases q with ⟨ea, q⟩ | ⟨dx, fs, ea, ed, hl, q⟩
  · exact field_first F.store T I2 ea hno r1 fun dx s' n ne J => ⟨σ, _, J, q dx n ne⟩
  · exact field_more F.store T I2 ea ed hl hno r1 fun s' J => ⟨σ, _, J, q⟩
/-- C(e, ..), C's own __init__ keeping sp -/
theorem pmk_own {CX : CXT} {C fI : Addr} {k j : Nat} {fd : FuncData} {ps : List Str} {sp : Sp} {xB : Str} (F : Bs xB B nI iI tl) (T : Own X.K C nI tl) (iC : PySem.W.findIn X.K (.ref C) "__init__" = some (some (.ref fI))) (tI : PySem.W.typeIn X.K (.ref fI) = some (.type "function"))
    (F1 : FnOk X.prog X.w X.K X.mg X.base CX k fI fd ps sp) (hr : Room j X.A) (hk : k + 1 ≤ j) (hb : Binds X.K fd ps []) (hx : Passes CX X (fun _ _ _ => False)) (hg : Gl X x) (hm : X.mg x = some (.ref C)) (ha : PA X (e :: es) ta)
    (hdb : (x == ("__debug__" : Str)) = false := by decide) (he : starEach (e :: es) X.env = (false, eval e X.env) :: starEach es X.env := by rfl) (hpl : (backTo pos (starEach es X.env)).any (·.1) = false := by rfl) :
    PMk X (.Call (.Name x p) (e :: es) [] pos) (tMkO C sp [] ta) := by
  intro pins s σ H Q I h
  refine wpAny_Call_Name_kw (ld_glob I hg hm ?_ hdb)
  refine PySem.W.callWith_K (h₀ := X.base) I.ok.mod.kin T.kp (thn (ha.run pos pins s σ H _ I h) fun us s1 ⟨vs, H1, I1, r1, hz, q1⟩ => ⟨I1.kIn, ?_⟩) he hpl
  show wpAny _ _ (call (.ref C) us) _ _ _
  obtain ⟨nm, N, q, bs, bm, hd, sn, sub, ab, col, dd, k0, k1, k2, k3, k5, hC, hT⟩ := PySem.W.excInit_of I1.kIn T.inn
  obtain ⟨hp, g, dr, tk, os⟩ := s1
  have hsz : hp.objs.size ≤ hp.objs.size + 1 := Nat.le_succ _
  have hq := q1 (hp.objs.size + 1) (I1.hok.fresh hsz)
  rw [List.append_nil] at hq
  have kk : ∀ b o, hp.get? b = some o → ((hp.push (PySem.W.kdv_tup us)).push (PySem.HandSPX.excO C hp.objs.size)).get? b = some o := fun b o e => Heap.get?_push_of_some _ (Heap.get?_push_of_some _ e)
  have hget : ((hp.push (PySem.W.kdv_tup us)).push (PySem.HandSPX.excO C hp.objs.size)).get? (hp.objs.size + 1) = some (PySem.HandSPX.excO C hp.objs.size) := by heap_get
  have I2 := I1.laid (t' := tk) (a := hp.objs.size + 1) (o := exo (hp.objs.size + 1) C none) kk hsz (exo_ok hget)
  have r2 : Vals (V.ref (hp.objs.size + 1) :: vs) (Value.ref (hp.objs.size + 1) :: us) := .cons rfl r1
  have hl : (Value.ref (hp.objs.size + 1) :: us).length = ps.length := r2.length.symm.trans (F1.len _ _ _ _ hq)
  have hus : us.length ≤ sizeLine := by rw [← Paired.length r1, sizeLine_eq]; omega
  have bd := hb ⟨(hp.push (PySem.W.kdv_tup us)).push (PySem.HandSPX.excO C hp.objs.size), g, dr, tk, os⟩ (Value.ref (hp.objs.size + 1) :: us) I2.kIn (by rw [List.append_nil]; exact hl)
  rw [List.append_nil] at bd
  obtain ⟨N, iN, tN, FN, hN⟩ := F.new
  refine wpAny_call (run_cls FN ((hT _).trans hN) ((hT _).trans F.noA) ((hT _).trans F.noN) hC (PySem.W.looks_findIn I1.kIn iC) (fun self => PySem.W.bind_fn I1.kIn self tI) hus
    (codeAny_mono (F1.run _ X.stack _ _ ⟨Value.ref (hp.objs.size + 1) :: us, []⟩ _ _ _ (fun _ _ _ => False) ((hr.mono hk).make C us []) (I2.env0.make C us []) bd r2 hq) fun r s' hq' => ?_))
  cases r with
  | error er => exact hx pins σ _ _ er s' I2 hq'
  | ok fl =>
    cases fl with
    | ret u =>
      obtain ⟨v, H2, os2, bare2, un2, hok2, rv, ev, d, fs, ea, ed, hd1, q2⟩ := hq'
      subst ev
      obtain ⟨h2, g2, d2, t2, os'⟩ := s'
      exact ⟨rv, mk_end (raises_own T.sub T.ty) I1 hsz kk un2 hok2 os2 bare2 ea ed hd1 q2⟩
    | next => exact False.elim hq'
    | brk => exact False.elim hq'
    | cont => exact False.elim hq'
end
/-- where __new__ and __init__ are both of B's own -/
theorem bs_of {x : Str} {B nI iI : String} {tl : List Value} (F : ExcBaseFacts B nI iI tl) (S : StoreFacts B tl "object.__setattr__" "object") (ty : typeOf (.type B) = pure (.type "type")) (st : Manifest.isStub B = false) (bo : bootBuiltins x = some (.type B))
    (fi : ∀ K, PySem.W.findCls K (.type B) (.type "type") "__init__" = some (.val (.builtin iI))) (hi : PySem.W.handedIn (.builtin iI) = true) (nn : x ≠ "__name__") (nd : (x == ("__debug__" : Str)) = false) : Bs x B nI iI tl :=
  ⟨⟨B, iI, tl, F, F.hasB⟩, F.noAttr, F.noName, F.hasB, F.init, F.initEntry, F.initSplit, F.initKind, F.initRow, F.noStar, S, ty, st, bo, fi, hi, nn, nd⟩
theorem bs_ValueError : Bs "ValueError" "ValueError" "ValueError.__new__" "ValueError.__init__" [.type "ValueError", .type "Exception", .type "BaseException", .type "object"] :=
  bs_of PySem.F.excBase_ValueError PySem.F.store_ValueError (by kernel_rfl) (by decide +kernel) (by decide +kernel) (fun K => by kernel_rfl) (by decide +kernel) (by decide) (by decide)
end Fw
namespace Fw
open PySem PySem.Spec PyProof.Rows L2
/-! ### a caught exception that is kept -/
/-- a caught exception of the class cls at a, its dict at d -/
def exk (a : Addr) (cls : Value) (d : Option Addr) : HO := .ext fun h => ∃ (oe : Obj) (vs : Array Value), h.get? a = some oe ∧ Zc cls d oe ∧ oe.data = .fields vs
theorem exk_ok {P : Program} {w : World} {H : Hp} {h : Heap} {a : Addr} {cls : Value} {d : Option Addr} {oe : Obj} {vs : Array Value} (e : h.get? a = some oe) (z : Zc cls d oe) (f : oe.data = .fields vs) : ObjOk P w H h a (exk a cls d) :=
  ⟨⟨oe, vs, e, z, f⟩, ⟨oe, e⟩, fun _ _ ⟨o, v, q, r⟩ k => ⟨o, v, k o q, r⟩⟩
theorem exk_at {P : Program} {w : World} {H : Hp} {h : Heap} {a : Addr} {cls : Value} {d : Option Addr} (hok : HOk P w H h) (e : H a = some (exk a cls d)) : ∃ (oe : Obj) (vs : Array Value), h.get? a = some oe ∧ Zc cls d oe ∧ oe.data = .fields vs := by
  have x : ObjOk P w H h a (.ext fun h => ∃ (oe : Obj) (vs : Array Value), h.get? a = some oe ∧ Zc cls d oe ∧ oe.data = .fields vs) := hok a _ e
  exact x.1
section
variable {X : Cx} {pins : List (Addr × Obj)} {σ : L2.St} {H : Hp} {s : Shared}
/-- an object that wasn't there at the entry and isn't one of the frame's may be looked after from here on -/
theorem inv_track {a : Addr} {o : HO} (I : Inv X pins σ H s) (ha : H a = none) (ok : ObjOk X.prog X.w (upd H a o) s.heap a o) (n0 : X.s_0.heap.get? a = none) (nL : X.env.locals ≠ a) (nC : ∀ x c, X.env.cells.lookup x = some c → c ≠ a)
    (nP : ∀ p ∈ X.pn ++ pins, p.1 ≠ a) : Inv X pins σ (upd H a o) s := by
  have ne0 : ∀ {b : Addr} {u : Obj}, X.s_0.heap.get? b = some u → b ≠ a := fun {b u} e z => nomatch (z ▸ e : X.s_0.heap.get? a = some u).symm.trans n0
  have same : ∀ {b : Addr} {u : HO}, H b = some u → upd H a o b = some u := fun {b u} e => (upd_ne (ne_of_none e ha)).trans e
  refine ⟨I.ok, I.os, I.bare, ⟨I.base.keep, I.base.slot, fun b u e n x => (upd_ne (ne0 e)).trans (I.base.free b u e n x), I.base.there, fun b xs e => same (I.base.tups b xs e), fun b u v e => same (I.base.frzs b u v e), fun b ps e => ?_⟩,
    I.loc, I.cell, (upd_ne nL).trans I.free, fun x c e => (upd_ne (nC x c e)).trans (I.freeC x c e), fun p hp => ?_, fun b u e => ?_, I.len⟩
  · obtain ⟨m, q⟩ := I.base.tbls b ps e
    exact ⟨m, same q⟩
  · obtain ⟨h1, h2, h3⟩ := I.pin p hp
    exact ⟨h1, (upd_ne (nP p hp)).trans h2, h3⟩
  · by_cases hb : b = a
    · subst hb
      rw [upd_same] at e
      cases e
      exact ok
    · rw [upd_ne hb] at e
      exact (I.hok b u e).stay (fun _ _ _ q => q) (fun c q => same q) fun c xs q => same q
theorem inv_suite0 (I : Inv X pins σ H s) (a : Addr) : Inv (X.suite a (X.pn ++ pins)) [] σ H s :=
  ⟨I.ok.suite _ _, I.os, I.bare, I.base, I.loc, I.cell, I.free, I.freeC, fun p hp => I.pin p (by rw [List.append_nil] at hp; exact hp), I.hok, I.len⟩
theorem inv_unsuite0 {a : Addr} {pn' : List (Addr × Obj)} (I : Inv (X.suite a (X.pn ++ pins)) pn' σ H s) (ok : X.Ok) : Inv X pins σ H s :=
  ⟨ok, I.os, I.bare, I.base, I.loc, I.cell, I.free, I.freeC, fun p hp => I.pin p (List.mem_append_left _ hp), I.hok, I.len⟩
end
/-- what 'except x as n' wishes, the exception looked after from there on -/
def wKeep (K : PySem.W.Frag) (c : Value) (i : Nat) (ts : Addr → TS) (Wout : WX) (D : Ends) : WX := fun cls d σ H =>
  ∃ b, PySem.W.exmOne K cls c = some b ∧ (b = true → ∀ a, H a = none → ts a { nx := fun σ' H' => D.nx (σ'.set i none) H', rt := D.rt, bk := fun σ' H' => D.bk (σ'.set i none) H', ct := fun σ' H' => D.ct (σ'.set i none) H' } (σ.set i (some (.ref a))) (upd H a (exk a cls d))) ∧
    (b = false → Wout cls d σ H)
section
variable {X : Cx} {x n : Str} {c : Value} {i : Nat} {body suite : List Stmt} {b₀ : Stmt} {np pos pos' : Pos} {tb : WX → TS} {ts : Addr → TS} {Wout : WX}
theorem ps_try_keep {K : PySem.W.Frag} (hK : X.K = K) (hs : X.stack = X.env :: X.outer) (hf : X.env.frame = some X.env.locals) (hex : X.ex = []) (hN : X.N.Nodup) (hi : X.N[i]? = some n) (hln : X.env.kindOf n = some .local) (hc : Names X x c) (tk : Takes X Wout)
    (hb : ∀ (W : WX) (pn : List (Addr × Obj)) (xe : Value → Shared → Prop), Takes (X.tr pn xe) W → PassesOwn (model X.prog X.w) X.A X.env xe → PSs (X.tr pn xe) body (tb W))
    (hsu : ∀ (a : Addr) (pn : List (Addr × Obj)), PSs (X.suite a pn) (b₀ :: suite) (ts a)) :
    PS X (.Try body [.ExceptHandler (some (.Name x np)) (some n) (b₀ :: suite) pos'] [] [] pos) (fun D σ H => tb (wKeep K c i ts Wout D) D σ H) := by
  subst hK
  refine ⟨fun pins s σ H D I h => ?_⟩
  have ok := I.ok
  have hfr : X.A.frames = some (X.env :: X.outer) := ok.frames.trans (congrArg some hs)
  refine wpAny_Try_except (wpAny_mono ((hb (wKeep X.K c i ts Wout D) (X.pn ++ pins) (fun e s₁ => wpAny (model X.prog X.w) X.A (noteFrame e X.env) (fun _ s₂ => wpAny (model X.prog X.w) X.A (setFlight e none) (fun _ s₃ =>
    wpAny (model X.prog X.w) X.A (handleBy e X.env [.ExceptHandler (some (.Name x np)) (some n) (b₀ :: suite) pos']) (SP X pins D) X.xe s₃) X.xe s₂) X.xe s₁) (fun u s' xx => ?caught) PassesOwn.looking).run [] s σ H D (I.toTry _) h) (fun f s1 hsp => ?thru) (fun e s1 he => he))
  case thru =>
    cases f with
    | next =>
      obtain ⟨σ', H', J', q⟩ := hsp
      exact wpAny_execs_nil ⟨σ', H', J'.ofTry ok, q⟩
    | brk =>
      obtain ⟨σ', H', J', q⟩ := hsp
      exact ⟨σ', H', J'.ofTry ok, q⟩
    | cont =>
      obtain ⟨σ', H', J', q⟩ := hsp
      exact ⟨σ', H', J'.ofTry ok, q⟩
    | ret u =>
      obtain ⟨v, σ', H', J', r, q⟩ := hsp
      exact ⟨v, σ', H', J'.ofTry ok, r, q⟩
  case caught =>
    obtain ⟨a, B, sI, pins', σ', H', cls, d, rfl, J', nb, up, sky, na, os, ag, b, hb1, hyes, hno⟩ := xx
    have J : Inv X pins σ' H' sI := J'.ofTry ok
    rw [show (X.tr (X.pn ++ pins) _).stack = X.env :: X.outer from hs] at sky
    show wpAny (model X.prog X.w) X.A (noteFrame (.ref a) X.env) _ _ _
    refine Sky.land Zc.steady hfr hf sky fun h3 fl3 up3 => ?_
    have J3 : Inv X pins σ' H' { s' with heap := h3 } := J.landed nb fl3.1 (up.trans up3) os ag
    obtain ⟨oe3, vs3, he3, hz3, hd3⟩ := fl3.there
    have nfr : a ∉ frs X.stack := fun hm => by
      rw [hs] at hm
      obtain ⟨_, o', e', hnf⟩ := fl3.2.2.1.mem hm
      rw [he3] at e'
      cases e'
      exact hnf _ hd3
    have gone : sI.heap.get? a = none := by
      cases e : sI.heap.get? a with
      | none => rfl
      | some o => exact nomatch (nb a o e nfr).symm.trans fl3.2.1
    have lives : ∀ {b : Addr} {o : Obj}, sI.heap.get? b = some o → b ≠ a := fun {b o} e z => nomatch (z ▸ e : sI.heap.get? a = some o).symm.trans gone
    have n0 : X.s_0.heap.get? a = none := by
      cases e : X.s_0.heap.get? a with
      | none => rfl
      | some o =>
        obtain ⟨o', q⟩ := J.base.there a o e (by rw [hex]; exact fun z => nomatch z)
        exact absurd rfl (lives q)
    have nL : X.env.locals ≠ a := by
      obtain ⟨m, ⟨o, es, ep, q, _⟩, _⟩ := J.loc
      exact lives q
    have nC : ∀ x c, X.env.cells.lookup x = some c → c ≠ a := fun x c e => by
      obtain ⟨v, o, q, _⟩ := J.cell x c e
      exact lives q
    have nP : ∀ p ∈ X.pn ++ pins, p.1 ≠ a := fun p hp => lives (J.pin p hp).1
    have S3 := inv_suite0 J3 a
    refine wpAny_handleBy_cons (codeAny_handlers_test ?_) (by intro q; cases q)
    have LT : PySem.W.Looks (model X.prog X.w) h3 (typeOf (.ref a)) cls := fun A Q E s k q => wpAny_typeOf_ref (k _ _ he3) (by rw [hz3.1]; exact q)
    have LM := PySem.W.exm_one (M := model X.prog X.w) J3.kIn LT hb1
    have test : ∀ {Q : Value → Shared → Prop} {E : Value → Shared → Prop}, Q c { s' with heap := h3 } → wpAny (model X.prog X.w) (X.A.mark (some (.ref a))) (eval (.Name x np) X.env) Q E { s' with heap := h3 } := fun {Q E} q => by
      obtain ⟨hg, hdbg, hm | ⟨hm, hv, hnn⟩⟩ := hc
      · exact ld_glob (X := X.suite a (X.pn ++ pins)) S3 hg hm q hdbg
      · exact ld_blt (X := X.suite a (X.pn ++ pins)) S3 hg hm hv q hnn hdbg
    refine test (LM.here ?_)
    cases b with
    | false =>
      show wpAny _ X.A (handleBy (.ref a) X.env []) _ _ _
      refine wpAny_handleBy_nil ?_
      obtain ⟨_, _, _, oe, vs, T, oT, ts', he, hz, hd, h1, hr⟩ := id fl3
      unfold PySem.passOn
      refine wpAny_bind (wpAny_field he hd h1 ?_)
      rw [if_neg (show ¬ ((Value.ref T == Value.none) = true) from by simp)]
      have fin : wpAny (model X.prog X.w) X.A (setFlight (.ref a) X.env.frame) (fun _ s4 => wpAny (model X.prog X.w) X.A (throw (.ref a) : Sem Flow) (SP X pins D) X.xe s4) X.xe { s' with heap := h3 } := by
        rw [hf]
        refine HandSPX.setFlight_upZ fl3 fun h4 hh4 up4 => wpAny_throw (tk _ _ ?_)
        exact ⟨a, B, sI, pins, σ', H', cls, d, rfl, J, nb, (up.trans up3).trans up4, .inr (.inr (by rw [hs]; exact hh4)), na, os, ag, hno rfl⟩
      first
        | exact wpAny_bind (wpAny_pure (wpAny_bind fin))
        | exact wpAny_bind fin
    | true =>
      refine codeAny_handlers_suite_as (HandSPX.lands_againZ fl3 fun h4 fl4 up4 => ?_)
      obtain ⟨oe4, vs4, he4, hz4, hd4⟩ := fl4.there
      have J4 : Inv X pins σ' H' { s' with heap := h4 } := J.landed nb fl4.1 ((up.trans up3).trans up4) os ag
      have S4 := inv_suite0 (inv_track J4 na (exk_ok (H := upd H' a (exk a cls d)) he4 hz4 hd4) n0 nL nC nP) a
      refine store_ok (X := X.suite a (X.pn ++ pins)) (v := .ref a) S4 hN hi (.inl hln) rfl (fun s5 S5 => ?_) (.inr hln)
      refine wpAny_mono ((hsu a (X.pn ++ pins)).run [] s5 _ _ _ S5 (hyes rfl a na)) (fun f s6 hsp => ?_) (fun _ _ z => False.elim z)
      have fin : ∀ {σ6 : L2.St} {H6 : Hp} {Q : Shared → Prop}, Inv (X.suite a (X.pn ++ pins)) [] σ6 H6 s6 → (∀ s7, Inv X pins (σ6.set i none) H6 s7 → Q s7) →
          wpAny (model X.prog X.w) X.A (do bindName X.env n .none; unbindBehindTheSuite X.env n pos') (fun _ s7 => Q s7) X.xe s6 := fun {σ6 H6 Q} S6 hq => gone_ok (inv_unsuite0 S6 ok) hN hi hln hq
      cases f with
      | next =>
        obtain ⟨σ6, H6, S6, q6⟩ := hsp
        exact fin S6 fun s7 J7 => ⟨_, _, J7, q6⟩
      | brk =>
        obtain ⟨σ6, H6, S6, q6⟩ := hsp
        exact fin S6 fun s7 J7 => ⟨_, _, J7, q6⟩
      | cont =>
        obtain ⟨σ6, H6, S6, q6⟩ := hsp
        exact fin S6 fun s7 J7 => ⟨_, _, J7, q6⟩
      | ret u =>
        obtain ⟨v6, σ6, H6, S6, r6, q6⟩ := hsp
        exact fin S6 fun s7 J7 => ⟨_, _, _, J7, r6, q6⟩
end
/-! ### its fields -/
def tFldOf (K : PySem.W.Frag) (f : Str) (te : TE) : TE := fun σ H Q => te σ H fun x H1 => ∃ (a C dd : Addr) (nI : String) (tl : List Value) (fs : List (Str × V)) (v : V), x = .ref a ∧ H1 a = some (exk a (.ref C) (some dd)) ∧ H1 dd = some (.xd fs) ∧ Own K C nI tl ∧
  PySem.W.findIn K (.ref C) f = some none ∧ fs.lookup f = some v ∧ Q v H1
theorem pe_fldOf {X : Cx} {K : PySem.W.Frag} {e : Expr} {te : TE} {pos : Pos} {n : Str} (he : PE X e te) (hK : X.K = K := by rfl) (hb : attributeBase e n X.env (eval e X.env) = eval e X.env := by rfl) : PE X (.Attribute e n pos) (tFldOf K n te) := by
  subst hK
  refine ⟨fun pins s σ H Q I h => ?_⟩
  refine attr_of hb (thn (he.run pins s σ H _ I h) fun u s1 hh => ?_)
  obtain ⟨x, H1, I1, rx, a, C, dd, nI, tl, fs, v, rfl, ea, ed, T, hno, l, q⟩ := hh
  obtain rfl : u = Value.ref a := rx
  obtain ⟨oe, vs, ha, hz, hd⟩ := exk_at I1.hok ea
  have hx : ObjOk X.prog X.w H1 s1.heap dd (.xd fs) := I1.hok dd _ ed
  obtain ⟨mA, hns, hr⟩ := hx
  obtain ⟨od, ho, hl⟩ := lookIn_ns hns
  obtain ⟨u, hu, ru⟩ := RelO.some_of (v := v) (o := mA n) (by rw [← l]; exact hr n)
  have J : PySem.W.InstAt s1.heap a oe C (some od) := ⟨ha, hz.1, by unfold PySem.W.notCls; rw [hd] <;> rfl, by rw [hz.2]; exact ho⟩
  exact HandSPX.exc_get I1.kIn J T.ga T.gg T.sub (PySem.W.findObj_own T.hd hno rfl (by rw [hl, hu])) (handed_of ru) ⟨v, H1, I1.tok _, ru, q⟩
end Fw
namespace Fw
open PySem PySem.Spec PyProof.Rows L2
section
open PySem.W
variable {prog : Program} {w : World} {A : Around} {E : Value → Shared → Prop} {s : Shared} {K : PySem.W.Frag} {x D : Addr} {ox : Obj} {od : Option Obj} {nI : String} {tl : List Value}
/-- x.__class__, x an exception of an own class, with or without a dict -/
theorem cls_exc {Q : Option Value → Shared → Prop} (T : Own K D nI tl) (X : K.In s.heap) (I : PySem.W.InstAt s.heap x ox D od) (h : Q (some (.ref D)) { s with toks := s.toks + 1 }) : wpAny (model prog w) A (getAttr? (.ref x) "__class__") Q E s := by
  have hf : findObj K D od "__class__" = some (.bind (.builtin "getset_descriptor.__get__") (.builtin "object.__class__")) := by
    obtain ⟨cd, hc, _⟩ := any_some T.hd
    unfold findObj
    rw [hc, Option.bind_some, T.cl, Option.bind_some]
    simp [T.cg, T.ct]
  obtain ⟨hp, g, d, t, os⟩ := s
  have ty := I.type (M := model prog w)
  have own := looks_findIn (M := model prog w) X T.ga
  have hook := looks_findIn (M := model prog w) X T.gg
  have fnd := looks_find (M := model prog w) X I hf
  have sub : Looks (model prog w) hp (isInstance (.ref x) (.type "BaseException")) true := ty.andThen (looks_subIn X T.sub)
  have n2 : (Value.builtin "BaseException.__getattribute__" == Value.builtin "object.__getattribute__") = false := by decide +kernel
  have n1 : (onTheHeap (Value.ref D) && Value.builtin "BaseException.__getattribute__" == Value.builtin "object.__getattribute__") = false := by rw [n2]; rfl
  unfold getAttr? getAttrBy? getAttrBy
  refine wpAny_bind (wpAny_mkText (wpAny_bind (wpAny_attempt (wpAny_holding (wpAny_bind (ty.at (wpAny_bind (own.at ?_))))))))
  show wpAny _ _ (if (onTheHeap (Value.ref D) && Value.builtin "BaseException.__getattribute__" == Value.builtin "object.__getattribute__") = true then _ else _) _ _ _
  rw [n1, if_neg Bool.false_ne_true]
  unfold getAttrByItsOwn hookBefore
  refine wpAny_bind ?_
  rw [if_pos (show onTheHeap (Value.ref D) = true from rfl)]
  refine hook.at (wpAny_bind (wpAny_attempt (wpAny_holding ?_)))
  unfold callGetattribute
  rw [if_neg (show ¬ ((false && onTheHeap (Value.builtin "BaseException.__getattribute__")) = true) from by decide +kernel)]
  unfold boundAndCalled
  rw [PySem.F.excAttr_ValueError.ga.bind (.ref x)]
  refine wpAny_bind (wpAny_pure ?_)
  show wpAny _ _ (call (.builtin "BaseException.__getattribute__") [.ref x, .str "__class__" t]) _ _ _
  refine wpAny_call (codeAny_call_builtin PySem.F.excAttr_ValueError.ga.plain PySem.F.entry_bexc_ga ?_)
  refine @check_slot (model prog w) _ _ ⟨hp, g, d, t + 1, os⟩ "BaseException.__getattribute__" "BaseException" "__getattribute__" (.ref x) [.str "__class__" t] [] _ (by decide +kernel) (by decide +kernel) sub (PySem.F.args_bexc_ga (.ref x) (.str "__class__" t)) ?_
  unfold Builtin.«object.__getattribute__»
  refine wpAny_bind (wpAny_of_eq (a := ((Value.ref x : Value), [Value.str "__class__" t])) (by first | rfl | (simp only [slotArgs]; rfl)) ?_)
  refine wpAny_bind (wpAny_pure (wpAny_bind (ty.at (wpAny_bind (fnd.at ?_)))))
  show wpAny _ _ (holding [Value.builtin "object.__class__"] (call (.builtin "getset_descriptor.__get__") [.builtin "object.__class__", .ref x, .ref D]) >>= ret) _ _ _
  refine wpAny_bind (wpAny_holding (wpAny_call (class_get (s := ⟨hp, g, d, t + 1, os⟩) (ox := ox) (od := od) X I T.mo ?_)))
  refine wpAny_pure ?_
  show wpAny _ _ (handedOut (.ref D)) _ _ _
  rw [handedOut_of (v := .ref D) rfl]
  first
    | exact wpAny_pure (wpAny_pure h)
    | exact wpAny_pure h
    | exact wpAny_pure (wpAny_bind (wpAny_pure (wpAny_pure h)))
theorem kit_exc (T : Own K D nI tl) : KitX K (.ref x) (.ref D) (fun h => PySem.W.InstAt h x ox D od) := by
  obtain ⟨cd, hc, _⟩ := any_some T.hd
  have at' : ∀ {h : Heap}, K.In h → ∃ (c : Value) (d' : Option Addr) (cd' : ClassData) (sl : Array (Option Value)), h.get? D = some ⟨c, d', .cls cd', sl⟩ := fun {h} X => by
    unfold clsIn at hc
    split at hc
    · rename_i c' d' cd' sl' ho
      exact ⟨_, _, _, _, X _ _ ho⟩
    · cases hc
  refine ⟨fun _ _ _ I => I.type, fun _ h X _ => ?_, fun h tp dd its n sl X htp => ?_, fun X I k => cls_exc T X I k⟩
  · obtain ⟨c', d', cd', sl', ho⟩ := at' X
    intro A' Q' E' s' k q
    unfold isType loadHead
    exact wpAny_bind (wpAny_loadPart (k _ _ ho) (wpAny_pure q))
  · obtain ⟨c', d', cd', sl', ho⟩ := at' X
    refine Bool.eq_false_iff.mpr fun q => ?_
    have e : D = tp := Value.ref.inj (beq_iff_eq.mp q)
    subst e
    exact nomatch ho.symm.trans htp
end
/-- isinstance(e, c), isinstance(e, (c1, ..)), e a kept exception -/
def uIsX (K : PySem.W.Frag) : List V → Hp → VK → Prop := fun xs H Q => ∃ (a C dd : Addr) (nI : String) (tl : List Value) (fs : List (Str × V)) (b : Bool), H a = some (exk a (.ref C) (some dd)) ∧ H dd = some (.xd fs) ∧ Own K C nI tl ∧ Q (.bl b) H ∧
  ((∃ (c : V) (u : Value), xs = [.ref a, c] ∧ ClsV c u ∧ PySem.W.kitOne K (.ref C) u = some b) ∨ ∃ (tp : Addr) (cs : List V) (us : List Value), xs = [.ref a, .ref tp] ∧ H tp = some (.tup cs) ∧ Paired ClsV cs us ∧ PySem.W.kitAny K (.ref C) us = some b)
theorem call_isX {X : Cx} {K : PySem.W.Frag} (hK : X.K = K := by rfl) : CallR X (.builtin "isinstance") (uIsX K) := by
  subst hK
  intro pins s σ H xs us Q I r h
  obtain ⟨a, C, dd, nI, tl, fs, b, ea, ed, T, q, h⟩ := h
  obtain ⟨oe, vs, ha, hz, hd⟩ := exk_at I.hok ea
  have hx : ObjOk X.prog X.w H s.heap dd (.xd fs) := I.hok dd _ ed
  obtain ⟨mA, hns, hr⟩ := hx
  obtain ⟨od, ho, hl⟩ := lookIn_ns hns
  have J : PySem.W.InstAt s.heap a oe C (some od) := ⟨ha, hz.1, by unfold PySem.W.notCls; rw [hd] <;> rfl, by rw [hz.2]; exact ho⟩
  rcases h with ⟨c, u, rfl, k, e⟩ | ⟨tp, cs, ws, rfl, hT, k, e⟩
  · obtain ⟨u1, u2, rfl, r1, r2⟩ := vals2 r
    obtain rfl : u1 = Value.ref a := r1
    have e2 := k.eq r2
    subst e2
    exact PySem.W.kia_one (kit_exc T) I.kIn J e (fun z => nomatch z) fun tk => ⟨.bl b, H, I.tok tk, rfl, q⟩
  · obtain ⟨u1, u2, rfl, r1, r2⟩ := vals2 r
    obtain rfl : u1 = Value.ref a := r1
    cases (show u2 = Value.ref tp from r2)
    obtain ⟨_, its, rv, o, h1, h2, n, h3⟩ := (show ObjOk X.prog X.w H s.heap tp (.tup cs) from I.hok tp _ hT)
    have e3 := ClsV.all k rv
    subst e3
    obtain ⟨oc, od', dt, sl⟩ := o
    simp only at h2 h3
    subst h2 h3
    exact PySem.W.kia_tup (kit_exc T) I.kIn J h1 e (fun z => nomatch z) fun tk => ⟨.bl b, H, I.tok tk, rfl, q⟩
theorem x_isX1 {K : PySem.W.Frag} {H : Hp} {Q : VK} {a C dd : Addr} {nI : String} {tl : List Value} {fs : List (Str × V)} {b : Bool} {n : String} (T : Own K C nI tl) (ea : H a = some (exk a (.ref C) (some dd))) (ed : H dd = some (.xd fs))
    (e : PySem.W.kitOne K (.ref C) (.type n) = some b) (q : Q (.bl b) H) : uIsX K [.ref a, .ty n] H Q := ⟨a, C, dd, nI, tl, fs, b, ea, ed, T, q, .inl ⟨_, _, rfl, .ty n, e⟩⟩
theorem x_isXT {K : PySem.W.Frag} {H : Hp} {Q : VK} {a C dd tp : Addr} {nI : String} {tl : List Value} {fs : List (Str × V)} {b : Bool} {cs : List V} {us : List Value} (T : Own K C nI tl) (ea : H a = some (exk a (.ref C) (some dd))) (ed : H dd = some (.xd fs))
    (hT : H tp = some (.tup cs)) (k : Paired ClsV cs us) (e : PySem.W.kitAny K (.ref C) us = some b) (q : Q (.bl b) H) : uIsX K [.ref a, .ref tp] H Q := ⟨a, C, dd, nI, tl, fs, b, ea, ed, T, q, .inr ⟨tp, cs, us, rfl, hT, k, e⟩⟩
/-! ### calls that may raise, at the slots -/
def tCallNS (n m : Nat) (sp : Sp) (gV : List V → List V → List V) (W : WX) (t tk : TA) : TE := fun σ H Q => t σ H fun vs H1 => tk σ H1 fun zs H2 => vs.length = n ∧ zs.length = m ∧ sp (gV vs zs) H2 Q (WE W σ)
section
variable {X : Cx} {k j n : Nat} {ks ps : List Str} {gV : List V → List V → List V} {sp : Sp} {W : WX} {x : Str} {p pos : Pos} {e : Expr} {es : List Expr} {kws : List Keyword} {t tk : TA}
theorem pe_fnNS (tks : Takes X W) (F : FnN X.prog X.w X.K X.mg X.base (L2.CX X.prog X.w) k x n ks gV sp) (hr : Room j X.A) (hk : k ≤ j) (hg : Gl X x) (ha : PA X (e :: es) t) (hkw : PK X kws tk) (hall : (backToKw pos (keywordEach kws X.env)).all (·.1.isSome) = true := by rfl) (hks : (backToKw pos (keywordEach kws X.env)).filterMap (·.1) = ks := by rfl)
    (hdb : (x == ("__debug__" : Str)) = false := by decide) (he : starEach (e :: es) X.env = (false, eval e X.env) :: starEach es X.env := by rfl)
    (hpl : ((backTo pos (starEach (e :: es) X.env)).any (·.1) || (backToKw pos (keywordEach kws X.env)).any (·.1.isNone)) = false := by rfl) :
    PE X (.Call (.Name x p) (e :: es) kws pos) (tCallNS n ks.length sp gV W t tk) := by
  obtain ⟨f, fd, ps, g, hm, hkp, hb, F⟩ := F.ex
  refine ⟨fun pins s σ H Q I h => wpAny_Call_Name_kw (ld_glob I hg hm ?_ hdb)⟩
  refine PySem.W.callWith_KW (h₀ := X.base) I.ok.mod.kin hkp hall (thn (ha.run pos pins s σ H _ I h) fun us s1 ⟨vs, H1, I1, r, q⟩ => ?_) hpl he
  refine thn (hkw.run pos pins s1 σ H1 _ I1 q) fun ws s2 ⟨zs, H2, I2, rz, l1, l2, q2⟩ => ⟨I2.kIn, ?_⟩
  rw [hks]
  refine wpAny_call (codeAny_mono (F.run X.A X.stack s2 H2 ⟨us, ks.zip ws⟩ (g us ws) (gV vs zs) Q (WE W σ) (hr.mono hk) I2.env0 (hb.to s2 us ws I2.kIn (r.length.symm.trans l1) (rz.length.symm.trans l2)) (hb.rel r rz) q2) fun r s' hq => ?_)
  cases r with
  | error er => exact passAt tks σ pins H2 s2 er s' I2 hq
  | ok fl =>
    cases fl with
    | ret u => exact I2.after hq
    | next => exact hq.elim
    | brk => exact hq.elim
    | cont => exact hq.elim
theorem pe_fnS (tks : Takes X W) (F : Fn X.prog X.w X.K X.mg X.base (L2.CX X.prog X.w) k x ps sp) (hr : Room j X.A) (hk : k ≤ j) (hg : Gl X x) (ha : PA X (e :: es) t) (hdb : (x == ("__debug__" : Str)) = false := by decide)
    (he : starEach (e :: es) X.env = (false, eval e X.env) :: starEach es X.env := by rfl) (hpl : (backTo pos (starEach es X.env)).any (·.1) = false := by rfl) : PE X (.Call (.Name x p) (e :: es) [] pos) (tCallS sp (WE W) t) := by
  obtain ⟨f, fd, hm, hkp, hb, F⟩ := F.ex
  exact pe_callS F (hr.mono hk) hg hm hkp hb (passAt tks) ha hdb he hpl
end
end Fw
namespace Fw
open PySem PySem.Spec PyProof.Rows L2
/-! ### defs that may raise -/
section
variable {P : Program} {w : World} {K : PySem.W.Frag} {mg : Str → Option Value} {base : Heap}
theorem okSX {x qual : Str} {st : Stmt} {f : Addr} {fd : FuncData} {N ps : List Str} {k : Nat} {sp : Sp} (F : Fun K x qual st f fd) (S : FnScope N ps (defScope st)) (len : ∀ vs H Q E, sp vs H Q E → vs.length = ps.length)
    (hbody : ∀ (cdv : Value) (A : Around) (outer : List Env) (s : Shared) (H : Hp) (vs : List V) (Q : VK) (E : XK), Room k (A.deeper (envOfC qual (defScope st) s.heap.objs.size f cdv)) → sp vs H Q E →
      ∃ t σ, PSs (cxOf (L2.CX P w) P w K mg base N qual (defScope st) f cdv A outer s H E) (defBody st) t ∧ L2.start N vs = σ ∧ t { nx := fun _ H' => Q .non H', rt := Q } σ H) : FnOk P w K mg base (L2.CX P w) (k + 1) f fd ps sp := by
  refine F.okX S len fun cdv A outer s H vs Q E hr h => ?_
  obtain ⟨t, σ, h1, rfl, h2⟩ := hbody cdv A outer s H vs Q E hr h
  exact ⟨t, h1, h2⟩
theorem okDX {x qual : Str} {st : Stmt} {dvs : List V} {kws : List (Str × V)} {f : Addr} {fd : FuncData} {N ps : List Str} {k : Nat} {sp : Sp} (F : FunD K x qual (defArgs st) (defBody st) (defScope st) dvs kws f fd) (S : FnScope N ps (defScope st)) (len : ∀ vs H Q E, sp vs H Q E → vs.length = ps.length)
    (hbody : ∀ (cdv : Value) (A : Around) (outer : List Env) (s : Shared) (H : Hp) (vs : List V) (Q : VK) (E : XK), Room k (A.deeper (envOfC qual (defScope st) s.heap.objs.size f cdv)) → sp vs H Q E →
      ∃ t σ, PSs (cxOf (L2.CX P w) P w K mg base N qual (defScope st) f cdv A outer s H E) (defBody st) t ∧ L2.start N vs = σ ∧ t { nx := fun _ H' => Q .non H', rt := Q } σ H) : FnOk P w K mg base (L2.CX P w) (k + 1) f fd ps sp := by
  refine F.ok S len fun cdv A outer s H vs Q E hr h => ?_
  obtain ⟨t, σ, h1, rfl, h2⟩ := hbody cdv A outer s H vs Q E hr h
  exact ⟨t, h1, h2⟩
end
/-- what leaves a def -/
theorem takesE {P : Program} {w : World} {K : PySem.W.Frag} {mg : Str → Option Value} {base : Heap} {N : List Str} {qual : Str} {sc : Scope} {f : Addr} {cdv : Value} {A : Around} {outer : List Env} {s : Shared} {H : Hp} {E : XK} :
    Takes (cxOf (L2.CX P w) P w K mg base N qual sc f cdv A outer s H E) (fun cls d _ H' => E cls d H') := takes_of rfl rfl rfl rfl
/-! ### steps -/
section
variable {σ : L2.St} {H : Hp} {Q : VK} {D : Ends} {t tk ta : TA} {to te : TE} {sp : Sp} {gV : List V → List V → List V} {W : WX} {n m : Nat} {K : PySem.W.Frag} {nI : String} {tl : List Value} {f : Str}
theorem x_callNS (q : t σ H fun vs H1 => tk σ H1 fun zs H2 => vs.length = n ∧ zs.length = m ∧ sp (gV vs zs) H2 Q (WE W σ)) : tCallNS n m sp gV W t tk σ H Q := q
theorem x_callS {E : L2.St → XK} (q : t σ H fun vs H1 => sp vs H1 Q (E σ)) : tCallS sp E t σ H Q := q
theorem x_fldOf (q : te σ H fun x H1 => ∃ (a C dd : Addr) (nI : String) (tl : List Value) (fs : List (Str × V)) (v : V), x = .ref a ∧ H1 a = some (exk a (.ref C) (some dd)) ∧ H1 dd = some (.xd fs) ∧ Own K C nI tl ∧
  PySem.W.findIn K (.ref C) f = some none ∧ fs.lookup f = some v ∧ Q v H1) : tFldOf K f te σ H Q := q
theorem x_fldE {x : V} {a C dd : Addr} {fs : List (Str × V)} {v : V} (T : Own K C nI tl) (ea : H a = some (exk a (.ref C) (some dd))) (ed : H dd = some (.xd fs)) (hf : PySem.W.findIn K (.ref C) f = some none) (hl : fs.lookup f = some v) (q : Q v H) :
    ∃ (a' C dd : Addr) (nI : String) (tl : List Value) (fs : List (Str × V)) (v : V), V.ref a = .ref a' ∧ H a' = some (exk a' (.ref C) (some dd)) ∧ H dd = some (.xd fs) ∧ Own K C nI tl ∧ PySem.W.findIn K (.ref C) f = some none ∧ fs.lookup f = some v ∧ Q v H :=
  ⟨a, C, dd, nI, tl, fs, v, rfl, ea, ed, T, hf, hl, q⟩
theorem x_mkO {C : Addr} {dvs : List V} {Q : XK} (q : ta σ H fun vs H1 => vs.length ≤ 1000 ∧ ∀ a, H1 a = none → sp (.ref a :: (vs ++ dvs)) (upd H1 a (exo a C none))
    (fun v H2 => v = .non ∧ ∃ (d : Addr) (fs : List (Str × V)), H2 a = some (exo a C (some d)) ∧ H2 d = some (exd d fs) ∧ H1 d = none ∧ Q (.ref C) (some d) (upd (L2.del H2 a) d (.xd fs))) (fun _ _ _ => False)) : tMkO C sp dvs ta σ H Q := q
/-! ### __init__ -/
def spInit1 (C : Addr) (f : Str) : Sp := fun vs H Q _ => ∃ (a : Addr) (v : V), vs = [.ref a, v] ∧ H a = some (exo a C none) ∧ ∀ d, H d = none → d ≠ a → Q .non (upd (upd H d (exd d [(f, v)])) a (exo a C (some d)))
def spInit2 (C : Addr) (f g : Str) : Sp := fun vs H Q _ => ∃ (a : Addr) (v w : V), vs = [.ref a, v, w] ∧ H a = some (exo a C none) ∧ ∀ d, H d = none → d ≠ a → Q .non (upd (upd (upd H d (exd d [(f, v)])) a (exo a C (some d))) d (exd d [(g, w), (f, v)]))
theorem x_bI {Q : VK} (q : ta σ H fun vs H1 => ∃ (a C : Addr) (ws : List V), vs = .ref a :: ws ∧ ws.length ≤ 1000 ∧ Own K C nI tl ∧ H1 a = some (exo a C none) ∧ Q .non H1) : tBI K nI tl ta σ H Q := q
/-- the body of an __init__ of one field -/
theorem init1 {C a : Addr} {v x0 : V} (T : Own K C nI tl) (hf : PySem.W.findIn K (.ref C) f = some none) (ea : H a = some (exo a C none)) {Q : VK}
    (q : ∀ d, H d = none → d ≠ a → Q .non (upd (upd H d (exd d [(f, v)])) a (exo a C (some d)))) :
    tSeq (tDrop (tBI K nI tl (tCons (tVar 0) (tCons (tC x0) tNil)))) (tFld K nI tl f (tVar 0) (tVar 1)) { nx := fun _ H' => Q .non H', rt := Q } [some (.ref a), some v] H :=
  ⟨.ref a, rfl, a, C, [x0], rfl, by simp, T, ea, v, rfl, .ref a, rfl, a, C, rfl, T, hf, .inl ⟨ea, q⟩⟩
theorem init2 {C a : Addr} {v w x0 : V} {g : Str} (T : Own K C nI tl) (hf : PySem.W.findIn K (.ref C) f = some none) (hg : PySem.W.findIn K (.ref C) g = some none) (ea : H a = some (exo a C none)) {Q : VK}
    (q : ∀ d, H d = none → d ≠ a → Q .non (upd (upd (upd H d (exd d [(f, v)])) a (exo a C (some d))) d (exd d [(g, w), (f, v)]))) :
    tSeq (tDrop (tBI K nI tl (tCons (tVar 0) (tCons (tC x0) tNil)))) (tSeq (tFld K nI tl f (tVar 0) (tVar 1)) (tFld K nI tl g (tVar 0) (tVar 2))) { nx := fun _ H' => Q .non H', rt := Q } [some (.ref a), some v, some w] H :=
  ⟨.ref a, rfl, a, C, [x0], rfl, by simp, T, ea, v, rfl, .ref a, rfl, a, C, rfl, T, hf, .inl ⟨ea, fun d hd hne => ⟨w, rfl, .ref a, rfl, a, C, rfl, T, hg, .inr ⟨d, _, upd_same, (upd_ne hne).trans upd_same, by simp, q d hd hne⟩⟩⟩⟩
end
section
variable {H1 : Hp} {C : Addr} {f g : Str} {v w : V} {Q : XK}
theorem hp_ext {H H' : Hp} (h : ∀ b, H b = H' b) : H = H' := funext h
/-- C(v) made: what is left of it is its dict -/
theorem x_mk1 (q : ∀ d, H1 d = none → Q (.ref C) (some d) (upd H1 d (.xd [(f, v)]))) : ([v] : List V).length ≤ 1000 ∧ ∀ a, H1 a = none → spInit1 C f (.ref a :: ([v] ++ [])) (upd H1 a (exo a C none))
    (fun v H2 => v = .non ∧ ∃ (d : Addr) (fs : List (Str × V)), H2 a = some (exo a C (some d)) ∧ H2 d = some (exd d fs) ∧ H1 d = none ∧ Q (.ref C) (some d) (upd (L2.del H2 a) d (.xd fs))) (fun _ _ _ => False) := by
  refine ⟨by simp, fun a ha => ⟨a, v, rfl, upd_same, fun d hd hne => ⟨rfl, d, _, upd_same, (upd_ne hne).trans upd_same, ?_, ?_⟩⟩⟩
  · rw [upd_ne hne] at hd
    exact hd
  · rw [upd_ne hne] at hd
    have e : upd (L2.del (upd (upd (upd H1 a (exo a C none)) d (exd d [(f, v)])) a (exo a C (some d))) a) d (.xd [(f, v)]) = upd H1 d (.xd [(f, v)]) := by
      refine hp_ext fun b => ?_
      by_cases h1 : b = d
      · rw [h1, upd_same, upd_same]
      · rw [upd_ne h1, upd_ne h1]
        by_cases h2 : b = a
        · rw [h2, L2.del_same, ha]
        · rw [L2.del_ne h2, upd_ne h2, upd_ne h1, upd_ne h2]
    rw [e]
    exact q d hd
theorem x_mk2 (q : ∀ d, H1 d = none → Q (.ref C) (some d) (upd H1 d (.xd [(g, w), (f, v)]))) : ([v, w] : List V).length ≤ 1000 ∧ ∀ a, H1 a = none → spInit2 C f g (.ref a :: ([v, w] ++ [])) (upd H1 a (exo a C none))
    (fun v H2 => v = .non ∧ ∃ (d : Addr) (fs : List (Str × V)), H2 a = some (exo a C (some d)) ∧ H2 d = some (exd d fs) ∧ H1 d = none ∧ Q (.ref C) (some d) (upd (L2.del H2 a) d (.xd fs))) (fun _ _ _ => False) := by
  refine ⟨by simp, fun a ha => ⟨a, v, w, rfl, upd_same, fun d hd hne => ⟨rfl, d, _, (upd_ne (Ne.symm hne)).trans upd_same, upd_same, ?_, ?_⟩⟩⟩
  · rw [upd_ne hne] at hd
    exact hd
  · rw [upd_ne hne] at hd
    have e : upd (L2.del (upd (upd (upd (upd H1 a (exo a C none)) d (exd d [(f, v)])) a (exo a C (some d))) d (exd d [(g, w), (f, v)])) a) d (.xd [(g, w), (f, v)]) = upd H1 d (.xd [(g, w), (f, v)]) := by
      refine hp_ext fun b => ?_
      by_cases h1 : b = d
      · rw [h1, upd_same, upd_same]
      · rw [upd_ne h1, upd_ne h1]
        by_cases h2 : b = a
        · rw [h2, L2.del_same, ha]
        · rw [L2.del_ne h2, upd_ne h1, upd_ne h2, upd_ne h1, upd_ne h2]
    rw [e]
    exact q d hd
end
end Fw
namespace Fw
open PySem PySem.Spec PyProof.Rows L2
abbrev ceT : List Value := [.type "Exception", .type "BaseException", .type "object"]
abbrev keT : List Value := .type "KeyError" :: .type "LookupError" :: ceT
theorem storeKE : StoreFacts "KeyError" keT "object.__setattr__" "object" := by
  constructor
  case mro => kernel_rfl
  case slot => exact .of (owner := "object") (n := "__setattr__") (by rw [typeLookup_type, builtinLookup_eq_fast]; kernel_rfl) (by decide +kernel) (by decide +kernel) (by decide +kernel) (by first | exact .inl (by decide +kernel) | exact .inr (by decide +kernel)) (by rw [isSubtype_type]; kernel_rfl)
  case entry => exact PySem.F.entry_object_sa
  case kind => decide +kernel
  case split => decide +kernel
  case hasOwner => decide +kernel
  case args => intro a b c; unfold argsOk; kernel_rfl
  case passes => intro self; kernel_rfl
/-- KeyError: its __new__ is LookupError's -/
theorem bs_KeyError : Bs "KeyError" "KeyError" "LookupError.__new__" "KeyError.__init__" keT :=
  ⟨⟨_, _, _, PySem.F.excBase_LookupError, by decide +kernel⟩, by decide +kernel, by decide +kernel, by decide +kernel,
    .of (owner := "KeyError") (n := "__init__") (by rw [typeLookup_type, builtinLookup_eq_fast]; kernel_rfl) (by decide +kernel) (by decide +kernel) (by decide +kernel) (by first | exact .inl (by decide +kernel) | exact .inr (by decide +kernel)) (by rw [isSubtype_type]; kernel_rfl),
    entryFor_alias (id' := "BaseException.__init__") (by rw [fastTable_eq_tree]; kernel_rfl) (by first | rfl | decide +kernel) (by decide +kernel) (by rw [fastTable_eq_tree]; kernel_rfl), by kernel_rfl, by kernel_rfl, by kernel_rfl, by decide +kernel,
    storeKE, by kernel_rfl, by decide +kernel, by decide +kernel, fun K => by kernel_rfl, by decide +kernel, by decide, by decide⟩
theorem bs_LookupError : Bs "LookupError" "LookupError" "LookupError.__new__" "LookupError.__init__" (.type "LookupError" :: ceT) := bs_of PySem.F.excBase_LookupError PySem.F.store_LookupError (by kernel_rfl) (by decide +kernel) (by decide +kernel) (fun K => by kernel_rfl) (by decide +kernel) (by decide) (by decide)
theorem bs_IndexError : Bs "IndexError" "IndexError" "IndexError.__new__" "IndexError.__init__" (.type "IndexError" :: .type "LookupError" :: ceT) := bs_of PySem.F.excBase_IndexError PySem.F.store_IndexError (by kernel_rfl) (by decide +kernel) (by decide +kernel) (fun K => by kernel_rfl) (by decide +kernel) (by decide) (by decide)
theorem bs_RuntimeError : Bs "RuntimeError" "RuntimeError" "RuntimeError.__new__" "RuntimeError.__init__" (.type "RuntimeError" :: ceT) := bs_of PySem.F.excBase_RuntimeError PySem.F.store_RuntimeError (by kernel_rfl) (by decide +kernel) (by decide +kernel) (fun K => by kernel_rfl) (by decide +kernel) (by decide) (by decide)
theorem bs_ArithmeticError : Bs "ArithmeticError" "ArithmeticError" "ArithmeticError.__new__" "ArithmeticError.__init__" (.type "ArithmeticError" :: ceT) := bs_of PySem.F.excBase_ArithmeticError PySem.F.store_ArithmeticError (by kernel_rfl) (by decide +kernel) (by decide +kernel) (fun K => by kernel_rfl) (by decide +kernel) (by decide) (by decide)
theorem bs_OverflowError : Bs "OverflowError" "OverflowError" "OverflowError.__new__" "OverflowError.__init__" (.type "OverflowError" :: .type "ArithmeticError" :: ceT) := bs_of PySem.F.excBase_OverflowError PySem.F.store_OverflowError (by kernel_rfl) (by decide +kernel) (by decide +kernel) (fun K => by kernel_rfl) (by decide +kernel) (by decide) (by decide)
end Fw
namespace Fw
open PySem PySem.Spec PyProof.Rows L2 L2H HotX
/-! ### raise C(..) from e, e the exception that is handled -/
/-- the heap behind «from e» -/
def causeOf (h : Heap) (a x1 : Addr) : Heap := (h.update a (Obj.mapFields (·.setIfInBounds 3 (.ref x1)))).update a (Obj.mapFields (·.setIfInBounds 4 (.bool true)))
theorem causeOf_at {h : Heap} {a x1 : Addr} {oe : Obj} {vs : Array Value} (ha : h.get? a = some oe) (hd : oe.data = .fields vs) :
    (causeOf h a x1).get? a = some ((oe.mapFields (·.setIfInBounds 3 (.ref x1))).mapFields (·.setIfInBounds 4 (.bool true))) ∧ ((oe.mapFields (·.setIfInBounds 3 (.ref x1))).mapFields (·.setIfInBounds 4 (.bool true))).data = .fields ((vs.setIfInBounds 3 (.ref x1)).setIfInBounds 4 (.bool true)) := by
  have d3 := Obj.data_mapFields hd (·.setIfInBounds 3 (Value.ref x1))
  have a3 := Heap.get?_update_self (Obj.mapFields (·.setIfInBounds 3 (Value.ref x1))) ha (Obj.isFreed_of_fields d3)
  have d4 := Obj.data_mapFields d3 (·.setIfInBounds 4 (.bool true))
  exact ⟨Heap.get?_update_self (Obj.mapFields (·.setIfInBounds 4 (.bool true))) a3 (Obj.isFreed_of_fields d4), d4⟩
theorem causeOf_other {h : Heap} {a b x1 : Addr} (hne : a ≠ b) : (causeOf h a x1).get? b = h.get? b := by
  unfold causeOf
  rw [Heap.get?_update_other _ _ hne, Heap.get?_update_other _ _ hne]
theorem raise_from {prog : Program} {w : World} {A : Around} {E : Value → Shared → Prop} {env : Env} {s : Shared} {x c : Sem Value} {Q : Flow → Shared → Prop} {x1 : Addr}
    (h : wpAny (model prog w) A x (fun v s₁ => ∃ a oe vs cls, v = .ref a ∧ s₁.heap.get? a = some oe ∧ oe.cls = cls ∧ oe.data = .fields vs ∧ vs[1]? = some .none ∧ 4 < vs.size ∧ x1 ≠ a ∧ HotAt A x1 s₁.heap ∧
      PySem.W.Looks (model prog w) s₁.heap (isSubtype cls (.type "BaseException")) true ∧ PySem.W.Looks (model prog w) (causeOf s₁.heap a x1) (typeOf cls) (.type "type") ∧ PySem.W.Looks (model prog w) s₁.heap (isInstance (.ref x1) (.type "BaseException")) true ∧
      (∀ Q' : Value → Shared → Prop, Q' (.ref x1) s₁ → wpAny (model prog w) A c Q' E s₁) ∧
      E (.ref a) { s₁ with heap := (causeOf s₁.heap a x1).update a (Obj.mapFields (·.setIfInBounds 2 (.ref x1))) }) E s) :
    wpAny (model prog w) A (raiseStmt env (some x) (some c)) Q E s := by
  unfold raiseStmt
  dsimp only
  refine wpAny_bind (wpAny_mono h (fun v s₁ h₁ => ?_) fun _ _ x => x)
  obtain ⟨a, oe, vs, cls, rfl, ha, hcls, hd, h1, hi, hne, hot, L1, L3, L5, hcs, hE⟩ := h₁
  have ty : PySem.W.Looks (model prog w) s₁.heap (typeOf (.ref a)) cls := fun A Q E s k q => wpAny_typeOf_ref (k _ _ ha) (by rw [hcls]; exact q)
  have isE : PySem.W.Looks (model prog w) s₁.heap (isInstance (.ref a) (.type "BaseException")) true := ty.andThen L1
  have noT : ∀ {s2 : Shared} {b : Addr} {ob : Obj} {ws : Array Value} {Q' : Bool → Shared → Prop}, s2.heap.get? b = some ob → ob.data = .fields ws → Q' false s2 → wpAny (model prog w) A (isType (.ref b)) Q' E s2 := by
    intro s2 b ob ws Q' g dd hq
    simp only [isType, loadHead]
    refine wpAny_bind (wpAny_loadPart g ?_)
    rw [dd]
    exact wpAny_pure hq
  have d3 := Obj.data_mapFields hd (·.setIfInBounds 3 (Value.ref x1))
  have a3 := Heap.get?_update_self (Obj.mapFields (·.setIfInBounds 3 (Value.ref x1))) ha (Obj.isFreed_of_fields d3)
  obtain ⟨a4, d4⟩ := causeOf_at (x1 := x1) ha hd
  have s4 : 4 < (vs.setIfInBounds 3 (Value.ref x1)).size := by rw [set_size]; exact hi
  have s2 : 2 < ((vs.setIfInBounds 3 (Value.ref x1)).setIfInBounds 4 (Value.bool true)).size := by rw [set_size, set_size]; omega
  have h14 : ((vs.setIfInBounds 3 (Value.ref x1)).setIfInBounds 4 (Value.bool true))[1]? = some Value.none := set_other (by decide) (set_other (by decide) h1)
  have cls4 : ((oe.mapFields (·.setIfInBounds 3 (.ref x1))).mapFields (·.setIfInBounds 4 (.bool true))).cls = cls := by rw [Obj.cls_mapFields, Obj.cls_mapFields]; exact hcls
  have ty4 : PySem.W.Looks (model prog w) (causeOf s₁.heap a x1) (typeOf (.ref a)) cls := fun A Q E s k q => wpAny_typeOf_ref (k _ _ a4) (by rw [cls4]; exact q)
  obtain ⟨hh, o1, vs1, g1, dd1, c1⟩ := hot
  have hot4 : HotAt A x1 (causeOf s₁.heap a x1) := ⟨hh, o1, vs1, (causeOf_other (Ne.symm hne)).trans g1, dd1, c1⟩
  have rest : wpAny (model prog w) A (do
      let b ← isType (.ref a)
      if b = true then do
        let e ← holding [.ref a] (raisedFor (.ref a) (.ref a))
        setFlight e none
        raiseNew e
      else do
        let e ← raisedInstance (.ref a)
        setFlight e none
        raiseNew e : Sem Flow) Q E { s₁ with heap := causeOf s₁.heap a x1 } := by
    refine wpAny_bind (noT a4 d4 ?_)
    simp only [Bool.false_eq_true, if_false]
    unfold raisedInstance
    refine wpAny_bind (wpAny_bind (ty4.here (wpAny_bind (L3.here ?_))))
    rw [if_pos (beq_self_eq_true _)]
    refine wpAny_pure ?_
    unfold setFlight
    refine wpAny_bind (wpAny_bind (wpAny_field a4 d4 h14 ?_))
    rw [if_neg (by decide)]
    exact wpAny_pure (raiseNew_hot hot4 hne a4 d4 s2 hE)
  refine wpAny_bind (wpAny_holding (hcs _ (wpAny_bind (wpAny_pure ?_))))
  dsimp only
  refine wpAny_bind (wpAny_holding ?_)
  unfold excFromValue isExcClass
  refine wpAny_bind (wpAny_bind (noT ha hd ?_))
  simp only [Bool.false_eq_true, if_false]
  refine wpAny_pure ?_
  simp only [Bool.false_eq_true, if_false]
  refine wpAny_bind (isE.here ?_)
  simp only [if_true]
  refine wpAny_pure ?_
  rw [if_neg (show ¬ ((Value.ref x1 == Value.none) = true) from by simp)]
  refine wpAny_bind (wpAny_holding ?_)
  refine wpAny_bind (wpAny_bind (noT g1 dd1 ?_))
  simp only [Bool.false_eq_true, if_false]
  refine wpAny_pure ?_
  simp only [Bool.false_eq_true, if_false]
  refine wpAny_bind (L5.here ?_)
  simp only [if_true]
  refine wpAny_pure ?_
  exact wpAny_bind (wpAny_setField ha hd (by omega) (wpAny_bind (wpAny_setField a3 d3 s4 rest)))
theorem ld_own {X : Cx} {E : Value → Shared → Prop} {pins : List (Addr × Obj)} {s : Shared} {σ : L2.St} {H : Hp} {i : Nat} {x : Str} {a : Addr} {pos : Pos} {Q : Value → Shared → Prop} (I : Inv X pins σ H s) (hN : X.N[i]? = some x) (hk : X.env.kindOf x = some .local) (e : σ[i]? = some (some (.ref a)))
    (h : Q (.ref a) s) (hd : (x == ("__debug__" : Str)) = false := by decide) : wpAny (model X.prog X.w) X.A (eval (.Name x pos) X.env) Q E s := by
  obtain ⟨m, hn, hl⟩ := I.loc
  obtain ⟨u, r, l⟩ := hl i x (.ref a) hN e (.inl hk)
  obtain rfl : u = Value.ref a := r
  rcases l with ⟨hk', hm⟩ | ⟨hk', _⟩
  · exact wpAny_Name (wpAny_loadName_local I.ok.kind hk' hn hm h) hd
  · rcases hk' with z | z
    · exact nomatch hk.symm.trans z
    · exact nomatch hk.symm.trans z
/-- raise e from n, n the handled exception's name -/
theorem ps_raiseHF {X : Cx} {W : WX} {e : Expr} {t : L2.St → Hp → XK → Prop} {i : Nat} {n : Str} {np pos : Pos} {p : Addr × Obj} {cls0 : Value} (hot : Hot1 X.A p) (hp : p ∈ X.pn) (hcl : p.2.cls = cls0) (hrs : Raises X cls0) (hN : X.N[i]? = some n) (hk : X.env.kindOf n = some .local) (tk : L2.Takes X W) (he : PMk5 X e t)
    (hd0 : (n == ("__debug__" : Str)) = false := by decide) :
    PS X (.Raise (some e) (some (.Name n np)) pos) (fun _ σ H => σ[i]? = some (some (.ref p.1)) ∧ t σ H fun cls d H' => W cls d σ H') := by
  refine ⟨fun pins s σ H D I h => ?_⟩
  obtain ⟨hσ, h⟩ := h
  obtain ⟨hh, v1, e1, c1⟩ := hot
  show wpAny _ _ (do standAt pos; raiseStmt X.env (some (do let v ← eval e X.env; standAt pos; pure v)) (some (do let v ← eval (.Name n np) X.env; standAt pos; pure v))) _ _ _
  refine wpAny_bind (wpAny_standAt (raise_from (x1 := p.1) (wpAny_bind (wpAny_mono (he pins s σ H _ I h) (fun u s1 hu => wpAny_bind (wpAny_standAt (wpAny_pure ?_))) fun _ _ x => x))))
  obtain ⟨⟨a, oe, vs, sI, H', cls, d, rfl, J, k, hne, ha, hz, hd, h1, na, os, ag, r, q⟩, h5⟩ := hu
  have J1 : Inv X pins σ H' s1 := J.landed (B := sI.heap) (fun _ _ e _ => e) k (Heap.UpToSlots.of_keeps k) os ag
  have k4 : ∀ b u, sI.heap.get? b = some u → (causeOf s1.heap a p.1).get? b = some u := fun b u z => by
    have nab : a ≠ b := fun y => nomatch (y ▸ z : sI.heap.get? a = some u).symm.trans hne
    rw [causeOf_other nab]
    exact k b u z
  obtain ⟨r1, _⟩ := r (model X.prog X.w) s1.heap (J.kIn.keeps k)
  obtain ⟨_, r2⟩ := r (model X.prog X.w) (causeOf s1.heap a p.1) (J.kIn.keeps k4)
  obtain ⟨r3, _⟩ := hrs (model X.prog X.w) s1.heap (J.kIn.keeps k)
  have P1 := (J.pin p (List.mem_append_left _ hp)).1
  have nap : p.1 ≠ a := fun z => nomatch (z ▸ P1 : sI.heap.get? a = some p.2).symm.trans hne
  obtain ⟨ha4, hd4⟩ := causeOf_at (x1 := p.1) ha hd
  have h12 : (((vs.setIfInBounds 3 (Value.ref p.1)).setIfInBounds 4 (Value.bool true)).setIfInBounds 2 (Value.ref p.1))[1]? = some Value.none := set_other (by decide) (set_other (by decide) (set_other (by decide) h1))
  have LT : PySem.W.Looks (model X.prog X.w) s1.heap (typeOf (.ref p.1)) cls0 := fun A Q E s k2 q => wpAny_typeOf_ref (k2 _ _ (k _ _ P1)) (by rw [hcl]; exact q)
  refine ⟨a, oe, vs, cls, rfl, ha, hz.1, hd, h1, h5 a oe vs rfl ha hd, nap, ⟨hh, p.2, v1, k _ _ P1, e1, c1⟩, r1, r2, LT.andThen r3, fun Q' q' => wpAny_bind (ld_own J1 hN hk hσ (wpAny_bind (wpAny_standAt (wpAny_pure q'))) hd0), tk _ _ (XE.new J (fun b u z => ?_) hne (Heap.get?_update_self _ ha4 (Obj.isFreed_of_fields (Obj.data_mapFields hd4 _)))
    ⟨by rw [Obj.cls_mapFields, Obj.cls_mapFields, Obj.cls_mapFields]; exact hz.1, by rw [HandSPX.dict_mapFields, HandSPX.dict_mapFields, HandSPX.dict_mapFields]; exact hz.2.1⟩ (Obj.data_mapFields hd4 _) h12 na os ag q)⟩
  have nab : a ≠ b := fun y => nomatch (y ▸ z : sI.heap.get? a = some u).symm.trans hne
  show ((causeOf s1.heap a p.1).update a (Obj.mapFields (·.setIfInBounds 2 (.ref p.1)))).get? b = some u
  rw [Heap.get?_update_other _ _ nab]
  exact k4 b u z
/-! ### C(..) while an exception is handled -/
theorem pmk5_own {X : Cx} {CX : CXT} {x xB : Str} {e : Expr} {es : List Expr} {ta : TA} {p pos : Pos} {C fI : Addr} {k j : Nat} {fd : FuncData} {ps : List Str} {sp : Sp} {B nI iI : String} {tl : List Value} (F : Bs xB B nI iI tl) (T : Own X.K C nI tl) (iC : PySem.W.findIn X.K (.ref C) "__init__" = some (some (.ref fI)))
    (tI : PySem.W.typeIn X.K (.ref fI) = some (.type "function")) (F1 : FnH X.prog X.w X.K X.mg X.base CX k fI fd ps sp) (hr : RoomH j X.A) (hkj : k + 1 ≤ j) (hc : HotC X) (hb : Binds X.K fd ps []) (hx : Passes CX X (fun _ _ _ => False)) (hg : Gl X x) (hm : X.mg x = some (.ref C)) (ha : PA X (e :: es) ta)
    (hdb : (x == ("__debug__" : Str)) = false := by decide) (he : starEach (e :: es) X.env = (false, eval e X.env) :: starEach es X.env := by rfl) (hpl : (backTo pos (starEach es X.env)).any (·.1) = false := by rfl) :
    PMk5 X (.Call (.Name x p) (e :: es) [] pos) (tMkO C sp [] ta) := by
  intro pins s σ H Q I h
  obtain ⟨pn, hot, hpn⟩ := hc
  refine wpAny_Call_Name_kw (ld_glob I hg hm ?_ hdb)
  refine PySem.W.callWith_K (h₀ := X.base) I.ok.mod.kin T.kp (thn (ha.run pos pins s σ H _ I h) fun us s1 ⟨vs, H1, I1, r1, hz, q1⟩ => ⟨I1.kIn, ?_⟩) he hpl
  show wpAny _ _ (call (.ref C) us) _ _ _
  obtain ⟨nm, N0, q, bs, bm, hd, sn, sub, ab, col, dd, k0, k1, k2, k3, k5, hC, hT⟩ := PySem.W.excInit_of I1.kIn T.inn
  obtain ⟨N, iN, tN, FN, hN⟩ := F.new
  obtain ⟨hp, g, dr, tk, os⟩ := s1
  have hsz : hp.objs.size ≤ hp.objs.size + 1 := Nat.le_succ _
  have hq := q1 (hp.objs.size + 1) (I1.hok.fresh hsz)
  rw [List.append_nil] at hq
  have kk : ∀ b o, hp.get? b = some o → ((hp.push (PySem.W.kdv_tup us)).push (PySem.HandSPX.excO C hp.objs.size)).get? b = some o := fun b o e => Heap.get?_push_of_some _ (Heap.get?_push_of_some _ e)
  have hget : ((hp.push (PySem.W.kdv_tup us)).push (PySem.HandSPX.excO C hp.objs.size)).get? (hp.objs.size + 1) = some (PySem.HandSPX.excO C hp.objs.size) := by heap_get
  have I2 := I1.laid (t' := tk) (a := hp.objs.size + 1) (o := exo (hp.objs.size + 1) C none) kk hsz (exo_ok hget)
  have r2 : Vals (V.ref (hp.objs.size + 1) :: vs) (Value.ref (hp.objs.size + 1) :: us) := .cons rfl r1
  have hl : (Value.ref (hp.objs.size + 1) :: us).length = ps.length := r2.length.symm.trans (F1.len _ _ _ _ hq)
  have hus : us.length ≤ sizeLine := by rw [← Paired.length r1, sizeLine_eq]; omega
  have bd := hb ⟨(hp.push (PySem.W.kdv_tup us)).push (PySem.HandSPX.excO C hp.objs.size), g, dr, tk, os⟩ (Value.ref (hp.objs.size + 1) :: us) I2.kIn (by rw [List.append_nil]; exact hl)
  rw [List.append_nil] at bd
  have P1 := I2.pin pn (List.mem_append_left _ hpn)
  refine wpAny_call (run_cls FN ((hT _).trans hN) ((hT _).trans F.noA) ((hT _).trans F.noN) hC (PySem.W.looks_findIn I1.kIn iC) (fun self => PySem.W.bind_fn I1.kIn self tI) hus
    (codeAny_mono (F1.run _ X.stack _ _ ⟨Value.ref (hp.objs.size + 1) :: us, []⟩ _ _ _ (fun _ _ _ => False) pn (RoomH.make (hr.mono hkj) C us []) ⟨hot.1, hot.2⟩ ⟨P1.1, P1.2.1, fun z => (List.mem_cons.mp (I2.stkSub pn.1 z)).elim P1.2.2.1 P1.2.2.2.1, P1.2.2.2.2⟩ (I2.env0.make C us []) bd r2 hq) fun r s' hq' => ?_))
  cases r with
  | error er => exact hx pins σ _ _ er s' I2 hq'
  | ok fl =>
    cases fl with
    | ret u =>
      obtain ⟨v, H2, os2, bare2, un2, hok2, rv, ev, d, fs, ea, ed, hd1, q2⟩ := hq'
      subst ev
      obtain ⟨h2, g2, d2, t2, os'⟩ := s'
      obtain ⟨t0, G, J, kG, ge, hoe, na⟩ := mk_end0 (d2 := d2) (t2 := t2) I1 hsz kk un2 hok2 os2 bare2 ea ed hd1
      refine ⟨rv, ⟨hp.objs.size + 1, _, _, ⟨G, g2, d2, t2, os'⟩, _, .ref C, some d, rfl, J, kG, ge, hoe, ⟨rfl, rfl, fun vs hv => by cases hv; rfl⟩, rfl, rfl, na, rfl, bare2, raises_own T.sub T.ty, q2⟩, fun a oe vs ea2 hg2 hd2 => ?_⟩
      cases ea2
      cases hoe.symm.trans (show h2.get? (hp.objs.size + 1) = some oe from hg2)
      cases hd2
      show (4 : Nat) < 6
      decide
    | next => exact hq'.elim
    | brk => exact hq'.elim
    | cont => exact hq'.elim
/-- an __init__ called while an exception is handled -/
theorem okSH {P : Program} {w : World} {K : PySem.W.Frag} {mg : Str → Option Value} {base : Heap} {x qual : Str} {st : Stmt} {f : Addr} {fd : FuncData} {N ps : List Str} {k : Nat} {sp : Sp} (F : Fun K x qual st f fd) (S : FnScope N ps (defScope st)) (len : ∀ vs H Q E, sp vs H Q E → vs.length = ps.length)
    (hbody : ∀ (cdv : Value) (A : Around) (outer : List Env) (s : Shared) (H : Hp) (vs : List V) (Q : VK) (E : XK) (p : Addr × Obj), Hot1 A p → RoomH k (A.deeper (envOfC qual (defScope st) s.heap.objs.size f cdv)) → sp vs H Q E →
      ∃ t σ, PSs (cxH CX0 P w K mg base N qual (defScope st) f cdv A outer s H E p) (defBody st) t ∧ L2.start N vs = σ ∧ t { nx := fun _ H' => Q .non H', rt := Q } σ H) : FnH P w K mg base CX0 (k + 1) f fd ps sp := by
  obtain ⟨oc, od, kV, doc, pm, an, cdv, ct, osl, rfl, lk, hcd⟩ := F.ex
  refine fn_ofH lk hcd S len fun A outer s H vs Q E p hot hr hsp => ?_
  obtain ⟨t, σ, h1, rfl, h2⟩ := hbody cdv A outer s H vs Q E p hot hr hsp
  exact ⟨t, h1, h2⟩
end Fw
namespace Fw
open PySem PySem.Spec PyProof.Rows L2
/-! ### promises of defs that are called while no repr is under way -/
section
variable (P : Program) (w : World) (K : PySem.W.Frag) (mg : Str → Option Value) (base : Heap) (CX : CXT)
structure FnG (k : Nat) (f : Addr) (fd : FuncData) (ps : List Str) (sp : Sp) : Prop where
  many : ∀ vs H Q E, sp vs H Q E → vs.length = ps.length
  go : ∀ (A : Around) (up : List Env) (s : Shared) (H : Hp) (ar : Args) (us : List Value) (vs : List V) (Q : VK) (E : XK), Room k A → A.guards = some [] → Env0 P w K mg base A up s H → BindsTo s fd ar (ps.zip us) → Vals vs us → sp vs H Q E →
    codeAny (model P w) A (.call (.ref f) ar) (CR CX up P w H s Q E) s
/-- a def by its name -/
structure Fq (k : Nat) (x : Str) (ps : List Str) (sp : Sp) : Prop where
  ex : ∃ (f : Addr) (fd : FuncData), mg x = some (.ref f) ∧ PySem.W.keepIn K (.ref f) = true ∧ Binds K fd ps [] ∧ FnG P w K mg base CX k f fd ps sp
structure FqN (k : Nat) (x : Str) (n : Nat) (ks : List Str) (gV : List V → List V → List V) (sp : Sp) : Prop where
  ex : ∃ (f : Addr) (fd : FuncData) (ps : List Str) (g : List Value → List Value → List Value), mg x = some (.ref f) ∧ PySem.W.keepIn K (.ref f) = true ∧ KBn K fd ps n ks g gV ∧ FnG P w K mg base CX k f fd ps sp
end
section
variable {P : Program} {w : World} {K : PySem.W.Frag} {mg : Str → Option Value} {base : Heap} {CX : CXT} {k j : Nat} {f : Addr} {fd : FuncData} {ps : List Str} {sp : Sp} {x qual : Str}
theorem FnG.of (F : FnOk P w K mg base CX k f fd ps sp) : FnG P w K mg base CX k f fd ps sp := ⟨F.len, fun A up s H ar us vs Q E r _ => F.run A up s H ar us vs Q E r⟩
theorem FnG.mono (F : FnG P w K mg base CX j f fd ps sp) (h : j ≤ k) : FnG P w K mg base CX k f fd ps sp := ⟨F.many, fun A up s H ar us vs Q E r => F.go A up s H ar us vs Q E (r.mono h)⟩
theorem Fn.q (F : Fn P w K mg base CX k x ps sp) : Fq P w K mg base CX k x ps sp := by
  obtain ⟨f, fd, h1, h2, h3, h4⟩ := F.ex
  exact ⟨f, fd, h1, h2, h3, .of h4⟩
theorem FnN.q {n : Nat} {ks : List Str} {gV : List V → List V → List V} (F : FnN P w K mg base CX k x n ks gV sp) : FqN P w K mg base CX k x n ks gV sp := by
  obtain ⟨f, fd, ps, g, h1, h2, h3, h4⟩ := F.ex
  exact ⟨f, fd, ps, g, h1, h2, h3, .of h4⟩
theorem Fq.mono (F : Fq P w K mg base CX j x ps sp) (h : j ≤ k) : Fq P w K mg base CX k x ps sp := by
  obtain ⟨f, fd, h1, h2, h3, h4⟩ := F.ex
  exact ⟨f, fd, h1, h2, h3, h4.mono h⟩
/-- the body walked -/
theorem okGX {params : Arguments} {body : List Stmt} {sc : Scope} {dvs : List V} {kws : List (Str × V)} {N : List Str} (F : FunD K x qual params body sc dvs kws f fd) (S : FnScope N ps sc) (len : ∀ vs H Q E, sp vs H Q E → vs.length = ps.length)
    (hbody : ∀ (cdv : Value) (A : Around) (outer : List Env) (s : Shared) (H : Hp) (vs : List V) (Q : VK) (E : XK), A.guards = some [] → Room k (A.deeper (envOfC qual sc s.heap.objs.size f cdv)) → sp vs H Q E →
      ∃ t σ, PSs (cxOf CX P w K mg base N qual sc f cdv A outer s H E) body t ∧ L2.start N vs = σ ∧ t { nx := fun _ H' => Q .non H', rt := Q } σ H) : FnG P w K mg base CX (k + 1) f fd ps sp := by
  obtain ⟨oc, od, dV, kV, doc, pm, an, cdv, ct, osl, rfl, lk, hcd, _, _⟩ := F.ex
  refine ⟨len, fun A up s H ar us vs Q E hr hG e0 hb rel hsp => ?_⟩
  have nK : K.In s.heap := e0.mod.kin.keeps fun b u z => (e0.bs b u z).1
  have noL : s.heap.NoLimit := e0.mod.nolimit.keeps fun b u z => (e0.bs b u z).1
  have kinds : ∀ q ∈ ps.zip us, sc.names.lookup q.1 = some .local ∨ (sc.names.lookup q.1 = some .cell ∧ ((cellsFrom (s.heap.objs.size + 1) sc.names []).lookup q.1).isSome = true) := by
    rintro ⟨n, v⟩ hq
    exact (S.par n (List.of_mem_zip hq).1).elim .inl fun z => .inr ⟨z, PySem.W.cellsFrom_some _ _ _ (.inl z)⟩
  refine codeAny_call_function hr.depth (nK _ _ lk) rfl S.co S.gen rfl (PySem.W.codeRec_of nK hcd) (hb _ _ _ _ (wpAny_newFunctionEnv_cells S.kind kinds fun env he s1 nw => ?_))
  subst he
  obtain ⟨t, σ, ht, rfl, hq⟩ := hbody cdv A up s H vs Q E hG (hr.deeper _) hsp
  have I0 : Inv (cxOf CX P w K mg base N qual sc f cdv A up s H E) [] (L2.start N vs) H s1 := inv_start S hr.hd e0 (len _ _ _ _ hsp) rel nw
  refine ⟨noL.keeps nw.toInCall.keep, codeAny_func (wpAny_mono (ht.run [] s1 _ H _ I0 hq) (fun fl s' z => ?_) fun _ _ z => z)⟩
  cases fl with
  | ret u =>
    obtain ⟨v, σ', H', J, rv, q⟩ := z
    exact ⟨v, H', J.os, J.bare, J.base, J.hok, rv, q⟩
  | next =>
    obtain ⟨σ', H', J, q⟩ := z
    exact ⟨.non, H', J.os, J.bare, J.base, J.hok, rfl, q⟩
  | brk =>
    obtain ⟨_, _, _, q⟩ := z
    exact q.elim
  | cont =>
    obtain ⟨_, _, _, q⟩ := z
    exact q.elim
theorem okG {st : Stmt} {dvs : List V} {kws : List (Str × V)} {N : List Str} (F : FunD K x qual (defArgs st) (defBody st) (defScope st) dvs kws f fd) (S : FnScope N ps (defScope st)) (len : ∀ vs H Q E, sp vs H Q E → vs.length = ps.length)
    (hbody : ∀ (cdv : Value) (A : Around) (outer : List Env) (s : Shared) (H : Hp) (vs : List V) (Q : VK) (E : XK), A.guards = some [] → Room k (A.deeper (envOfC qual (defScope st) s.heap.objs.size f cdv)) → sp vs H Q E →
      ∃ t σ, PSs (cxOf CX0 P w K mg base N qual (defScope st) f cdv A outer s H E).nox (defBody st) t ∧ L2.start N vs = σ ∧ t { nx := fun _ H' => Q .non H', rt := Q } σ H) : FnG P w K mg base CX0 (k + 1) f fd ps sp := by
  refine okGX F S len fun cdv A outer s H vs Q E hG hr h => ?_
  obtain ⟨t, σ, h1, h2, h3⟩ := hbody cdv A outer s H vs Q E hG hr h
  exact ⟨t, σ, h1.nox, h2, h3⟩
theorem mkFq {st : Stmt} {kws : List (Str × V)} (F : FunD K x qual (defArgs st) (defBody st) (defScope st) [] kws f fd) (gm : mg x = some (.ref f))
    (h : ∀ (kV doc pm : Value) (an : Option Addr) (cdv ct : Value) (us : List Value), us.length = ps.length → bindArgs (PySem.W.fnOf x qual (defArgs st) (defBody st) (defScope st) .none kV doc pm an cdv ct) ⟨us, []⟩ = pure (ps.zip us))
    (G : FnG P w K mg base CX k f fd ps sp) : Fq P w K mg base CX k x ps sp := ⟨f, fd, gm, F.kp, F.bindsN h, G⟩
end
/-! ### calls -/
section
variable {X : Cx} {CX : CXT} {k j n : Nat} {f : Addr} {fd : FuncData} {ps ks : List Str} {gV : List V → List V → List V} {sp : Sp} {E : XK} {W : WX} {x : Str} {p pos : Pos} {e : Expr} {es : List Expr} {kws : List Keyword} {t tk : TA}
theorem runG {pins : List (Addr × Obj)} {σ : L2.St} {H : Hp} {s : Shared} {Q : VK} {vs : List V} {us : List Value} {ar : Args} (F : FnG X.prog X.w X.K X.mg X.base CX k f fd ps sp) (hG : X.A.guards = some []) (hr : Room j X.A) (hk : k ≤ j)
    (I : Inv X pins σ H s) (hb : BindsTo s fd ar (ps.zip us)) (rel : Vals vs us) (hx : ∀ er s', CX X.stack H s E er s' → X.xe er s') (h : sp vs H Q E) : codeAny (model X.prog X.w) X.A (.call (.ref f) ar) (fun r s' => match r with | .ok (.ret u) => EP X pins σ Q u s' | .ok _ => False | .error er => X.xe er s') s :=
  codeAny_mono (F.go X.A X.stack s H ar us vs Q E (hr.mono hk) hG I.env0 hb rel h) fun r s' z => by
    cases r with
    | error er => exact hx er s' z
    | ok fl =>
      cases fl with
      | ret u => exact I.after z
      | next => exact z.elim
      | brk => exact z.elim
      | cont => exact z.elim
theorem callG {pins : List (Addr × Obj)} {σ : L2.St} {H : Hp} {s : Shared} {Q : VK} {vs : List V} {us : List Value} {ar : Args} (F : FnG X.prog X.w X.K X.mg X.base CX k f fd ps sp) (hG : X.A.guards = some []) (hr : Room j X.A) (hk : k ≤ j)
    (I : Inv X pins σ H s) (hb : BindsTo s fd ar (ps.zip us)) (rel : Vals vs us) (hx : ∀ er s', CX X.stack H s E er s' → X.xe er s') (h : sp vs H Q E) : wpAny (model X.prog X.w) X.A (PySem.call (.ref f) ar.pos ar.kw) (EP X pins σ Q) X.xe s := by
  refine wpAny_call (codeAny_mono (runG F hG hr hk I hb rel hx h) fun r s' z => ?_)
  rcases r with er | (u | _ | _ | _) <;> exact z
theorem pe_fq (hG : X.A.guards = some []) (F : Fq X.prog X.w X.K X.mg X.base CX k x ps sp) (hr : Room j X.A) (hk : k ≤ j) (hg : Gl X x) (hx : Passes CX X E) (ha : PA X (e :: es) t) (hdb : (x == ("__debug__" : Str)) = false := by decide)
    (he : starEach (e :: es) X.env = (false, eval e X.env) :: starEach es X.env := by rfl) (hpl : (backTo pos (starEach es X.env)).any (·.1) = false := by rfl) : PE X (.Call (.Name x p) (e :: es) [] pos) (tCall sp [] E t) := by
  obtain ⟨f, fd, hm, hkp, hb, F⟩ := F.ex
  refine ⟨fun pins s σ H Q I h => wpAny_Call_Name_kw (ld_glob I hg hm ?_ hdb)⟩
  refine PySem.W.callWith_K (h₀ := X.base) I.ok.mod.kin hkp (thn (ha.run pos pins s σ H _ I h) fun us s1 ⟨vs, H1, I1, r, q⟩ => ⟨I1.kIn, ?_⟩) he hpl
  replace q : sp (vs ++ []) H1 Q E := q
  rw [List.append_nil] at q
  have bd := hb s1 us I1.kIn (by rw [List.append_nil]; exact r.length.symm.trans (F.many _ _ _ _ q))
  rw [List.append_nil] at bd
  exact callG (ar := ⟨us, []⟩) F hG hr hk I1 bd r (fun er s' z => hx pins σ H1 s1 er s' I1 z) q
theorem pe_fq0 (hG : X.A.guards = some []) (F : Fq X.prog X.w X.K X.mg X.base CX k x ps sp) (hr : Room j X.A) (hk : k ≤ j) (hg : Gl X x) (hx : Passes CX X E) (hdb : (x == ("__debug__" : Str)) = false := by decide) : PE X (.Call (.Name x p) [] [] pos) (tCall sp [] E tNil) := by
  obtain ⟨f, fd, hm, hkp, hb, F⟩ := F.ex
  refine ⟨fun pins s σ H Q I h => wpAny_Call_Name_kw (ld_glob I hg hm ?_ hdb)⟩
  have bd := hb s [] I.kIn (by have := F.many _ _ _ _ h; simpa using this)
  exact PySem.W.callWith_K0 I.kIn hkp (callG (ar := ⟨[], []⟩) (vs := []) F hG hr hk I bd .nil (fun er s' z => hx pins σ H s er s' I z) h)
theorem pe_fqS (hG : X.A.guards = some []) (tks : Takes X W) (F : Fq X.prog X.w X.K X.mg X.base (L2.CX X.prog X.w) k x ps sp) (hr : Room j X.A) (hk : k ≤ j) (hg : Gl X x) (ha : PA X (e :: es) t) (hdb : (x == ("__debug__" : Str)) = false := by decide)
    (he : starEach (e :: es) X.env = (false, eval e X.env) :: starEach es X.env := by rfl) (hpl : (backTo pos (starEach es X.env)).any (·.1) = false := by rfl) : PE X (.Call (.Name x p) (e :: es) [] pos) (tCallS sp (WE W) t) := by
  obtain ⟨f, fd, hm, hkp, hb, F⟩ := F.ex
  refine ⟨fun pins s σ H Q I h => wpAny_Call_Name_kw (ld_glob I hg hm ?_ hdb)⟩
  refine PySem.W.callWith_K (h₀ := X.base) I.ok.mod.kin hkp (thn (ha.run pos pins s σ H _ I h) fun us s1 ⟨vs, H1, I1, r, q⟩ => ⟨I1.kIn, ?_⟩) he hpl
  have bd := hb s1 us I1.kIn (by rw [List.append_nil]; exact r.length.symm.trans (F.many _ _ _ _ q))
  rw [List.append_nil] at bd
  exact callG (ar := ⟨us, []⟩) F hG hr hk I1 bd r (fun er s' z => passAt tks σ pins H1 s1 er s' I1 z) q
section
variable (hG : X.A.guards = some []) (hr : Room j X.A) (hk : k ≤ j) (hg : Gl X x) (hkw : PK X kws tk)
include hG hr hk hg hkw
theorem pe_fqN (F : FqN X.prog X.w X.K X.mg X.base CX k x n ks gV sp) (hx : Passes CX X E) (ha : PA X (e :: es) t) (hall : (backToKw pos (keywordEach kws X.env)).all (·.1.isSome) = true := by rfl) (hks : (backToKw pos (keywordEach kws X.env)).filterMap (·.1) = ks := by rfl)
    (hdb : (x == ("__debug__" : Str)) = false := by decide) (he : starEach (e :: es) X.env = (false, eval e X.env) :: starEach es X.env := by rfl)
    (hpl : ((backTo pos (starEach (e :: es) X.env)).any (·.1) || (backToKw pos (keywordEach kws X.env)).any (·.1.isNone)) = false := by rfl) :
    PE X (.Call (.Name x p) (e :: es) kws pos) (tCallN n ks.length sp gV E t tk) := by
  obtain ⟨f, fd, ps, g, hm, hkp, hb, F⟩ := F.ex
  refine ⟨fun pins s σ H Q I h => wpAny_Call_Name_kw (ld_glob I hg hm ?_ hdb)⟩
  refine PySem.W.callWith_KW (h₀ := X.base) I.ok.mod.kin hkp hall (thn (ha.run pos pins s σ H _ I h) fun us s1 ⟨vs, H1, I1, r, q⟩ => ?_) hpl he
  refine thn (hkw.run pos pins s1 σ H1 _ I1 q) fun ws s2 ⟨zs, H2, I2, rz, l1, l2, q2⟩ => ⟨I2.kIn, ?_⟩
  rw [hks]
  exact callG (ar := ⟨us, ks.zip ws⟩) F hG hr hk I2 (hb.to s2 us ws I2.kIn (r.length.symm.trans l1) (rz.length.symm.trans l2)) (hb.rel r rz) (fun er s' z => hx pins σ H2 s2 er s' I2 z) q2
theorem pe_fqN0 (F : FqN X.prog X.w X.K X.mg X.base CX k x n ks gV sp) (hx : Passes CX X E) (hall : (backToKw pos (keywordEach kws X.env)).all (·.1.isSome) = true := by rfl) (hks : (backToKw pos (keywordEach kws X.env)).filterMap (·.1) = ks := by rfl)
    (hdb : (x == ("__debug__" : Str)) = false := by decide)
    (hpl : ((backTo pos (starEach [] X.env)).any (·.1) || (backToKw pos (keywordEach kws X.env)).any (·.1.isNone)) = false := by rfl) :
    PE X (.Call (.Name x p) [] kws pos) (tCallN n ks.length sp gV E tNil tk) := by
  obtain ⟨f, fd, ps, g, hm, hkp, hb, F⟩ := F.ex
  refine ⟨fun pins s σ H Q I h => wpAny_Call_Name_kw (ld_glob I hg hm ?_ hdb)⟩
  refine PySem.W.callWith_KW0 (h₀ := X.base) I.ok.mod.kin hkp hall ?_ hpl
  refine thn (hkw.run pos pins s σ H _ I h) fun ws s2 ⟨zs, H2, I2, rz, l1, l2, q2⟩ => ⟨I2.kIn, ?_⟩
  rw [hks]
  exact callG (ar := ⟨[], ks.zip ws⟩) F hG hr hk I2 (hb.to s2 [] ws I2.kIn l1 (rz.length.symm.trans l2)) (hb.rel .nil rz) (fun er s' z => hx pins σ H2 s2 er s' I2 z) q2
theorem pe_fqNS (F : FqN X.prog X.w X.K X.mg X.base (L2.CX X.prog X.w) k x n ks gV sp) (tks : Takes X W) (ha : PA X (e :: es) t) (hall : (backToKw pos (keywordEach kws X.env)).all (·.1.isSome) = true := by rfl) (hks : (backToKw pos (keywordEach kws X.env)).filterMap (·.1) = ks := by rfl)
    (hdb : (x == ("__debug__" : Str)) = false := by decide) (he : starEach (e :: es) X.env = (false, eval e X.env) :: starEach es X.env := by rfl)
    (hpl : ((backTo pos (starEach (e :: es) X.env)).any (·.1) || (backToKw pos (keywordEach kws X.env)).any (·.1.isNone)) = false := by rfl) :
    PE X (.Call (.Name x p) (e :: es) kws pos) (tCallNS n ks.length sp gV W t tk) := by
  obtain ⟨f, fd, ps, g, hm, hkp, hb, F⟩ := F.ex
  refine ⟨fun pins s σ H Q I h => wpAny_Call_Name_kw (ld_glob I hg hm ?_ hdb)⟩
  refine PySem.W.callWith_KW (h₀ := X.base) I.ok.mod.kin hkp hall (thn (ha.run pos pins s σ H _ I h) fun us s1 ⟨vs, H1, I1, r, q⟩ => ?_) hpl he
  refine thn (hkw.run pos pins s1 σ H1 _ I1 q) fun ws s2 ⟨zs, H2, I2, rz, l1, l2, q2⟩ => ⟨I2.kIn, ?_⟩
  rw [hks]
  exact callG (ar := ⟨us, ks.zip ws⟩) F hG hr hk I2 (hb.to s2 us ws I2.kIn (r.length.symm.trans l1) (rz.length.symm.trans l2)) (hb.rel r rz) (fun er s' z => passAt tks σ pins H2 s2 er s' I2 z) q2
end
end
end Fw
namespace Fw
open PySem PySem.Spec PyProof.Rows L2
/-! ### the law called, no repr being under way -/
section
variable {P : Program} {w : World} {K : PySem.W.Frag} {mg mb : Str → Option Value} {k : Nat} {fa a : Addr} {fd : FuncData} {x : Str} {sp : Sp} {s : Shared} {vs : List Value} {ns : List Int}
abbrev Fine (s : Shared) (r : Result) (s' : Shared) : Prop := r = .ok (.ret (.bool true)) ∧ OldK s.heap s'.heap ∧ s'.os = s.os ∧ AllBare s'.gens
/-- over an abstract heap that tracks the script at most -/
theorem law_over {H : Hp} (KX : K.In s.heap) (g1 : s.heap.Ns mainGlobals mg) (g2 : s.heap.Ns builtinsNs mb) (g3 : ∀ x : Str, x ≠ "__name__" → mb x = bootBuiltins x) (g4 : s.heap.NoLimit) (g5 : s.gens = #[])
    (hr : Room k callerA) (F : ∀ base : Heap, K.In base → base.Ns mainGlobals mg → FnG P w K mg base CX0 k fa fd [x] sp) (bd : ∀ (s : Shared) (u : Value), BindsTo s fd ⟨[u], []⟩ [(x, u)])
    (hO : Only H) (hok : HOk P w H s.heap) (dicts : ∀ b o es ep, s.heap.get? b = some o → o.data = .dict es ep → H b = none) (own : ∀ b o, K.lookup b = some o → H b = none)
    (hsp : sp [.ref a] H (fun v _ => v = .bl true) fun _ _ _ => False) : codeAny (model P w) callerA (.call (.ref fa) ⟨[.ref a], []⟩) (Fine s) s := by
  have nsB : ∀ {b : Addr} {m : Str → Option Value}, s.heap.Ns b m → (hidT s.heap H).Ns b m := by
    rintro b m ⟨o, es, ep, h1, h2, h3⟩
    exact ⟨o, es, ep, hidT_get h1 (dicts b o es ep h1 h2), h2, h3⟩
  have kB : K.In (hidT s.heap H) := fun b o z => hidT_get (KX b o z) (own b o z)
  obtain ⟨mc, l1, l2⟩ := g4
  have e0 : Env0 P w K mg (hidT s.heap H) callerA [] s H := ⟨rfl, ⟨kB, nsB g1, ⟨mb, nsB g2, g3⟩, ⟨mc, nsB l1, l2⟩⟩, fun _ _ z => of_hidT z, Nat.le_of_eq (hidT_size _ _), trivial, (fun _ z => nomatch z), hok, .of_eq g5⟩
  refine codeAny_mono ((F _ kB (nsB g1)).go callerA [] s H ⟨[.ref a], []⟩ [.ref a] [.ref a] _ _ hr rfl e0 (bd s _) (.cons rfl .nil) hsp) fun r s' z => ?_
  cases r with
  | error er => exact z.elim
  | ok fl =>
    cases fl with
    | next => exact z.elim
    | brk => exact z.elim
    | cont => exact z.elim
    | ret u =>
      obtain ⟨v, H', os, bare, un, hok', rv, rfl⟩ := z
      obtain rfl : u = Value.bool true := rv
      refine ⟨rfl, OldK.of_keep fun b o e => ?_, os, bare⟩
      rcases hO b with n | ⟨ob, xs, n⟩
      · exact un.keep b o e n (fun z => nomatch z) (fun z => nomatch z)
      · have q1 := (hok b _ n).1
        have q2 := (hok' b _ (un.frzs b ob _ n)).1
        rw [e] at q1
        cases q1
        exact q2
theorem law_callG (KX : K.In s.heap) (g1 : s.heap.Ns mainGlobals mg) (g2 : s.heap.Ns builtinsNs mb) (g3 : ∀ x : Str, x ≠ "__name__" → mb x = bootBuiltins x) (g4 : s.heap.NoLimit) (g5 : s.gens = #[])
    (ha : s.heap.get? a = some { cls := .type "list", data := .seq vs.toArray }) (hi : IntsAre vs ns) (hl : ns.length ≤ sizeLine) (hr : Room k callerA)
    (F : ∀ base : Heap, K.In base → base.Ns mainGlobals mg → FnG P w K mg base CX0 k fa fd [x] sp) (bd : ∀ (s : Shared) (u : Value), BindsTo s fd ⟨[u], []⟩ [(x, u)])
    (hsp : ∀ H : Hp, Only H → SqL K H a (ns.map V.int) → sp [.ref a] H (fun v _ => v = .bl true) fun _ _ _ => False) : codeAny (model P w) callerA (.call (.ref fa) ⟨[.ref a], []⟩) (Fine s) s := by
  have rv := vals_ints hi
  cases hk : K.lookup a with
  | some o =>
    have z := (KX a o hk).symm.trans ha
    cases z
    have hO : Only (fun _ => none) := fun _ => .inl rfl
    refine law_over (H := fun _ => none) KX g1 g2 g3 g4 g5 hr F bd hO (fun b u z => nomatch z) (fun _ _ _ _ _ _ => rfl) (fun _ _ _ => rfl) (hsp _ hO (.inr ⟨_, vs.toArray, _, hk, rfl, rfl, rfl, ?_, by simpa using rv⟩))
    rw [List.size_toArray, hi.length]
    exact hl
  | none =>
    let u0 : HO := .frz { cls := .type "list", data := .seq vs.toArray } (.lst (ns.map V.int))
    have hO : Only (fun b => if b = a then some u0 else none) := fun b => by
      by_cases q : b = a
      · exact .inr ⟨_, _, if_pos q⟩
      · exact .inl (if_neg q)
    refine law_over (H := fun b => if b = a then some u0 else none) KX g1 g2 g3 g4 g5 hr F bd hO (fun b u z => ?_) (fun b o es ep e d => ?_) (fun b o e => ?_) (hsp _ hO (.inl (.inr ⟨_, if_pos rfl⟩)))
    · by_cases q : b = a
      · subst q
        cases (if_pos rfl).symm.trans z
        exact ⟨ha, by rw [List.length_map]; exact hl, vs, _, rv, ha⟩
      · cases (if_neg q).symm.trans z
    · by_cases q : b = a
      · subst q
        rw [ha] at e
        cases e
        exact nomatch (show Data.seq vs.toArray _ = Data.dict es ep from d)
      · exact if_neg q
    · by_cases q : b = a
      · rw [q, hk] at e
        cases e
      · exact if_neg q
end
theorem walk_ofG {l : PySem.W.OpenLaw} {n k : Nat} {q : Program} {loose : List Str} {XP : (Str → Option Value) → Heap → Prop} {YP : World → Heap → Prop} {d : DefRec} {x : Str} (h1 : l.most = some n) (h2 : n ≤ sizeLine) (h3 : d.params.defaults = []) (hr : Room k callerA)
    (F : ∀ (w : World) (mg : Str → Option Value) (fa : Addr) (h : Heap), YP w h → h.Ns mainGlobals mg → mg d.name = some (.ref fa) → ∃ (K : PySem.W.Frag) (fd : FuncData) (sp : Sp), K.In h ∧ (∀ (s : Shared) (u : Value), BindsTo s fd ⟨[u], []⟩ [(x, u)]) ∧
        (∀ (H : Hp) (a : Addr) (ns : List Int), ns.length ≤ n → Only H → SqL K H a (ns.map V.int) → sp [.ref a] H (fun v _ => v = .bl true) fun _ _ _ => False) ∧ ∀ base : Heap, K.In base → base.Ns mainGlobals mg → FnG l.prog w K mg base CX0 k fa fd [x] sp) :
    PySem.W.WalkO q loose XP YP l.row.toRowW d [] (fun f vs => PySem.call f vs) := by
  refine Att.attach_call h1 h3 fun w s0 s1 mg mb fa o pm cd doc a vs ns G Y ho hd hcd hmg hobj hints hlen hg => ?_
  obtain ⟨K, fd, sp, KX, hb, hsp, hF⟩ := F w mg fa _ Y G.T.g hmg
  exact law_callG KX G.T.g G.T.b G.T.builtins G.T.nolimit hg hobj hints (Nat.le_trans hlen h2) hr hF hb fun H hO hS => hsp H a ns hlen hO hS
/-! ### repr of data -/
mutual
theorem Dp.noDict {K : PySem.W.Frag} {H : Hp} : ∀ {d : PyData} {v : V}, Dp K H v d → d.hasDict = false
  | _, _, .non => by simp only [PyData.hasDict]
  | _, _, .bl _ => by simp only [PyData.hasDict]
  | _, _, .int _ => by simp only [PyData.hasDict]
  | _, _, .str _ => by simp only [PyData.hasDict]
  | _, _, .lst _ r => by simp only [PyData.hasDict]; exact DpAll.noDict r
  | _, _, .tup _ r => by simp only [PyData.hasDict]; exact DpAll.noDict r
theorem DpAll.noDict {K : PySem.W.Frag} {H : Hp} : ∀ {ds : List PyData} {vs : List V}, DpAll K H vs ds → PyData.hasDictAll ds = false
  | _, _, .nil => by simp only [PyData.hasDictAll]
  | _, _, .cons a b => by simp only [PyData.hasDictAll, Dp.noDict a, DpAll.noDict b, Bool.or_self]
end
def rRepr (K : PySem.W.Frag) : List V → Hp → VK → Prop := fun xs H Q => ∃ x d, xs = [x] ∧ Dp K H x d ∧ d.showable = true ∧ d.depth ≤ 150 ∧ d.shown.length ≤ sizeLine ∧ Q (.str d.shown) H
theorem call_reprU {X : Cx} {K : PySem.W.Frag} {k : Nat} (hG : X.A.guards = some []) (hr : Room k X.A) (hK : X.K = K := by rfl) : CallR X (.builtin "repr") (rRepr K) := by
  subst hK
  intro pins s σ H xs us Q I r h
  obtain ⟨x, d, rfl, hd, hs, hdp, hz, q⟩ := h
  obtain ⟨u, rfl, ru⟩ := vals1 r
  obtain ⟨as, rd⟩ := Dp.reads I d x u hd ru
  have nd := Dp.noDict hd
  have un := hr.un
  cases hd with
  | non => cases (show u = Value.none from ru); exact PySem.P.repr_of_none ⟨.str _, H, I.tok _, ⟨_, rfl⟩, by simpa only [PyData.shown] using q⟩
  | bl b => cases (show u = Value.bool b from ru); exact PySem.P.repr_of_bool ⟨.str _, H, I.tok _, ⟨_, rfl⟩, by simpa only [PyData.shown] using q⟩
  | int i =>
    obtain ⟨t, rfl⟩ := (show ∃ t, u = Value.int i t from ru)
    exact PySem.P.repr_of_int (by simpa [PyData.showable] using hs) ⟨.str _, H, I.tok _, ⟨_, rfl⟩, by simpa only [PyData.shown] using q⟩
  | str z =>
    obtain ⟨t, rfl⟩ := (show ∃ t, u = Value.str z t from ru)
    exact PySem.P.repr_of_str ⟨.str _, H, I.tok _, ⟨_, rfl⟩, by simpa only [PyData.shown] using q⟩ (by simpa only [PyData.shown] using hz)
  | @lst a xs ds _ _ =>
    cases (show u = Value.ref a from ru)
    exact repr_of_reads' rd hs (fun z => by rw [nd] at z; cases z) hG (by omega) (fun _ _ z => z) (fun h' t tk kp => ⟨.str _, H, I.kept (t' := tk) kp, ⟨_, rfl⟩, q⟩) hz
  | @tup a xs ds _ _ =>
    cases (show u = Value.ref a from ru)
    exact repr_of_reads' rd hs (fun z => by rw [nd] at z; cases z) hG (by omega) (fun _ _ z => z) (fun h' t tk kp => ⟨.str _, H, I.kept (t' := tk) kp, ⟨_, rfl⟩, q⟩) hz
end Fw
namespace Fw
open PySem PySem.Spec PyProof.Rows L2
/-! ### how long repr of data is -/
theorem textFrom_most : ∀ (ts : List Str) (k : Nat) (acc : Str), (textFrom k acc ts).length ≤ acc.length + piled ts
  | [], k, acc => by rw [textFrom, piled_nil]; omega
  | t :: r, k, acc => by
    have h := textFrom_most r (k + 1) (acc ++ (if k > 0 then ", " else "" : String) ++ t)
    have e : (acc ++ (if k > 0 then ", " else "" : String) ++ t).length ≤ acc.length + 2 + t.length := by
      rw [strLen_append, strLen_append]
      have : (Str.ofString (if k > 0 then ", " else "")).length ≤ 2 := by split <;> decide
      omega
    rw [textFrom, piled_cons]
    omega
theorem listText_most (ts : List Str) : (listText ts).length ≤ piled ts + 2 := by
  have h := textFrom_most ts 0 "["
  unfold listText
  rw [strLen_append]
  have e1 : (Str.ofString "[").length = 1 := by decide
  have e2 : (Str.ofString "]").length = 1 := by decide
  omega
theorem tupleText_most (ts : List Str) : (tupleText ts).length ≤ piled ts + 3 := by
  unfold tupleText
  rw [strLen_append, strLen_append]
  have e1 : (Str.ofString "(").length = 1 := by decide
  have e2 : (Str.ofString (if (ts.length == 1) = true then ",)" else ")")).length ≤ 2 := by split <;> decide
  have e3 : (Str.join ", " ts).length ≤ piled ts := by
    cases ts with
    | nil => decide
    | cons t r =>
      have := join_length_add (t :: r) (by simp)
      omega
  omega
mutual
/-- numbers of at most 60 figures, texts of plain signs -/
def plain : PyData → Bool
  | .none => true
  | .bool _ => true
  | .int i => decide (i.natAbs < 10 ^ 60)
  | .str x => x.cps.toList.all fun c => decide (c < 128)
  | .list xs => plains xs
  | .tuple xs => plains xs
  | .dict _ => false
def plains : List PyData → Bool
  | [] => true
  | x :: xs => plain x && plains xs
end
mutual
/-- as many signs as repr of d has at most -/
def bulk : PyData → Nat
  | .none => 6
  | .bool _ => 6
  | .int _ => 62
  | .str x => 10 * x.length + 2
  | .list xs => 3 + bulks xs
  | .tuple xs => 3 + bulks xs
  | .dict _ => 0
def bulks : List PyData → Nat
  | [] => 0
  | x :: xs => bulk x + 2 + bulks xs
end
theorem log_of {n : Nat} (h : n < 10 ^ 60) : n.log2 < 1920 := by
  by_cases z : n = 0
  · subst z; decide
  · refine (Nat.log2_lt z).mpr (Nat.lt_of_lt_of_le h ?_)
    exact Nat.le_of_ble_eq_true (by decide +kernel)
mutual
theorem plain_shown : ∀ {d : PyData}, plain d = true → d.showable = true ∧ d.shown.length ≤ bulk d
  | .none, _ => ⟨by simp only [PyData.showable], by simp only [PyData.shown, bulk]; decide⟩
  | .bool b, _ => ⟨by simp only [PyData.showable], by simp only [PyData.shown, bulk]; cases b <;> decide⟩
  | .int i, h => by
    have h1 : i.natAbs < 10 ^ 60 := by simpa [plain] using h
    refine ⟨by simpa [PyData.showable] using log_of h1, ?_⟩
    have := int_text_length_le10 (k := 60) (by decide) h1
    simp only [PyData.shown, bulk]
    show (Str.ofString (toString i)).length ≤ _
    rw [PySem.ofString_length]
    omega
  | .str x, h => by
    refine ⟨by simp only [PyData.showable], ?_⟩
    simp only [PyData.shown, bulk]
    refine StrLaws.reprText_len x fun c hc => ?_
    have h1 := List.all_eq_true.mp (by simpa only [plain] using h) c hc
    have h2 : c < 128 := by simpa using h1
    exact Nat.lt_of_lt_of_le h2 (by decide)
  | .list xs, h => by
    obtain ⟨h1, h2⟩ := plains_shown (ds := xs) (by simpa only [plain] using h)
    refine ⟨by simpa only [PyData.showable] using h1, ?_⟩
    simp only [PyData.shown, bulk]
    have := listText_most (PyData.shownAll xs)
    omega
  | .tuple xs, h => by
    obtain ⟨h1, h2⟩ := plains_shown (ds := xs) (by simpa only [plain] using h)
    refine ⟨by simpa only [PyData.showable] using h1, ?_⟩
    simp only [PyData.shown, bulk]
    have := tupleText_most (PyData.shownAll xs)
    omega
  | .dict _, h => by simp [plain] at h
theorem plains_shown : ∀ {ds : List PyData}, plains ds = true → PyData.showableAll ds = true ∧ piled (PyData.shownAll ds) ≤ bulks ds
  | [], _ => ⟨by simp only [PyData.showableAll], by simp only [PyData.shownAll, piled_nil]; omega⟩
  | d :: ds, h => by
    have h' : plain d = true ∧ plains ds = true := by simpa [plains] using h
    obtain ⟨a1, a2⟩ := plain_shown h'.1
    obtain ⟨b1, b2⟩ := plains_shown h'.2
    refine ⟨by simp only [PyData.showableAll, a1, b1, Bool.and_self], ?_⟩
    simp only [PyData.shownAll, piled_cons, bulks]
    omega
end
theorem plains_append : ∀ (ds es : List PyData), plains (ds ++ es) = (plains ds && plains es)
  | [], es => by simp [plains]
  | d :: ds, es => by simp [plains, plains_append ds es, Bool.and_assoc]
theorem bulks_append : ∀ (ds es : List PyData), bulks (ds ++ es) = bulks ds + bulks es
  | [], es => by simp [bulks]
  | d :: ds, es => by simp [bulks, bulks_append ds es]; omega
theorem depthAll_append : ∀ (ds es : List PyData), PyData.depthAll (ds ++ es) = max (PyData.depthAll ds) (PyData.depthAll es)
  | [], es => by simp [PyData.depthAll]
  | d :: ds, es => by simp [PyData.depthAll, depthAll_append ds es, Nat.max_assoc]
section
variable {K : PySem.W.Frag} {H : Hp} {Q : VK} {v : V} {d : PyData}
theorem x_repr (h : Dd K H v d) (hp : plain d = true) (hd : d.depth ≤ 150) (hb : bulk d ≤ 10000000) (q : Q (.str d.shown) H) : rRepr K [v] H Q :=
  ⟨v, d, rfl, h.dp, (plain_shown hp).1, hd, Nat.le_trans (plain_shown hp).2 (Nat.le_trans hb (by rw [sizeLine_eq]; decide)), q⟩
theorem x_reprB {b : Bool} (q : Q (.str (if b then "True" else "False")) H) : rRepr K [.bl b] H Q :=
  x_repr (.bl b) rfl (by simp [PyData.depth]) (by simp [bulk]) (by simpa only [PyData.shown] using q)
theorem x_reprI {i : Int} (h : i.natAbs < 10 ^ 60) (q : Q (.str (toString i : String)) H) : rRepr K [.int i] H Q :=
  x_repr (.int i) (by simpa [plain] using h) (by simp [PyData.depth]) (by simp [bulk]) (by simpa only [PyData.shown] using q)
/-! ### the type of data -/
def tyN : PyData → String
  | .none => "NoneType"
  | .bool _ => "bool"
  | .int _ => "int"
  | .str _ => "str"
  | .list _ => "list"
  | .tuple _ => "tuple"
  | .dict _ => "dict"
theorem TyX.sqT {a : Addr} {xs : List V} (h : SqT K H a xs) : TyX K H (.ref a) (.type "tuple") := by
  rcases h with (h | ⟨o, h⟩) | ⟨o, its, n, h1, h2, _⟩
  · exact .base (.tup h)
  · exact .fTuple h
  · exact .kTuple h1 h2
theorem Dd.ty (h : Dd K H v d) : TyX K H v (.type (tyN d)) := by
  cases h with
  | non => exact .base .non
  | bl b => exact .base (.bl b)
  | int i => exact .base (.int i)
  | str z => exact .base (.str z)
  | lst h _ => exact .base (.lst h)
  | tup h _ => exact TyX.sqT h
theorem x_isiD {n : String} {b : Bool} (h : Dd K H v d) (e : kitB (tyN d) n = some b) (q : Q (.bl b) H) : uIsi K [v, .ty n] H Q := x_isi h.ty e q
theorem x_isiQ {n : String} {a : Addr} {xs : List V} {b : Bool} (h : SqT K H a xs) (e : kitB "tuple" n = some b) (q : Q (.bl b) H) : uIsi K [.ref a, .ty n] H Q := x_isi (TyX.sqT h) e q
theorem x_isiDT {t : Addr} {cs : List V} {us : List Value} {b : Bool} (h : Dd K H v d) (hT : H t = some (.tup cs)) (k : Paired ClsV cs us) (e : PySem.W.kitAny K (.type (tyN d)) us = some b) (q : Q (.bl b) H) : uIsi K [v, .ref t] H Q :=
  .inr ⟨v, t, cs, _, us, b, rfl, hT, k, h.ty, e, q⟩
end
/-! ### data that a call made -/
section
variable {K : PySem.W.Frag} {H0 H H' : Hp} {Ms M0 : List Addr} {L : List (Addr × HO)} {R : List Fa} {b : Addr} {o o' : HO} {v : V} {d : PyData} {vs : List V} {ds : List PyData}
theorem av_set {n : Nat} (hL : L[n]? = some (b, o)) : av (L.set n (b, o')) M0 = av L M0 := by
  have hm : (L.set n (b, o')).map (·.1) = L.map (·.1) := by
    rw [List.map_set]
    apply List.ext_getElem?
    intro i
    rw [List.getElem?_set]
    split
    · rename_i e
      subst e
      rw [List.getElem?_map, hL]
      split
      · rfl
      · rename_i h; exact absurd (by rw [List.length_map]; exact (List.getElem?_eq_some_iff.mp hL).1) h
    · rfl
  unfold av
  rw [hm]
theorem W.callD (w : W K H0 Ms M0 H L R) (n : Nat) (hL : L[n]? = some (b, o)) (e : Ex [b] H H') (h' : H' b = some o') (hd : Rp K (av L M0) H' v d) : W K H0 Ms M0 H' (L.set n (b, o')) (.rp v d :: R) :=
  (w.call n hL e h').add (by rw [av_set hL]; exact hd)
theorem W.more (w : W K H0 Ms M0 H L (.rp v d :: .al vs ds :: R)) : W K H0 Ms M0 H L (.al (vs ++ [v]) (ds ++ [d]) :: R) := by
  have h := (w.all 1 rfl).append (.cons (w.rp 0 rfl) .nil)
  exact ⟨w.ex, w.al, w.nd, w.cell, w.own, fun r hr => by
    rcases List.mem_cons.mp hr with rfl | hr
    · exact h
    · exact w.rep r (List.mem_cons_of_mem _ (List.mem_cons_of_mem _ hr))⟩
theorem w_tupleD {Q : VK} {p : Addr} (hw : W K H0 Ms M0 H L R) (h : Rp K (av L M0) H (.ref p) (.list ds)) (q : ∀ p H', H p = none → W K H0 Ms M0 H' L (.rp (.ref p) (.tuple ds) :: R) → Q (.ref p) H') : uTuple K [.ref p] H Q := by
  obtain ⟨xs, hx, rx⟩ := Rp.unL h
  exact ⟨p, xs, rfl, .inl ⟨SqL.of hx, fun l hl => q l _ hl (hw.newTup hl rx)⟩⟩
theorem w_listD {Q : VK} {p : Addr} (hw : W K H0 Ms M0 H L R) (h : Rp K (av L M0) H (.ref p) (.tuple ds)) (q : ∀ p H', H p = none → W K H0 Ms M0 H' L (.rp (.ref p) (.list ds) :: R) → Q (.ref p) H') : uList K [.ref p] H Q := by
  obtain ⟨xs, hx, rx⟩ := Rp.unT h
  exact ⟨p, xs, rfl, .inr hx, fun l hl => q l _ hl (hw.newLst hl rx)⟩
theorem x_ixDL {Q : VK} {p : Addr} {m : Int} (h : Rp K M0 H (.ref p) (.list ds)) (h0 : 0 ≤ m) (h1 : m < ds.length) (k : ∀ v d, ds[m.toNat]? = some d → Rp K M0 H v d → Q v H) : uIx K (.ref p) (.int m) H Q := by
  obtain ⟨xs, hx, hl, hw⟩ := Rp.walk h
  have hm : m.toNat < xs.length := by omega
  obtain ⟨d, h2, h3⟩ := hw m.toNat _ (List.getElem?_eq_getElem hm)
  exact x_ixL (SqL.of hx) (at_get h0 (by omega)) (k _ d h2 h3)
theorem x_ixDT {Q : VK} {p : Addr} {m : Int} (h : Rp K M0 H (.ref p) (.tuple ds)) (h0 : 0 ≤ m) (h1 : m < ds.length) (k : ∀ v d, ds[m.toNat]? = some d → Rp K M0 H v d → Q v H) : uIx K (.ref p) (.int m) H Q := by
  obtain ⟨xs, hx, hl, hw⟩ := Rp.walkT h
  have hm : m.toNat < xs.length := by omega
  obtain ⟨d, h2, h3⟩ := hw m.toNat _ (List.getElem?_eq_getElem hm)
  exact x_ixT hx (at_get h0 (by omega)) (k _ d h2 h3)
theorem W.addA (w : W K H0 Ms M0 H L R) (h : RpAll K (av L M0) H vs ds) : W K H0 Ms M0 H L (.al vs ds :: R) := w.addF (r := .al vs ds) h
end
/-! ### a written dict's keys -/
def keyOf (e : DictEntry) : Option Str := match e.key with
  | .str x _ => some x
  | _ => none
def dkeys (K : PySem.W.Frag) (a : Addr) : Option (List Str) := match K.lookup a with
  | some ⟨_, _, .dict es _, _⟩ => es.toList.mapM keyOf
  | _ => none
theorem find_keys (z : Str) : ∀ {es : List DictEntry} {ks : List Str}, es.mapM keyOf = some ks → (es.find? (·.key.isStr z)).isSome = decide (z ∈ ks) ∧ es.any (·.refKey) = false
  | [], ks, h => by
    have : ks = [] := by simpa using h.symm
    subst this
    simp
  | e :: es, ks, h => by
    simp only [List.mapM_cons] at h
    cases hk : keyOf e with
    | none => rw [hk] at h; cases h
    | some x =>
      cases hr : es.mapM keyOf with
      | none => rw [hk, hr] at h; cases h
      | some r =>
        rw [hk, hr] at h
        have e1 : ks = x :: r := (Option.some.inj h).symm
        subst e1
        obtain ⟨i1, i2⟩ := find_keys z hr
        obtain ⟨hash, key, val⟩ := e
        unfold keyOf at hk
        cases key with
        | str y t =>
          cases (Option.some.inj hk)
          refine ⟨?_, ?_⟩
          · rw [List.find?_cons]
            show (match (x == z) with | true => _ | false => _ : Option DictEntry).isSome = _
            by_cases q : x = z
            · subst q; simp
            · rw [show (x == z) = false from by simpa using q]
              show (es.find? (·.key.isStr z)).isSome = _
              rw [i1]
              have q' : ¬ z = x := fun w => q w.symm
              simp [q']
          · rw [List.any_cons, i2]; rfl
        | _ => cases hk
theorem ns_keys {K : PySem.W.Frag} {a : Addr} {ks : List Str} (h : dkeys K a = some ks) (z : Str) : ∃ r, PySem.W.nsIn K a z = some r ∧ r.isSome = decide (z ∈ ks) := by
  unfold dkeys at h
  unfold PySem.W.nsIn
  split at h
  · rename_i c d es n sl hl
    obtain ⟨h1, h2⟩ := find_keys z h
    rw [hl]
    simp only
    cases hf : es.toList.find? (·.key.isStr z) with
    | some e => exact ⟨_, rfl, by rw [← h1, hf]; rfl⟩
    | none =>
      simp only
      rw [h2]
      exact ⟨none, by simp, by rw [← h1, hf]; rfl⟩
  · cases h
def rInK (K : PySem.W.Frag) (w : World) : R2 := fun x y H Q => ∃ (d : Addr) (es : Array DictEntry) (n : Nat) (z : Str) (r : Option Value), KDict K w d es n ∧ x = .str z ∧ y = .ref d ∧ PySem.W.nsIn K d z = some r ∧ Q (.bl r.isSome) H
theorem op_inK {X : Cx} {K : PySem.W.Frag} {w : World} (hK : X.K = K := by rfl) (hw : X.w = w := by rfl) : OpR X (compareOp .In) (rInK K w) := by
  subst hK hw
  intro pins s σ H x y v u Q I rx ry h
  obtain ⟨d, es, n, z, r, D, h1, h2, h3, q⟩ := h
  exact op_in_kd D pins s σ H x y v u Q I rx ry ⟨z, r, h1, h2, h3, q⟩
theorem x_inK {K : PySem.W.Frag} {w : World} {H : Hp} {Q : VK} {d : Addr} {es : Array DictEntry} {n : Nat} {ks : List Str} {z : Str} (D : KDict K w d es n) (h : dkeys K d = some ks) (q : Q (.bl (decide (z ∈ ks))) H) : rInK K w (.str z) (.ref d) H Q := by
  obtain ⟨r, h1, h2⟩ := ns_keys h z
  exact ⟨d, es, n, z, r, D, rfl, rfl, h1, by rw [h2]; exact q⟩
theorem inV_strs (z : Str) : ∀ ks : List Str, inV (.str z) (ks.map V.str) = decide (z ∈ ks)
  | [] => by simp [inV]
  | k :: r => by
    have h := inV_strs z r
    unfold inV at h ⊢
    rw [List.map_cons, List.any_cons, h]
    show ((k == z) || _) = _
    by_cases q : k = z
    · subst q; simp
    · have q' : ¬ z = k := fun w => q w.symm
      simp [q, q']
/-! ### lists of texts compared -/
theorem u64 {k : Nat} {A : Around} (r : Room k A) : A.units + 64 < cLine := by have := r.un; omega
theorem x_eqL {K : PySem.W.Frag} {H : Hp} {Q : VK} {p q : Addr} {xs : List V} (h1 : SqL K H p xs) (h2 : SqL K H q xs) (hf : xs.all flatB = true) (k : Q (.bl true) H) : rEqV K (.ref p) (.ref q) H Q := by
  refine ⟨1, by decide, .inl ⟨p, q, xs, xs, rfl, rfl, h1, h2, ?_⟩, k⟩
  clear h1 h2
  induction xs with
  | nil => exact .nil
  | cons x r ih =>
    rw [List.all_cons] at hf
    obtain ⟨h1, h2⟩ := Bool.and_eq_true_iff.mp hf
    exact .cons (.inl ⟨rfl, h1⟩) (ih h2)
theorem lay_strs : ∀ ns : List Str, PyData.canLayAll0 (ns.map PyData.str) = ns.all fun x => PyData.canLay0 (.str x)
  | [] => by simp [PyData.canLayAll0]
  | n :: r => by simp [PyData.canLayAll0, lay_strs r]
theorem depth_strs : ∀ ns : List Str, PyData.depthAll (ns.map PyData.str) ≤ 1
  | [] => by simp [PyData.depthAll]
  | n :: r => by have := depth_strs r; simp [PyData.depthAll, PyData.depth]; omega
theorem eqv_strs : ∀ ns ms : List Str, PyData.eqvAll (ns.map PyData.str) (ms.map PyData.str) = decide (ns = ms)
  | [], [] => by simp [PyData.eqvAll]
  | [], _ :: _ => by simp [PyData.eqvAll]
  | _ :: _, [] => by simp [PyData.eqvAll]
  | n :: r, m :: t => by
    simp [PyData.eqvAll, PyData.eqv, eqv_strs r t]
    congr 1
end Fw
namespace Fw
open PySem PySem.Spec PyProof.Rows L2 L2H HotX
/-! ### try .. except X as n, its suite raising -/
section
variable {X : Cx} {Wout : WX} {i : Nat} {n : Str} {pos : Pos} {pins : List (Addr × Obj)} {A' : Around} {u : Value} {s' : Shared} {E2 E3 E4 : Value → Shared → Prop}
/-- an exception in the air at a suite's end: the name goes, then it flies on -/
theorem leave_as (hs : X.stack = X.env :: X.outer) (hf : X.env.frame = some X.env.locals) (hex : X.ex = []) (hN : X.N.Nodup) (hi : X.N[i]? = some n) (hln : X.env.kindOf n = some .local) (hA : A'.frames = some (X.env :: X.outer)) (tk : ∀ u s, XE X Wout u s → E2 u s)
    {a : Addr} {B : Heap} {sI : Shared} {σ : L2.St} {H : Hp} {cls : Value} {d : Option Addr} (J : Inv X pins σ H sI) (nb : ∀ b o, sI.heap.get? b = some o → b ∉ frs X.stack → B.get? b = some o) (up : sI.heap.UpToSlots s'.heap)
    (sky : Sky B (X.env :: X.outer) a (Zc cls d) X.env.locals s'.heap) (na : H a = none) (os : s'.os = sI.os) (ag : AllBare s'.gens) (w : Wout cls d (σ.set i none) H) :
    wpAny (model X.prog X.w) A' (noteFrame (.ref a) X.env) (fun _ s3 => wpAny (model X.prog X.w) A' (do bindName X.env n .none; unbindBehindTheSuite X.env n pos) (fun _ s4 => wpAny (model X.prog X.w) A' (passOn "try.except-as" (.ref a) X.env : Sem Flow) (fun _ _ => False) E2 s4) E3 s3) E4 s' := by
  have go : ∀ h1, HandSPX.HeldZ B (X.env :: X.outer) a (Zc cls d) X.env.locals h1 → s'.heap.UpToSlots h1 →
      wpAny (model X.prog X.w) A' (do bindName X.env n .none; unbindBehindTheSuite X.env n pos) (fun _ s4 => wpAny (model X.prog X.w) A' (passOn "try.except-as" (.ref a) X.env : Sem Flow) (fun _ _ => False) E2 s4) E3 { s' with heap := h1 } := by
    intro h1 held up1
    have J1 : Inv X pins σ H { s' with heap := h1 } := J.landed nb held.1 (up.trans up1) os ag
    obtain ⟨st1, newA, ff1, oe, vs, T, oT, ts, gA, zA, dA, tb, newT, neT, gT, dT, fl⟩ := id held
    have nT : H T = none := (J.inGround nb).gone newT
    have off : ∀ {b : Addr} {o : Obj} {fv : Array Value}, h1.get? b = some o → o.data = .fields fv → b ∉ frs (X.env :: X.outer) := by
      intro b o fv e dd m
      obtain ⟨_, o', e', hno⟩ := ff1.mem m
      cases e.symm.trans e'
      exact hno fv dd
    have offA := off gA dA
    have offT := off gT dT
    have isL : X.env.locals ∈ frs (X.env :: X.outer) := List.mem_filterMap.mpr ⟨_, List.mem_cons_self, hf⟩
    have isF : ∀ {b : Addr}, b ∈ X.fs → b ∈ frs (X.env :: X.outer) := by
      intro b m
      obtain ⟨e, he, q⟩ := List.mem_filterMap.mp m
      exact List.mem_filterMap.mpr ⟨e, List.mem_cons_of_mem _ he, q⟩
    -- the exception and its traceback's entry as pins
    have J2 : Inv X ((a, oe) :: (T, oT) :: pins) σ H { s' with heap := h1 } := by
      refine ⟨J1.ok, J1.os, J1.bare, J1.base, J1.loc, J1.cell, J1.free, J1.freeC, fun p hp => ?_, J1.hok, J1.len⟩
      rcases List.mem_append.mp hp with hp | hp
      · exact J1.pin p (List.mem_append_left _ hp)
      rcases List.mem_cons.mp hp with rfl | hp
      · exact ⟨gA, na, (fun z => offA (by rw [show a = X.env.locals from z]; exact isL)), (fun z => offA (isF z)), fun v z => nomatch (dA.symm.trans z)⟩
      rcases List.mem_cons.mp hp with rfl | hp
      · exact ⟨gT, nT, (fun z => offT (by rw [show T = X.env.locals from z]; exact isL)), (fun z => offT (isF z)), fun v z => nomatch (dT.symm.trans z)⟩
      · exact J1.pin p (List.mem_append_right _ hp)
    refine gone_ok J2 hN hi hln fun s4 J4 => ?_
    have p1 := J4.pin (a, oe) (List.mem_append_right _ List.mem_cons_self)
    have p2 := J4.pin (T, oT) (List.mem_append_right _ (List.mem_cons_of_mem _ List.mem_cons_self))
    have a4 : s4.heap.get? a = some oe := p1.1
    have t4 : s4.heap.get? T = some oT := p2.1
    have J5 : Inv X pins (σ.set i none) H s4 := ⟨J4.ok, J4.os, J4.bare, J4.base, J4.loc, J4.cell, J4.free, J4.freeC, fun p hp => J4.pin p (by
      rcases List.mem_append.mp hp with z | z
      · exact List.mem_append_left _ z
      · exact List.mem_append_right _ (List.mem_cons_of_mem _ (List.mem_cons_of_mem _ z))), J4.hok, J4.len⟩
    have apart : ∀ {b : Addr} {o : Obj}, sI.heap.get? b = some o → b ≠ a ∧ b ≠ T := by
      intro b o e
      by_cases m : b ∈ frs X.stack
      · rw [hs] at m
        exact ⟨fun z => offA (z ▸ m), fun z => offT (z ▸ m)⟩
      · have q := nb b o e m
        exact ⟨(fun z => nomatch (z ▸ q : B.get? a = some o).symm.trans newA), (fun z => nomatch (z ▸ q : B.get? T = some o).symm.trans newT)⟩
    obtain ⟨G, in1, in2⟩ := restrict s4.heap fun b => decide (b ≠ a ∧ b ≠ T)
    have fromG : ∀ b o, G.get? b = some o → s4.heap.get? b = some o ∧ b ≠ a ∧ b ≠ T := by
      intro b o e
      by_cases q : b ≠ a ∧ b ≠ T
      · exact ⟨(in1 b (decide_eq_true q)).symm.trans e, q⟩
      · exact nomatch (in2 b (decide_eq_false q)).symm.trans e
    have toG : ∀ b o, b ≠ a → b ≠ T → s4.heap.get? b = some o → G.get? b = some o := fun b o h1 h2 e => (in1 b (decide_eq_true ⟨h1, h2⟩)).trans e
    have J6 : Inv X pins (σ.set i none) H { s4 with heap := G } := by
      refine J5.less (fun b o e => (fromG b o e).1) toG ⟨oe, vs, a4, dA⟩ ⟨oT, ts, t4, dT⟩ na nT (fun b o e => ?_) fun p hp => apart (J.pin p hp).1
      obtain ⟨o', q⟩ := J.base.there b o e (by rw [hex]; exact fun z => nomatch z)
      exact apart q
    have noB : ∀ b, ¬ (b ≠ a ∧ b ≠ T) → (PySem.W.hideAll G (frs X.stack)).get? b = none := by
      intro b q
      cases e : (PySem.W.hideAll G (frs X.stack)).get? b with
      | none => rfl
      | some o => exact absurd (fromG b o (PySem.W.of_hideAll _ e)).2 q
    have held4 : HandSPX.HeldZ (PySem.W.hideAll G (frs X.stack)) (X.env :: X.outer) a (Zc cls d) X.env.locals s4.heap := by
      have ff := funFrames_none (B := PySem.W.hideAll G (frs X.stack)) J5.stack fun b m => PySem.W.hideAll_none _ m
      rw [hs] at ff
      exact ⟨fun b o e => (fromG b o (PySem.W.of_hideAll _ e)).1, noB a (fun z => z.1 rfl), by rw [hs]; exact ff, oe, vs, T, oT, ts, a4, zA, dA, tb, noB T (fun z => z.2 rfl), neT, t4, dT, fl⟩
    unfold PySem.passOn
    refine wpAny_bind (wpAny_field a4 dA tb ?_)
    rw [if_neg (show ¬ ((Value.ref T == Value.none) = true) from by simp)]
    have up4 : wpAny (model X.prog X.w) A' (setFlight (.ref a) X.env.frame) (fun _ s7 => wpAny (model X.prog X.w) A' (throw (.ref a) : Sem Flow) (fun _ _ => False) E2 s7) E2 s4 := by
      rw [hf]
      refine HandSPX.setFlight_onZ held4 fun h7 held7 up7 => wpAny_throw (tk _ _ ?_)
      refine ⟨a, PySem.W.hideAll G (frs X.stack), { s4 with heap := G }, pins, _, H, cls, d, rfl, J6, fun b o e m => PySem.W.hideAll_get _ e m, ?_, .inr (.inr (by rw [hs] at held7 ⊢; exact held7)), na, rfl, J5.bare, w⟩
      exact Heap.UpToSlots.trans (Heap.UpToSlots.of_keeps fun b o e => (fromG b o e).1) up7
    first
      | exact wpAny_bind (wpAny_pure (wpAny_bind up4))
      | exact wpAny_bind up4
  rcases sky with ⟨k1, k2, k3, oe, vs, e0, z0, d0, v1⟩ | fly | held
  · exact HandSPX.look_newZ Zc.steady hA k3 hf e0 k1 k2 d0 v1 z0 go
  · exact HandSPX.looks_onZ Zc.steady hA hf fly go
  · exact HandSPX.againZ hf held.2.2.2 (go s'.heap held (Heap.UpToSlots.refl _))
end
/-- what the clause wishes -/
def wAs (K : PySem.W.Frag) (c c0 : Value) (i : Nat) (ts : Addr → Option Addr → TS) (Wout : WX) (D : Ends) : WX := fun cls d σ H =>
  ∃ b, PySem.W.exmOne K cls c = some b ∧ (b = true → cls = c0 ∧ ∀ a, H a = none → ts a d { nx := fun σ' H' => D.nx (σ'.set i none) H', rt := D.rt, bk := fun σ' H' => D.bk (σ'.set i none) H', ct := fun σ' H' => D.ct (σ'.set i none) H' } (σ.set i (some (.ref a))) H) ∧
    (b = false → Wout cls d σ H)
/-- the name is gone behind it -/
def wGone (i : Nat) (W : WX) : WX := fun cls d σ H => W cls d (σ.set i none) H
abbrev asX (X : Cx) (a : Addr) (pn : List (Addr × Obj)) (xe : Value → Shared → Prop) : Cx := (suiteX X a pn).wish xe
section
variable {X : Cx} {x n : Str} {c : Value} {i : Nat} {body suite : List Stmt} {b₀ : Stmt} {np pos pos' : Pos} {tb : WX → TS} {ts : Addr → Option Addr → TS} {Wout : WX} {c0 : Value}
theorem ps_try_asX {K : PySem.W.Frag} (hK : X.K = K) (hs : X.stack = X.env :: X.outer) (hf : X.env.frame = some X.env.locals) (hex : X.ex = []) (hN : X.N.Nodup) (hi : X.N[i]? = some n) (hln : X.env.kindOf n = some .local) (hc : Names X x c)
    (hpa : ∀ hd : Option Value, PassesOwnAt (model X.prog X.w) (X.A.mark hd) X.A X.env X.xe) (tk : L2.Takes X Wout)
    (hb : ∀ (W : WX) (pn : List (Addr × Obj)) (xe : Value → Shared → Prop), L2N.Takes (X.tr pn xe) W → PassesOwn (model X.prog X.w) X.A X.env xe → PSs (X.tr pn xe) body (tb W))
    (hsu : ∀ (a : Addr) (oe : Obj) (d : Option Addr) (pn : List (Addr × Obj)) (xe : Value → Shared → Prop), L2N.Zn c0 d oe → Hot1 (X.A.mark (some (.ref a))) (a, oe) → L2.Takes (asX X a ((a, oe) :: pn) xe) (wGone i Wout) → PSs (asX X a ((a, oe) :: pn) xe) (b₀ :: suite) (ts a d)) :
    PS X (.Try body [.ExceptHandler (some (.Name x np)) (some n) (b₀ :: suite) pos'] [] [] pos) (fun D σ H => tb (wAs K c c0 i ts Wout D) D σ H) := by
  subst hK
  refine ⟨fun pins s σ H D I h => ?_⟩
  have ok := I.ok
  have hfr : X.A.frames = some (X.env :: X.outer) := ok.frames.trans (congrArg some hs)
  refine wpAny_Try_except (wpAny_mono ((hb (wAs X.K c c0 i ts Wout D) (X.pn ++ pins) (fun e s₁ => wpAny (model X.prog X.w) X.A (noteFrame e X.env) (fun _ s₂ => wpAny (model X.prog X.w) X.A (setFlight e none) (fun _ s₃ =>
    wpAny (model X.prog X.w) X.A (handleBy e X.env [.ExceptHandler (some (.Name x np)) (some n) (b₀ :: suite) pos']) (SP X pins D) X.xe s₃) X.xe s₂) X.xe s₁) (fun u s' xx => ?caught) PassesOwn.looking).run [] s σ H D (I.toTry _) h) (fun f s1 hsp => ?thru) (fun e s1 he => he))
  case thru =>
    cases f with
    | next =>
      obtain ⟨σ', H', J', q⟩ := hsp
      exact wpAny_execs_nil ⟨σ', H', J'.ofTry ok, q⟩
    | brk =>
      obtain ⟨σ', H', J', q⟩ := hsp
      exact ⟨σ', H', J'.ofTry ok, q⟩
    | cont =>
      obtain ⟨σ', H', J', q⟩ := hsp
      exact ⟨σ', H', J'.ofTry ok, q⟩
    | ret u =>
      obtain ⟨v, σ', H', J', r, q⟩ := hsp
      exact ⟨v, σ', H', J'.ofTry ok, r, q⟩
  case caught =>
    obtain ⟨a, B, sI, pins', σ', H', cls, d, rfl, J', nb, up, sky, na, os, ag, b, hb1, hyes, hno⟩ := xx
    have J : Inv X pins σ' H' sI := J'.ofTry ok
    rw [show (X.tr (X.pn ++ pins) _).stack = X.env :: X.outer from hs] at sky
    show wpAny (model X.prog X.w) X.A (noteFrame (.ref a) X.env) _ _ _
    refine L2N.Sky.land L2N.Zn.steady hfr hf sky fun h3 fl3 up3 => ?_
    have J3 : Inv X pins σ' H' { s' with heap := h3 } := J.landed nb fl3.1 (up.trans up3) os ag
    obtain ⟨oe3, vs3, he3, hz3, hd3⟩ := fl3.there
    have nfr : a ∉ frs (X.env :: X.outer) := fun hm => by
      obtain ⟨_, o', e', hnf⟩ := fl3.2.2.1.mem hm
      cases he3.symm.trans e'
      exact hnf _ hd3
    have nL : a ≠ X.env.locals := fun z => nfr (List.mem_filterMap.mpr ⟨X.env, List.mem_cons_self, by rw [hf, z]⟩)
    have nF : a ∉ X.fs := fun hm => by
      obtain ⟨e, he, q⟩ := List.mem_filterMap.mp hm
      exact nfr (List.mem_filterMap.mpr ⟨e, List.mem_cons_of_mem _ he, q⟩)
    have S3 := J3.suite he3 hd3 na nL nF
    refine wpAny_handleBy_cons (codeAny_handlers_test ?_) (by intro q; cases q)
    have LT : PySem.W.Looks (model X.prog X.w) h3 (typeOf (.ref a)) cls := fun A Q E s k q => wpAny_typeOf_ref (k _ _ he3) (by rw [hz3.1]; exact q)
    have LM := PySem.W.exm_one (M := model X.prog X.w) J3.kIn LT hb1
    have test : ∀ {Q : Value → Shared → Prop} {E : Value → Shared → Prop}, Q c { s' with heap := h3 } → wpAny (model X.prog X.w) (X.A.mark (some (.ref a))) (eval (.Name x np) X.env) Q E { s' with heap := h3 } := fun {Q E} q => by
      obtain ⟨hg, hdbg, hm | ⟨hm, hv, hnn⟩⟩ := hc
      · exact ld_glob (X := X.suite a ((a, oe3) :: (X.pn ++ pins))) S3 hg hm q hdbg
      · exact ld_blt (X := X.suite a ((a, oe3) :: (X.pn ++ pins))) S3 hg hm hv q hnn hdbg
    refine test (LM.here ?_)
    cases b with
    | false =>
      show wpAny _ X.A (handleBy (.ref a) X.env []) _ _ _
      refine wpAny_handleBy_nil ?_
      have fl4 : HandSPX.FlyingZ B (X.env :: X.outer) a (Zc cls d) h3 := flyingZ_imp (fun o z => z.zc) fl3
      obtain ⟨_, _, _, oe, vs, T, oT, ts', he, hz, hd, h1, hr⟩ := id fl3
      unfold PySem.passOn
      refine wpAny_bind (wpAny_field he hd h1 ?_)
      rw [if_neg (show ¬ ((Value.ref T == Value.none) = true) from by simp)]
      have fin : wpAny (model X.prog X.w) X.A (setFlight (.ref a) X.env.frame) (fun _ s4 => wpAny (model X.prog X.w) X.A (throw (.ref a) : Sem Flow) (SP X pins D) X.xe s4) X.xe { s' with heap := h3 } := by
        rw [hf]
        refine HandSPX.setFlight_upZ fl4 fun h4 hh4 up4 => wpAny_throw (tk _ _ ?_)
        exact ⟨a, B, sI, pins, σ', H', cls, d, rfl, J, nb, (up.trans up3).trans up4, .inr (.inr (by rw [hs]; exact hh4)), na, os, ag, hno rfl⟩
      first
        | exact wpAny_bind (wpAny_pure (wpAny_bind fin))
        | exact wpAny_bind fin
    | true =>
      obtain ⟨hcc, hyes2⟩ := hyes rfl
      subst hcc
      refine codeAny_handlers_suite_as (HandSPX.lands_againZ fl3 fun h4 fl4 up4 => ?_)
      obtain ⟨oe4, vs4, he4, hz4, hd4⟩ := fl4.there
      have J4 : Inv X pins σ' H' { s' with heap := h4 } := J.landed nb fl4.1 ((up.trans up3).trans up4) os ag
      have S4 := suiteX_of (J4.suite he4 hd4 na nL nF)
      refine store_ok (X := suiteX X a ((a, oe4) :: (X.pn ++ pins))) (v := .ref a) S4 hN hi (.inl hln) rfl (fun s5 S5 => ?_) (.inr hln)
      have hot : Hot1 (X.A.mark (some (.ref a))) (a, oe4) := ⟨rfl, vs4, hd4, hz4.2.2 vs4 hd4⟩
      refine wpAny_mono ((hsu a oe4 d (X.pn ++ pins) _ hz4 hot (fun u2 s2 x2 => ?_)).run [] s5 _ _ _ (S5.wish _) (hyes2 a na)) (fun f s6 hsp => ?_) (fun e6 s6 z => z)
      · obtain ⟨a2, B2, sI2, pn2, σ2, H2, cls2, d2, rfl, I2, nb2, up2, sky2, na2, os2, ag2, w2⟩ := x2
        have sky3 : Sky B2 (X.env :: X.outer) a2 (Zc cls2 d2) X.env.locals s2.heap := by rw [← hs]; exact sky2
        exact leave_as (A' := X.A.mark (some (.ref a))) (pos := pos') (E2 := notedBy (model X.prog X.w) (X.A.mark (some (.ref a))) X.env (cameBackBy (model X.prog X.w) X.A X.env X.xe)) hs hf hex hN hi hln hfr (fun u s xe => hpa _ _ _ (tk u s xe)) (unsuiteX I2.unwish ok) nb2 up2 sky3 na2 os2 ag2 w2
      · have hsp := SP.unwish hsp
        have fin : ∀ {σ6 : L2.St} {H6 : Hp} {Q : Shared → Prop}, Inv (suiteX X a ((a, oe4) :: (X.pn ++ pins))) [] σ6 H6 s6 → (∀ s7, Inv X pins (σ6.set i none) H6 s7 → Q s7) →
            wpAny (model X.prog X.w) X.A (do bindName X.env n .none; unbindBehindTheSuite X.env n pos') (fun _ s7 => Q s7) X.xe s6 := fun {σ6 H6 Q} S6 hq => gone_ok (unsuiteX S6 ok) hN hi hln hq
        cases f with
        | next =>
          obtain ⟨σ6, H6, S6, q6⟩ := hsp
          exact fin S6 fun s7 J7 => ⟨_, _, J7, q6⟩
        | brk =>
          obtain ⟨σ6, H6, S6, q6⟩ := hsp
          exact fin S6 fun s7 J7 => ⟨_, _, J7, q6⟩
        | cont =>
          obtain ⟨σ6, H6, S6, q6⟩ := hsp
          exact fin S6 fun s7 J7 => ⟨_, _, J7, q6⟩
        | ret u =>
          obtain ⟨v6, σ6, H6, S6, r6, q6⟩ := hsp
          exact fin S6 fun s7 J7 => ⟨_, _, _, J7, r6, q6⟩
end
theorem ps_raiseHA {X : Cx} {W : WX} {e : Expr} {t : L2.St → Hp → XK → Prop} {i : Nat} {n : Str} {np pos : Pos} {a : Addr} {oe : Obj} {cls0 : Value} (hot : Hot1 X.A (a, oe)) (hp : (a, oe) ∈ X.pn) (hcl : oe.cls = cls0) (hrs : Raises X cls0) (hN : X.N[i]? = some n) (hk : X.env.kindOf n = some .local) (tk : L2.Takes X W) (he : PMk5 X e t)
    (hd0 : (n == ("__debug__" : Str)) = false := by decide) : PS X (.Raise (some e) (some (.Name n np)) pos) (fun _ σ H => σ[i]? = some (some (.ref a)) ∧ t σ H fun cls d H' => W cls d σ H') := ps_raiseHF (p := (a, oe)) hot hp hcl hrs hN hk tk he hd0
theorem pe_ixDK {X : Cx} {K : PySem.W.Frag} {w : World} {W : WX} {a b : Expr} {ta tb : TE} {pos : Pos} (hc : X.calm = true) (tk : L2N.Takes X W) (ha : PE X a ta) (hb : PE X b tb) (hs : PlainIx b) (hK : X.K = K := by rfl) (hw : X.w = w := by rfl) : PE X (.Subscript a b pos) (tIxDX K w W ta tb) := hK ▸ hw ▸ pe_ixDXN hc tk ha hb hs
theorem raises_KeyError {X : Cx} : Raises X (.type "KeyError") := fun _ _ _ => ⟨PySem.W.Looks.of_pure (by kernel_rfl), PySem.W.Looks.of_pure (by kernel_rfl)⟩
theorem names_KeyError {X : Cx} (hg : Gl X "KeyError") (hm : X.mg "KeyError" = none) : Names X "KeyError" (.type "KeyError") := ⟨hg, by decide, .inr ⟨hm, by decide +kernel, by decide⟩⟩
end Fw
namespace Fw
open PySem PySem.Spec PyProof.Rows L2
/-! ### texts by their lengths -/
theorem rep_len (u : Str) (k : Nat) : (Txt.mul u (k : Int)).length = u.length * k := by
  have h := len_mul u (k : Int)
  rw [if_neg (by simp)] at h
  exact Int.ofNat_inj.mp (by rw [h]; simp)
/-- a text times a number -/
def rMulS : R2 := fun x y H Q => ∃ (u : Str) (k : Nat), x = .str u ∧ y = .int k ∧ k ≤ 100000 ∧ u.length * k ≤ 1000000 ∧ Q (.str (Txt.mul u k)) H
theorem op_mulS {X : Cx} : OpR X (binaryOp .Mult) rMulS := by
  intro pins s σ H x y v u Q I rx ry h
  obtain ⟨z, k, rfl, rfl, hk, hz, q⟩ := h
  obtain ⟨t, rfl⟩ := rx
  obtain ⟨t2, rfl⟩ := ry
  refine SB.mul ⟨?_, fun h1 h2 => ?_, fun h1 h2 => ?_⟩ fun t' j => ⟨.str _, H, I.tok _, ⟨_, rfl⟩, q⟩
  · rw [Bool.or_eq_false_iff]
    exact ⟨decide_eq_false (by omega), decide_eq_false (by omega)⟩
  · have hk1 : 1 ≤ k := by omega
    have hz2 : z.length ≤ 1000000 := Nat.le_trans (Nat.le_mul_of_pos_right _ (by omega)) hz
    intro hgt
    have h3 : (92233720368547 : Int) ≤ (2 ^ 63 - 1) / (k : Int) := Int.le_ediv_of_mul_le (by omega) (by omega)
    omega
  · rw [Int.toNat_natCast]
    exact decide_eq_false (by rw [sizeLine_eq]; omega)
/-- a text turned about -/
def RevS (x : V) (H : Hp) (Q : VK) : Prop := ∃ z : Str, x = .str z ∧ z.length ≤ 1000000 ∧ ∀ y : Str, y.length = z.length → Q (.str y) H
def tRevS (te : TE) : TE := fun σ H Q => te σ H fun x H1 => RevS x H1 Q
theorem pe_revS {X : Cx} {e : Expr} {te : TE} {k : Nat} {p1 p2 p3 pos : Pos} (he : PE X e te) : PE X (.Subscript e (.Slice none none (some (.UnaryOp .USub (.Constant (.int 1) k p1) p2)) p3) pos) (tRevS te) := by
  refine ⟨fun pins s σ H Q I h => Subscript_ (thn (he.run pins s σ H _ I h) fun v s1 ⟨x, H1, I1, r1, q1⟩ => ?_)⟩
  obtain ⟨z, rfl, hz, q⟩ := q1
  obtain ⟨t, rfl⟩ := r1
  have hst : PO X (some (.UnaryOp .USub (.Constant (.int 1) k p1) p2)) (tPart (tUn (rU fun i => .int (-i)) (tC (.int 1)))) := po_some (pe_un un_neg pe_int)
  refine wpAny_Slice (thn (po_none.run pins s1 σ H1 (fun o H2 => o = none ∧ H2 = H1) I1 ⟨rfl, rfl⟩) fun vl s2 ⟨l, H2, I2, pl, el, e2⟩ => ?_)
  subst el e2
  refine thn (po_none.run pins s2 σ H2 (fun o H3 => o = none ∧ H3 = H2) I2 ⟨rfl, rfl⟩) fun vu s3 ⟨u, H3, I3, pu, eu, e3⟩ => ?_
  subst eu e3
  refine thn (hst.run pins s3 σ H3 (fun o H4 => o = some (-1) ∧ H4 = H3) I3 ⟨1, rfl, -1, rfl, rfl, rfl⟩) fun vs s4 ⟨o, H4, I4, ps, eo, e4⟩ => ?_
  subst eo e4
  obtain ⟨l', rfl, hl⟩ := IsPart.raw pl
  obtain ⟨u', rfl, hu⟩ := IsPart.raw pu
  obtain ⟨st, rfl, hs1⟩ := IsPart.raw ps
  have el : l' = none := by cases l' with | none => rfl | some _ => cases hl
  have eu : u' = none := by cases u' with | none => rfl | some _ => cases hu
  subst el eu
  obtain ⟨tk, rfl⟩ : ∃ tk, st = some (-1, tk) := by
    cases st with
    | none => cases hs1
    | some p => obtain ⟨j, tk⟩ := p; cases hs1; exact ⟨tk, rfl⟩
  have I5 : Inv X pins σ H4 { s4 with heap := s4.heap.push { cls := .type "slice", data := .fields #[partValue none, partValue none, partValue (some (-1, tk))] } } := I4.kept (t' := s4.toks) fun b ob q => Heap.get?_push_of_some _ q
  refine tail_any (ops := [.str z t, .ref s4.heap.objs.size]) (typeIs_str _ z t) F.slot_str_getitem.lookup (wpAny_getItem_str_slice (l := none) (u := none) (st := some (-1, tk)) ⟨_, Heap.get?_push_size _ rfl, rfl, rfl⟩ rfl ?_) (by with_unfolding_all rfl)
  have hl := step_rev_len z tk
  have e : sliceMade z t none none (some (-1, tk)) = Made.str (Txt.sliceBy z none none (-1, tk)) := by
    unfold sliceMade Txt.sliceBy
    rw [if_neg (by simp), if_neg (by simp)]
  rw [e]
  exact ⟨by rw [sizeLine_eq, hl]; omega, .str _, H4, I5.tok _, ⟨_, rfl⟩, q _ hl⟩
section
variable {σ : L2.St} {H : Hp} {K : PySem.W.Frag} {Q : VK} {u z : Str} {n m : Nat} {i : Int} {te : TE}
theorem x_truB {b : Bool} {F : Bool → Prop} (k : F b) : ∃ c, TruV K (.bl b) H c ∧ F c := ⟨b, rfl, k⟩
theorem x_revS (k : te σ H fun x H1 => RevS x H1 Q) : tRevS te σ H Q := k
theorem x_revP (h : z.length ≤ 1000000) (k : ∀ y : Str, y.length = z.length → Q (.str y) H) : RevS (.str z) H Q := ⟨z, rfl, h, k⟩
theorem x_slP {lo hi : Option Int} (h : u.length ≤ 1000000) (k : ∀ y : Str, y.length ≤ u.length → Q (.str y) H) : uSl K (.str u) lo hi H Q :=
  .inr (.inl ⟨u, rfl, Nat.le_trans h (by rw [sizeLine_eq]; decide), k _ (cutS_length u lo hi)⟩)
theorem x_slX {lo hi : Option Int} (h : u.length ≤ 1000000) (k : Q (.str (cutS u lo hi)) H) : uSl K (.str u) lo hi H Q :=
  .inr (.inl ⟨u, rfl, Nat.le_trans h (by rw [sizeLine_eq]; decide), k⟩)
theorem x_addP (h : u.length + z.length ≤ 1000000) (k : ∀ y : Str, y.length = u.length + z.length → Q (.str y) H) : uAdd K (.str u) (.str z) H Q :=
  x_addS (Nat.le_trans h (by rw [sizeLine_eq]; decide)) (k _ (strLen_append u z))
theorem x_ixP (h : u.length ≤ 1000000) (h0 : 0 ≤ i) (h1 : i < u.length) (k : ∀ y : Str, y.length = 1 → Q (.str y) H) : uIx K (.str u) (.int i) H Q :=
  x_ixS (Nat.le_trans h (by rw [sizeLine_eq]; decide)) (at_get h0 (by rw [Array.length_toList]; exact h1)) (k _ rfl)
theorem x_mulP (h0 : 0 ≤ i) (h1 : i ≤ 100000) (h2 : u.length * i.toNat ≤ 1000000) (k : ∀ y : Str, y.length = u.length * i.toNat → Q (.str y) H) : rMulS (.str u) (.int i) H Q := by
  obtain ⟨j, rfl⟩ : ∃ j : Nat, i = j := ⟨i.toNat, by omega⟩
  rw [Int.toNat_natCast] at h2 k
  exact ⟨u, j, rfl, rfl, by omega, h2, k _ (rep_len u j)⟩
theorem x_upP (h : u.length ≤ 100000) (k : ∀ y : Str, y.length ≤ 3 * u.length → Q (.str y) H) : (fun (x : V) (xs : List V) (H : Hp) (Q : VK) => ∃ a, x = .str a ∧ xs = [] ∧ a.length ≤ 5592405 ∧ Q (.str (Txt.upper a)) H) (.str u) [] H Q := ⟨u, rfl, rfl, by omega, k _ (len_upper u)⟩
end
end Fw
namespace Fw
open PySem PySem.Spec PyProof.Rows L2
/-! ### a call that is handed all cells -/
section
variable {K : PySem.W.Frag} {H0 H H' : Hp} {Ms M0 : List Addr} {L L' : List (Addr × HO)} {R R' : List Fa}
theorem W.back (w : W K H0 Ms M0 H L R) (w' : W K H (L.map (·.1)) M0 H' L' R') : W K H0 Ms M0 H' L' (R' ++ R) := by
  have inL : ∀ a ∈ L.map (·.1), a ∈ Ms ∨ (H0 a = none ∧ a ∉ M0) := fun a ha => by
    obtain ⟨q, hq, rfl⟩ := List.mem_map.mp ha
    exact w.own q hq
  refine ⟨fun a o n e => ?_, w'.al, w'.nd, w'.cell, fun p hp => ?_, fun r hr => ?_⟩
  · refine w'.ex a o (fun ha => ?_) (w.ex a o n e)
    rcases inL a ha with h | h
    · exact n h
    · exact nomatch h.1.symm.trans e
  · rcases w'.own p hp with h | h
    · exact inL _ h
    · by_cases hm : p.1 ∈ Ms
      · exact .inl hm
      · exact .inr ⟨w.fresh h.1 hm, h.2⟩
  · rcases List.mem_append.mp hr with hr | hr
    · exact w'.rep r hr
    · refine Fa.ext (fun a o e => ?_) (w.rep r hr)
      obtain ⟨n, e⟩ := del_some e
      have n1 : a ∉ L.map (·.1) := fun z => n (List.mem_append_left _ z)
      have n2 : a ∉ M0 := fun z => n (List.mem_append_right _ z)
      rw [del_out]
      · exact w'.ex a o n1 e
      · intro z
        rcases List.mem_append.mp z with z | z
        · obtain ⟨q, hq, rfl⟩ := List.mem_map.mp z
          rcases w'.own q hq with h | h
          · exact n1 h
          · exact nomatch h.1.symm.trans e
        · exact n2 z
/-- all cells handed on -/
theorem W.hand (w : W K H0 Ms M0 H L R) : W K H (L.map (·.1)) M0 H L R :=
  ⟨Ex.refl, w.al, w.nd, w.cell, fun p hp => .inl (List.mem_map.mpr ⟨p, hp, rfl⟩), w.rep⟩
/-- the cells in another order -/
theorem W.perm (w : W K H0 Ms M0 H L R) (h : L'.Perm L) : W K H0 Ms M0 H L' R := by
  have hm : ∀ x, x ∈ L'.map (·.1) ↔ x ∈ L.map (·.1) := fun x => (h.map _).mem_iff
  refine ⟨w.ex, w.al, (h.map _).nodup_iff.mpr w.nd, fun p hp => w.cell p (h.mem_iff.mp hp), fun p hp => w.own p (h.mem_iff.mp hp), fun r hr => Fa.ext (del_sub fun x hx => ?_) (w.rep r hr)⟩
  rcases List.mem_append.mp hx with z | z
  · exact List.mem_append_left _ ((hm x).mp z)
  · exact List.mem_append_right _ z
end
/-! ### texts, sign by sign -/
theorem str_ext {x y : Str} (h : x.cps.toList = y.cps.toList) : x = y := by
  obtain ⟨a⟩ := x
  obtain ⟨b⟩ := y
  exact congrArg Str.mk (Array.toList_inj.mp h)
abbrev cd (x : Str) : List Nat := x.cps.toList
theorem cd_len (x : Str) : (cd x).length = x.length := Array.length_toList
theorem cd_app (x y : Str) : cd (x ++ y) = cd x ++ cd y := by
  show (x.cps ++ y.cps).toList = _
  simp
theorem cd_cut (z : Str) (i j : Nat) (hi : i ≤ z.length) (hj : j ≤ z.length) : cd (cutS z (some (i : Int)) (some (j : Int))) = ((cd z).drop i).take (j - i) := by
  unfold cutS
  rw [HT.sIx_nat, HT.sIx_nat, Nat.min_eq_left hi, Nat.min_eq_left hj]
theorem cd_cutTo (z : Str) (j : Nat) (hj : j ≤ z.length) : cd (cutS z none (some (j : Int))) = (cd z).take j := by
  unfold cutS
  rw [HT.sIx_none, HT.sIx_nat, Nat.min_eq_left hj]
  simp
theorem cd_cutFrom (z : Str) (i : Nat) (hi : i ≤ z.length) : cd (cutS z (some (i : Int)) none) = (cd z).drop i := by
  unfold cutS
  rw [HT.sIx_nat, HT.sIx_none, Nat.min_eq_left hi]
  show ((cd z).drop i).take (z.length - i) = _
  rw [List.take_of_length_le (by rw [List.length_drop, cd_len]; omega)]
/-- the sign at i, none behind the last one -/
def signAt (z : Str) (i : Nat) : Str := match (cd z)[i]? with
  | some c => ⟨#[c]⟩
  | none => ⟨#[]⟩
theorem cut_sign (z : Str) (i : Nat) (hi : i ≤ z.length) : cutS z (some (i : Int)) (some ((i : Int) + 1)) = signAt z i := by
  refine str_ext ?_
  by_cases h : i + 1 ≤ z.length
  · have e : ((i : Int) + 1) = ((i + 1 : Nat) : Int) := by omega
    rw [e]
    refine (cd_cut z i (i + 1) hi h).trans ?_
    have hl : i < (cd z).length := by rw [cd_len]; omega
    unfold signAt
    rw [List.getElem?_eq_getElem hl, Nat.add_sub_cancel_left, List.drop_eq_getElem_cons hl]
    rfl
  · have e : i = z.length := by omega
    have hn : (cd z)[i]? = none := List.getElem?_eq_none (by rw [cd_len]; omega)
    unfold signAt
    rw [hn]
    unfold cutS
    rw [HT.sIx_nat, Nat.min_eq_left hi, e, List.drop_eq_nil_of_le (by show (cd z).length ≤ _; rw [cd_len]; exact Nat.le_refl _)]
    simp
theorem lit_eq {x : Str} {l : List Nat} (h : cd x = l) : x = ⟨l.toArray⟩ := str_ext (by rw [show x.cps.toList = l from h])
end Fw
namespace Fw
open PySem PySem.Spec PyProof.Rows L2
/-! ### trees -/
inductive Tr where
  | mk (n : Str) (o : Int) (ps : List Tr)
mutual
def Tr.data : Tr → PyData
  | .mk n o ps => .tuple [.str n, .int o, .tuple (datas ps)]
def datas : List Tr → List PyData
  | [] => []
  | t :: r => t.data :: datas r
end
mutual
def Tr.size : Tr → Nat
  | .mk _ _ ps => 1 + sizes ps
def sizes : List Tr → Nat
  | [] => 0
  | t :: r => t.size + sizes r
end
mutual
def Tr.high : Tr → Nat
  | .mk _ _ ps => 1 + highs ps
def highs : List Tr → Nat
  | [] => 0
  | t :: r => max t.high (highs r)
end
/-- a NAME -/
structure NameOk (x : Str) : Prop where
  l1 : 1 ≤ x.length
  l6 : x.length ≤ 6
  small : ∀ c ∈ cd x, 97 ≤ c ∧ c ≤ 122
  no : x ≠ "own"
mutual
inductive TrOk : Tr → Prop
  | mk {n : Str} {o : Int} {ps : List Tr} : NameOk n → 0 ≤ o → o < 1000000 → ps.length ≤ 2 → TrsOk ps → TrOk (.mk n o ps)
inductive TrsOk : List Tr → Prop
  | nil : TrsOk []
  | cons {t : Tr} {r : List Tr} : TrOk t → TrsOk r → TrsOk (t :: r)
end
theorem datas_length : ∀ ts : List Tr, (datas ts).length = ts.length
  | [] => by simp only [datas, List.length_nil]
  | t :: r => by simp only [datas, List.length_cons, datas_length r]
theorem datas_append : ∀ ts us : List Tr, datas (ts ++ us) = datas ts ++ datas us
  | [], us => by simp only [datas, List.nil_append]
  | t :: r, us => by simp only [datas, List.cons_append, datas_append r us]
theorem sizes_append : ∀ ts us : List Tr, sizes (ts ++ us) = sizes ts + sizes us
  | [], us => by simp only [sizes, List.nil_append, Nat.zero_add]
  | t :: r, us => by simp only [sizes, List.cons_append, sizes_append r us, Nat.add_assoc]
theorem highs_append : ∀ ts us : List Tr, highs (ts ++ us) = max (highs ts) (highs us)
  | [], us => by simp only [highs, List.nil_append, Nat.zero_max]
  | t :: r, us => by simp only [highs, List.cons_append, highs_append r us, Nat.max_assoc]
theorem TrsOk.append : ∀ {ts us : List Tr}, TrsOk ts → TrsOk us → TrsOk (ts ++ us)
  | _, _, .nil, h => h
  | _, _, .cons a b, h => .cons a (TrsOk.append b h)
theorem datas_get : ∀ {ts : List Tr} {i : Nat} {d : PyData}, (datas ts)[i]? = some d → ∃ t, ts[i]? = some t ∧ d = t.data
  | [], i, d, h => by simp [datas] at h
  | t :: r, 0, d, h => by simp [datas] at h; exact ⟨t, rfl, h.symm⟩
  | t :: r, i + 1, d, h => by
    simp only [datas, List.getElem?_cons_succ] at h
    obtain ⟨u, h1, h2⟩ := datas_get h
    exact ⟨u, by simpa using h1, h2⟩
theorem datas_map (ts : List Tr) : datas ts = ts.map Tr.data := by
  induction ts with
  | nil => simp only [datas, List.map_nil]
  | cons t r ih => simp only [datas, List.map_cons, ih]
theorem TrsOk.mem {ts : List Tr} (h : TrsOk ts) : ∀ t ∈ ts, TrOk t := by
  induction ts with
  | nil => exact fun _ z => nomatch z
  | cons u r ih =>
    cases h with
    | cons a b =>
      intro t ht
      rcases List.mem_cons.mp ht with rfl | ht
      · exact a
      · exact ih b t ht
theorem sizes_mem {ts : List Tr} : ∀ t ∈ ts, t.size ≤ sizes ts := by
  induction ts with
  | nil => exact fun _ z => nomatch z
  | cons u r ih =>
    intro t ht
    simp only [sizes]
    rcases List.mem_cons.mp ht with rfl | ht
    · omega
    · have := ih t ht
      omega
theorem highs_mem {ts : List Tr} : ∀ t ∈ ts, t.high ≤ highs ts := by
  induction ts with
  | nil => exact fun _ z => nomatch z
  | cons u r ih =>
    intro t ht
    simp only [highs]
    rcases List.mem_cons.mp ht with rfl | ht
    · omega
    · have := ih t ht
      omega
theorem TrOk.parts {n : Str} {o : Int} {ps : List Tr} (h : TrOk (.mk n o ps)) : NameOk n ∧ 0 ≤ o ∧ o < 1000000 ∧ ps.length ≤ 2 ∧ TrsOk ps := by
  cases h with
  | mk a b c d e => exact ⟨a, b, c, d, e⟩
/-! ### their texts -/
mutual
/-- as the laws spell a tree -/
def Tr.text : Tr → Str
  | .mk n o ps => (n ++ Txt.mul (":" ++ Str.ofString (toString o)) (if decide (0 < o) = true then 1 else 0)) ++ Txt.mul (("(" ++ Txt.join "," (texts ps)) ++ ")") (if decide (ps ≠ []) = true then 1 else 0)
def texts : List Tr → List Str
  | [] => []
  | t :: r => t.text :: texts r
end
theorem texts_map (ts : List Tr) : texts ts = ts.map Tr.text := by
  induction ts with
  | nil => simp only [texts, List.map_nil]
  | cons t r ih => simp only [texts, List.map_cons, ih]
theorem mul0 (u : Str) : Txt.mul u 0 = ⟨#[]⟩ := rfl
theorem mul1 (u : Str) : Txt.mul u 1 = u := rfl
theorem num_len {o : Int} (h0 : 0 ≤ o) (h1 : o < 1000000) : (Str.ofString (toString o)).length ≤ 7 := by
  have := int_text_length_le10 (a := o) (k := 6) (by decide) (by omega)
  rw [PySem.ofString_length]
  omega
mutual
theorem text_len : ∀ {t : Tr}, TrOk t → t.text.length ≤ 20 * t.size
  | .mk n o ps, h => by
    obtain ⟨h1, h2, h3, h4, h5⟩ := h.parts
    have ih := texts_len h5
    have hn := h1.l6
    have ho := num_len h2 h3
    have e1 : (Str.ofString ":").length = 1 := by decide
    have e2 : (Str.ofString "(").length = 1 := by decide
    have e3 : (Str.ofString ")").length = 1 := by decide
    have e4 : (Str.ofString ",").length = 1 := by decide
    have hj : (Txt.join "," (texts ps)).length ≤ 20 * sizes ps + 1 := by
      have e : (Txt.join "," (texts ps)).length = ((texts ps).map (·.length)).sum + ((texts ps).length - 1) * 1 := by
        have := size_glued "," (texts ps)
        rw [e4] at this
        exact this
      have hl : (texts ps).length = ps.length := by rw [texts_map, List.length_map]
      omega
    have m1 : (Txt.mul (":" ++ Str.ofString (toString o)) (if decide (0 < o) = true then 1 else 0)).length ≤ 8 := by
      split
      · rw [mul1, strLen_append]; omega
      · rw [mul0]; show 0 ≤ _; omega
    have m2 : (Txt.mul (("(" ++ Txt.join "," (texts ps)) ++ ")") (if decide (ps ≠ []) = true then 1 else 0)).length ≤ 20 * sizes ps + 3 := by
      split
      · rw [mul1, strLen_append, strLen_append]; omega
      · rw [mul0]; show 0 ≤ _; omega
    simp only [Tr.text, Tr.size]
    rw [strLen_append, strLen_append]
    omega
theorem texts_len : ∀ {ts : List Tr}, TrsOk ts → ((texts ts).map (·.length)).sum ≤ 20 * sizes ts
  | [], _ => by simp [texts, sizes]
  | t :: r, h => by
    cases h with
    | cons a b =>
      have h1 := text_len a
      have h2 := texts_len b
      simp only [texts, sizes, List.map_cons, List.sum_cons]
      omega
end
theorem name_lay {n : Str} (h : NameOk n) : PyData.canLay0 (.str n) = true := by
  simp only [PyData.canLay0, PyData.strOk]
  rw [← Array.all_toList]
  refine List.all_eq_true.mpr fun c hc => ?_
  have := h.small c hc
  exact decide_eq_true (by omega)
mutual
theorem data_lay : ∀ {t : Tr}, TrOk t → PyData.canLay0 t.data = true ∧ t.data.depth = 2 * t.high
  | .mk n o ps, h => by
    obtain ⟨h1, _, _, _, h5⟩ := h.parts
    obtain ⟨a, b⟩ := datas_lay h5
    simp only [Tr.data, Tr.high, PyData.canLay0, PyData.canLayAll0, PyData.depth, PyData.depthAll]
    have := name_lay h1
    simp only [PyData.canLay0] at this
    rw [this, a]
    exact ⟨rfl, by omega⟩
theorem datas_lay : ∀ {ts : List Tr}, TrsOk ts → PyData.canLayAll0 (datas ts) = true ∧ PyData.depthAll (datas ts) = 2 * highs ts
  | [], _ => by simp [datas, highs, PyData.canLayAll0, PyData.depthAll]
  | t :: r, h => by
    cases h with
    | cons a b =>
      obtain ⟨c1, c2⟩ := data_lay a
      obtain ⟨d1, d2⟩ := datas_lay b
      simp only [datas, highs, PyData.canLayAll0, PyData.depthAll, c1, d1, c2, d2]
      exact ⟨rfl, by omega⟩
end
theorem parts_shaped {ts : List Tr} (h : TrsOk ts) (hh : highs ts ≤ 31) : SeqAt.shaped (.tuple (datas ts)) = true := by
  obtain ⟨a, b⟩ := datas_lay h
  unfold SeqAt.shaped
  simp only [PyData.canLay0, PyData.depth, a, b, Bool.true_and]
  exact decide_eq_true (by omega)
/-! ### more steps -/
section
variable {σ : L2.St} {H H0 : Hp} {K : PySem.W.Frag} {Q : VK} {p q b : Addr} {xs : List V} {m n : Int} {Ms M0 : List Addr} {L : List (Addr × HO)} {R : List Fa} {ds : List PyData} {o : HO}
/-- several ways to a value, one way on -/
theorem x_via {te : TE} (C : VK → Prop) (h : ∀ Q', C Q' → te σ H Q') (k : C Q) : te σ H Q := h Q k
/-- several ways through a statement, one way on -/
theorem x_seqVia {t1 t2 : TS} {D : Ends} (C : (L2.St → Hp → Prop) → Prop) (h : ∀ N, C N → t1 { D with nx := N } σ H) (k : C (t2 D)) : tSeq t1 t2 D σ H := h _ k
theorem x_mulB {u : Str} {b : Bool} (h : u.length ≤ 1000000) (k : Q (.str (Txt.mul u (if b = true then 1 else 0))) H) : rMulS (.str u) (.int (if b = true then 1 else 0)) H Q := by
  cases b
  · exact ⟨u, 0, rfl, rfl, by decide, by omega, k⟩
  · exact ⟨u, 1, rfl, rfl, by decide, by omega, k⟩
theorem x_neD {x y : V} {d e : PyData} (h1 : Dp K H x d) (h2 : Dp K H y e) (s1 : SeqAt.shaped d = true) (s2 : SeqAt.shaped e = true) (q : Q (.bl (!PyData.eqv d e)) H) : uNe K x y H Q := .inr ⟨d, e, h1, h2, s1, s2, q⟩
theorem x_eqD {x y : V} {d e : PyData} (h1 : Dp K H x d) (h2 : Dp K H y e) (s1 : SeqAt.shaped d = true) (s2 : SeqAt.shaped e = true) (q : Q (.bl (PyData.eqv d e)) H) : uEq K x y H Q := .inr ⟨d, e, h1, h2, s1, s2, q⟩
theorem x_strI {i : Int} (h : i.natAbs < 10 ^ 60) (k : Q (.str (Str.ofString (toString i))) H) : (fun (xs : List V) (H : Hp) (Q : VK) => ∃ i, xs = [.int i] ∧ i.natAbs.log2 < 1920 ∧ Q (.str (toString i)) H) [.int i] H Q := ⟨i, rfl, log_of h, k⟩
/-- a tree: its name, number and parts -/
theorem W.tree {v : V} {n : Str} {o : Int} {ps : List Tr} (hw : W K H0 Ms M0 H L R) (i : Nat) (h : R[i]? = some (.rp v (Tr.mk n o ps).data)) : ∃ a pt : Addr, v = .ref a ∧ W K H0 Ms M0 H L (.tp a [.str n, .int o, .ref pt] :: .rp (.ref pt) (.tuple (datas ps)) :: R) := by
  have h := hw.rep _ (List.mem_of_getElem? h)
  simp only [Tr.data] at h
  have h : Dd K (del H (av L M0)) v (.tuple [.str n, .int o, .tuple (datas ps)]) := h
  cases h with
  | @tup a xs _ q r =>
    obtain ⟨v1, vs, rfl, h1, r⟩ := RpAll.cons_inv (K := K) (M0 := av L M0) (H := H) r
    obtain ⟨v2, vs, rfl, h2, r⟩ := RpAll.cons_inv (K := K) (M0 := av L M0) (H := H) r
    obtain ⟨v3, vs, rfl, h3, r⟩ := RpAll.cons_inv (K := K) (M0 := av L M0) (H := H) r
    cases RpAll.nil_inv (K := K) (M0 := av L M0) (H := H) r
    cases Rp.str_inv h1
    cases Rp.int_inv h2
    have h3' := h3
    cases h3 with
    | @tup pt _ _ q3 r3 => exact ⟨a, pt, rfl, (hw.addF (r := .rp (.ref pt) (.tuple (datas ps))) h3').addF (r := .tp a _) q⟩
theorem ite_min (a b : Int) : (if b < a then b else a) = min a b := by
  rw [Int.min_def]
  split <;> split <;> omega
theorem ite_max (a b : Int) : (if b > a then b else a) = max a b := by
  rw [Int.max_def]
  split <;> split <;> omega
theorem x_minM (k : Q (.int (min m n)) H) : uMin K [.int m, .int n] H Q := x_min2 (by rw [ite_min]; exact k)
theorem x_maxM (k : Q (.int (max m n)) H) : uMax K [.int m, .int n] H Q := x_max2 (by rw [ite_max]; exact k)
theorem w_tupleA (hw : W K H0 Ms M0 H L R) (h : H p = some (.lst xs)) (hd : RpAll K (av L M0) H xs ds) (k : ∀ p H', H p = none → W K H0 Ms M0 H' L (.rp (.ref p) (.tuple ds) :: R) → Q (.ref p) H') : uTuple K [.ref p] H Q :=
  ⟨p, xs, rfl, .inl ⟨SqL.of h, fun l hl => k l _ hl (hw.newTup hl hd)⟩⟩
theorem W.knA (hw : W K H0 Ms M0 H L R) (i : Nat) (h : R[i]? = some (.kn p o)) : del H (av L M0) p = some o := hw.rep _ (List.mem_of_getElem? h)
theorem W.knNe (hw : W K H0 Ms M0 H L R) (i j : Nat) {o' : HO} (h : R[i]? = some (.kn p o)) (hj : L[j]? = some (b, o')) : p ≠ b := fun e => by
  have h1 := (del_some (hw.knA i h)).1
  exact h1 (List.mem_append_left _ (List.mem_map.mpr ⟨_, List.mem_of_getElem? hj, e.symm⟩))
/-- facts that don't touch M stand without b of M, too -/
theorem fa_in {M : List Addr} {r : Fa} (h : r.ok K (del H M)) (hb : b ∈ M) : r.ok K (del H (b :: M)) := Fa.ext (del_sub fun x hx => (List.mem_cons.mp hx).elim (fun e => e ▸ hb) id) h
end
end Fw
namespace Fw
open PySem PySem.Spec PyProof.Rows L2
theorem DdAll.item {K : PySem.W.Frag} {H : Hp} : ∀ {vs : List V} {ds : List PyData} {i : Nat} {v : V}, DdAll K H vs ds → vs[i]? = some v → ∃ d, ds[i]? = some d ∧ Dd K H v d
  | _, _, _, _, .nil, e => by simp at e
  | _, _, 0, _, .cons a _, e => by simp at e; subst e; exact ⟨_, rfl, a⟩
  | _, _, i + 1, _, .cons _ b, e => by
    obtain ⟨d, h1, h2⟩ := DdAll.item (i := i) b (by simpa using e)
    exact ⟨d, by simpa using h1, h2⟩
theorem texts_take {ps : List Tr} {i : Nat} {t : Tr} (h : ps[i]? = some t) : texts (ps.take (i + 1)) = texts (ps.take i) ++ [t.text] := by
  rw [texts_map, texts_map, List.take_add_one, h, List.map_append]
  rfl
end Fw
namespace Fw
open PySem PySem.Spec PyProof.Rows L2
section
variable {σ : L2.St} {H : Hp} {Q : VK} {K : PySem.W.Frag} {c : TT} {tb : TS} {D : Ends} {i m : Nat}
/-! ### while -/
def WhB (I : Nat → L2.St → Hp → Prop) (m : Nat) (tb : TS) (D : Ends) (σ : L2.St) (H1 : Hp) : Prop :=
  ∃ N : L2.St → Hp → Prop, (∀ σ' H', N σ' H' → ∃ m', m' < m ∧ I m' σ' H') ∧ tb { D with nx := N, ct := N, bk := D.nx } σ H1
theorem w_while (I : Nat → L2.St → Hp → Prop) (m0 : Nat) (h0 : I m0 σ H) (hs : ∀ m σ H, I m σ H → c σ H fun b H1 => if b = true then WhB I m tb D σ H1 else D.nx σ H1) : tWhile c tb D σ H := ⟨I, ⟨m0, h0⟩, hs⟩
theorem x_whB {I : Nat → L2.St → Hp → Prop} (k : tb (Ends.mk (fun σ' H' => ∃ m', m' < m ∧ I m' σ' H') D.rt D.nx (fun σ' H' => ∃ m', m' < m ∧ I m' σ' H')) σ H) : WhB I m tb D σ H := ⟨_, fun _ _ h => h, k⟩
theorem x_aug {te : TE} {ti : TIp} {x : V} (h : σ[i]? = some (some x)) (k : te σ H fun y H1 => ti x y H1 fun z H2 => D.nx (σ.set i (some z)) H2) : tAug i te ti D σ H := ⟨x, h, k⟩
theorem x_ipI {f : Int → Int → Int} {a b : Int} (k : Q (.int (f a b)) H) : ipI f (.int a) (.int b) H Q := ⟨a, b, rfl, rfl, k⟩
theorem x_orT {ta tc : TE} (k : ta σ H fun x H1 => ∃ k, TruV K x H1 k ∧ if k = true then Q x H1 else tc σ H1 Q) : tOrT K ta tc σ H Q := k
theorem x_truS {u : Str} {F : Bool → Prop} (h : u.length ≤ 1000000) (k : F (decide (u.length ≠ 0))) : ∃ c, TruV K (.str u) H c ∧ F c := by
  refine ⟨_, ⟨Nat.le_trans h (by rw [sizeLine_eq]; decide), rfl⟩, ?_⟩
  have e : ((u.length : Int) != 0) = decide (u.length ≠ 0) := by
    by_cases z : u.length = 0
    · rw [z]; rfl
    · rw [decide_eq_true z]
      simpa using z
  rw [e]
  exact k
end
theorem pe_orK {X : Cx} {K : PySem.W.Frag} {a b : Expr} {rest : List Expr} {ta tb : TE} {pos : Pos} (ha : PE X a ta) (hb : PE X (.BoolOp .Or (b :: rest) pos) tb) (hK : X.K = K := by rfl) : PE X (.BoolOp .Or (a :: b :: rest) pos) (tOrT K ta tb) := hK ▸ pe_orT ha hb
end Fw
namespace Fw
open PySem PySem.Spec PyProof.Rows L2
section
variable {K : PySem.W.Frag} {H0 H H' : Hp} {Ms M0 : List Addr} {L L' : List (Addr × HO)} {R R' : List Fa} {a b c : Addr × HO}
/-- all cells handed on; they stay where they are -/
theorem W.handM (w : W K H0 Ms M0 H L R) : W K H (L.map (·.1)) (L.map (·.1) ++ M0) H L R := by
  refine ⟨Ex.refl, fun x hx => ?_, w.nd, w.cell, fun p hp => .inl (List.mem_map.mpr ⟨p, hp, rfl⟩), fun r hr => Fa.ext (del_sub fun x hx => ?_) (w.rep r hr)⟩
  · exact w.alloc' x hx
  · rcases List.mem_append.mp hx with z | z
    · exact List.mem_append_left _ z
    · exact z
theorem W.lessM {A : List Addr} (w : W K H0 Ms (A ++ M0) H L R) : W K H0 Ms M0 H L R := by
  refine ⟨w.ex, fun x hx => w.al x (List.mem_append_right _ hx), w.nd, w.cell, fun p hp => ?_, fun r hr => Fa.ext (del_sub fun x hx => ?_) (w.rep r hr)⟩
  · exact (w.own p hp).imp id fun z => ⟨z.1, fun y => z.2 (List.mem_append_right _ y)⟩
  · rcases List.mem_append.mp hx with z | z
    · exact List.mem_append_left _ z
    · exact List.mem_append_right _ (List.mem_append_right _ z)
theorem W.backM (w : W K H0 Ms M0 H L R) (w' : W K H (L.map (·.1)) (L.map (·.1) ++ M0) H' L' R') : W K H0 Ms M0 H' L' (R' ++ R) := w.back w'.lessM
theorem W.exBack (w : W K H0 Ms M0 H L R) (e : Ex (L.map (·.1)) H H') : Ex Ms H0 H' := fun x o n z => by
  refine e x o (fun hx => ?_) (w.ex x o n z)
  obtain ⟨q, hq, rfl⟩ := List.mem_map.mp hx
  rcases w.own q hq with h | h
  · exact n h
  · exact nomatch h.1.symm.trans z
theorem W.fresh2 {p : Addr} (w : W K H0 Ms M0 H L R) (h : H p = none) (hs : ∀ x ∈ Ms, x ∈ M0) : H0 p = none := w.fresh h fun z => w.al p (hs p z) h
theorem W.rotL (w : W K H0 Ms M0 H (a :: b :: c :: L) R) : W K H0 Ms M0 H (b :: c :: a :: L) R := w.perm (by
  refine .trans (.cons b (.swap a c L)) ?_
  exact .swap a b (c :: L))
theorem W.rotR (w : W K H0 Ms M0 H (a :: b :: c :: L) R) : W K H0 Ms M0 H (c :: a :: b :: L) R := w.perm (by
  refine .trans (.swap a c (b :: L)) ?_
  exact .cons a (.swap b c L))
end
end Fw
namespace Law
open PySem PySem.Spec PyProof.Rows L2 Fw
/-! ### the law's own going, sign by sign -/
abbrev sg (c : Nat) : Str := ⟨#[c]⟩
def isL (c : Nat) : Bool := decide (97 ≤ c) && decide (c ≤ 122)
def isD (c : Nat) : Bool := decide (48 ≤ c) && decide (c ≤ 57)
def digOk (fig : Option Str) (c : Nat) : Bool := match fig with
  | none => false
  | some f => isD c && (decide (f.length < 6) && !decide (f ++ sg c = "0"))
def noWord (w : Str) (ended : Bool) : Bool := (decide (w = "") || decide (w = "own")) && !ended
def run : List Nat → Str → Option Str → Bool → List Int → Nat → Option Nat
  | [], w, fig, ended, op, i => if noWord w ended = true then some i else if fig = some (Str.ofString "") then some i else if op = [] then none else some i
  | c :: r, w, fig, ended, op, i =>
    if (isL c && (fig.isNone && (!ended && decide (w.length < 6)))) = true then run r (w ++ sg c) fig ended op (i + 1)
    else if noWord w ended = true then some i
    else if (decide (c = 58) && (fig.isNone && !ended)) = true then run r w (some (Str.ofString "")) ended op (i + 1)
    else if digOk fig c = true then run r w (some (fig.getD (Str.ofString "") ++ sg c)) ended op (i + 1)
    else if fig = some (Str.ofString "") then some i
    else if (decide (c = 40) && (!ended && decide (op.length < 30))) = true then run r "" none false (1 :: op) (i + 1)
    else if (decide (c = 44) && decide (op.head? = some 1)) = true then run r "" none false (2 :: op.tail) (i + 1)
    else if (decide (c = 41) && decide (op ≠ [])) = true then run r "x" none true op.tail (i + 1)
    else some i
def bad (z : Str) : Option Nat := run (cd z) "" none false [] 0
def figV : Option Str → V
  | none => .non
  | some f => .str f
def badV : Option Nat → V
  | none => .non
  | some k => .int k
end Law
namespace Law
open PySem PySem.Spec PyProof.Rows L2 Fw
/-! ### the going, token by token -/
abbrev st (l : List Nat) : Str := ⟨l.toArray⟩
theorem st_app (l m : List Nat) : st (l ++ m) = st l ++ st m := str_ext (by rw [show (st l ++ st m).cps.toList = cd (st l) ++ cd (st m) from cd_app _ _])
theorem app_sg (w : Str) (c : Nat) (l : List Nat) : w ++ sg c ++ st l = w ++ st (c :: l) := str_ext (by
  show cd _ = cd _
  rw [cd_app, cd_app, cd_app, List.append_assoc]
  rfl)
theorem app_nil (w : Str) : w ++ st [] = w := str_ext (by show cd _ = _; rw [cd_app]; simp)
theorem nil_app (w : Str) : Str.ofString "" ++ w = w := str_ext (by show cd _ = _; rw [cd_app]; show [] ++ _ = _; simp)
/-- behind a node that is whole -/
def brk : List Nat → List Int → Nat → Option Nat
  | [], op, i => if op = [] then none else some i
  | c :: r, op, i => if (decide (c = 44) && decide (op.head? = some 1)) = true then run r "" none false (2 :: op.tail) (i + 1) else if (decide (c = 41) && decide (op ≠ [])) = true then run r "x" none true op.tail (i + 1) else some i
theorem run_ended (T : List Nat) (op : List Int) (i : Nat) : run T "x" none true op i = brk T op i := by
  cases T with
  | nil =>
    rw [run, brk, if_neg (by unfold noWord; simp), if_neg (by simp)]
  | cons c r =>
    rw [run, brk]
    rw [if_neg (by simp), if_neg (by unfold noWord; simp), if_neg (by simp), if_neg (by simp [digOk]), if_neg (by simp), if_neg (by simp)]
theorem run_letters : ∀ (l rest : List Nat) (w : Str) (op : List Int) (i : Nat), (∀ c ∈ l, isL c = true) → w.length + l.length ≤ 6 → run (l ++ rest) w none false op i = run rest (w ++ st l) none false op (i + l.length)
  | [], rest, w, op, i, _, _ => by rw [app_nil]; rfl
  | c :: l, rest, w, op, i, h, h6 => by
    rw [List.cons_append, run, if_pos (by
      rw [h c (List.mem_cons_self ..)]
      simp only [Option.isNone_none, Bool.not_false, Bool.true_and, decide_eq_true_eq]
      rw [List.length_cons] at h6
      omega)]
    rw [run_letters l rest (w ++ sg c) op (i + 1) (fun d hd => h d (List.mem_cons_of_mem _ hd)) (by rw [strLen_append]; rw [List.length_cons] at h6; show _ + 1 + _ ≤ _; omega), app_sg, List.length_cons]
    congr 1
    omega
/-- nothing more belongs to the word -/
def stopL (w : Str) (T : List Nat) : Prop := w.length = 6 ∨ ∀ c r, T = c :: r → isL c = false
def stopD (f : Str) (T : List Nat) : Prop := f.length = 6 ∨ ∀ c r, T = c :: r → isD c = false
theorem no_letter {w : Str} {c : Nat} {r : List Nat} (h : stopL w (c :: r)) (fig : Option Str) (e : Bool) : ¬ (isL c && (fig.isNone && (!e && decide (w.length < 6)))) = true := by
  rcases h with h | h
  · rw [h]; simp
  · rw [h c r rfl]; simp
theorem run_noWord {w : Str} {T : List Nat} (h : stopL w T) (hw : noWord w false = true) (op : List Int) (i : Nat) : run T w none false op i = some i := by
  cases T with
  | nil => rw [run, if_pos hw]
  | cons c r => rw [run, if_neg (no_letter h none false), if_pos hw]
theorem run_colon {w : Str} {r : List Nat} (hw : noWord w false = false) (op : List Int) (i : Nat) : run (58 :: r) w none false op i = run r w (some (Str.ofString "")) false op (i + 1) := by
  rw [run, if_neg (by simp [isL]), if_neg (by rw [hw]; simp), if_pos (by simp)]
theorem run_digits : ∀ (l rest : List Nat) (w f : Str) (op : List Int) (i : Nat), noWord w false = false → (∀ c ∈ l, isD c = true) → f.length + l.length ≤ 6 → (f.length = 0 → l.head? ≠ some 48) → run (l ++ rest) w (some f) false op i = run rest w (some (f ++ st l)) false op (i + l.length)
  | [], rest, w, f, op, i, _, _, _, _ => by rw [app_nil]; rfl
  | c :: l, rest, w, f, op, i, hw, h, h6, h0 => by
    have hc := h c (List.mem_cons_self ..)
    have hc' : 48 ≤ c ∧ c ≤ 57 := by simpa [isD] using hc
    have hL : isL c = false := by unfold isL; rw [decide_eq_false (by omega)]; rfl
    have hz : decide (f ++ sg c = Str.ofString "0") = false := by
      refine decide_eq_false fun e => ?_
      have e1 := congrArg cd e
      rw [cd_app] at e1
      have e2 : cd (Str.ofString "0") = [48] := by decide +kernel
      rw [e2] at e1
      have hl := congrArg List.length e1
      rw [List.length_append] at hl
      have hf0 : (cd f) = [] := List.eq_nil_of_length_eq_zero (by have : (cd (sg c)).length = 1 := rfl; have : ([48] : List Nat).length = 1 := rfl; omega)
      rw [hf0] at e1
      have : c = 48 := by
        have e3 : [c] = [48] := e1
        simpa using e3
      exact h0 (by rw [← cd_len, hf0]; rfl) (by rw [this]; rfl)
    rw [List.length_cons] at h6
    rw [List.cons_append, run, if_neg (by rw [hL]; simp), if_neg (by rw [hw]; simp), if_neg (by simp), if_pos (by
      show (isD c && (decide (f.length < 6) && !decide (f ++ sg c = Str.ofString "0"))) = true
      rw [hc, hz]
      simp only [Bool.not_false, Bool.and_true, Bool.true_and, decide_eq_true_eq]
      omega)]
    rw [show (some f).getD (Str.ofString "") = f from rfl]
    rw [run_digits l rest w (f ++ sg c) op (i + 1) hw (fun d hd => h d (List.mem_cons_of_mem _ hd)) (by rw [strLen_append]; show _ + 1 + _ ≤ _; omega) (fun z => by rw [strLen_append] at z; exact absurd z (by show ¬ (_ + 1 = 0); omega)), app_sg, List.length_cons]
    congr 1
    omega
theorem run_noFig {w : Str} {T : List Nat} (hw : noWord w false = false) (h : ∀ c r, T = c :: r → isD c = false ∨ c = 48) (op : List Int) (i : Nat) : run T w (some (Str.ofString "")) false op i = some i := by
  cases T with
  | nil => rw [run, if_neg (by rw [hw]; simp), if_pos rfl]
  | cons c r =>
    rw [run, if_neg (by simp), if_neg (by rw [hw]; simp), if_neg (by simp), if_neg ?_, if_pos rfl]
    show ¬ (isD c && (decide ((Str.ofString "").length < 6) && !decide (Str.ofString "" ++ sg c = Str.ofString "0"))) = true
    rcases h c r rfl with h | rfl
    · rw [h]; simp
    · have : Str.ofString "" ++ sg 48 = Str.ofString "0" := by decide +kernel
      rw [this]; simp
/-- the node is whole: a bracket, a comma or the end comes -/
theorem run_whole {w : Str} {fig : Option Str} {T : List Nat} (hw : noWord w false = false) (h1 : fig ≠ some (Str.ofString "")) (h2 : fig = none → stopL w T ∧ ∀ r, T ≠ 58 :: r) (h3 : ∀ f, fig = some f → stopD f T) (op : List Int) (i : Nat) :
    (∀ r, T = 40 :: r → op.length < 30 → run T w fig false op i = run r "" none false (1 :: op) (i + 1)) ∧ ((∀ r, T = 40 :: r → ¬ op.length < 30) → run T w fig false op i = brk T op i) := by
  cases T with
  | nil =>
    refine ⟨fun r e => (nomatch e), fun _ => ?_⟩
    rw [run, brk, if_neg (by rw [hw]; simp), if_neg h1]
  | cons c r =>
    have key : run (c :: r) w fig false op i = if (decide (c = 40) && (!false && decide (op.length < 30))) = true then run r "" none false (1 :: op) (i + 1) else brk (c :: r) op i := by
      rw [run, brk]
      have n1 : ¬ (isL c && (fig.isNone && (!false && decide (w.length < 6)))) = true := by
        cases fig with
        | none => exact no_letter (h2 rfl).1 none false
        | some f => simp
      have n3 : ¬ (decide (c = 58) && (fig.isNone && !false)) = true := by
        cases fig with
        | none =>
          have : c ≠ 58 := fun z => (h2 rfl).2 r (by rw [z])
          simp [this]
        | some f => simp
      have n4 : ¬ digOk fig c = true := by
        cases fig with
        | none => simp [digOk]
        | some f =>
          show ¬ (isD c && (decide (f.length < 6) && !decide (f ++ sg c = Str.ofString "0"))) = true
          rcases h3 f rfl with h | h
          · rw [h]; simp
          · rw [h c r rfl]; simp
      rw [if_neg n1, if_neg (by rw [hw]; simp), if_neg n3, if_neg n4, if_neg h1]
    refine ⟨fun r' e ho => ?_, fun ho => ?_⟩
    · cases e
      rw [key, if_pos (by simp [ho])]
    · rw [key, if_neg ?_]
      intro z
      simp only [Bool.and_eq_true, decide_eq_true_eq] at z
      exact ho r (by rw [z.1]) z.2.2
end Law
namespace Law
open PySem PySem.Spec PyProof.Rows L2 Fw
/-! ### a number's text -/
theorem val_lt : ∀ (l : List Nat) (a : Nat), (∀ c ∈ l, isD c = true) → l.foldl (fun acc c => acc * 10 + (c - 48)) a < (a + 1) * 10 ^ l.length
  | [], a, _ => by simp
  | c :: l, a, h => by
    have hc : 48 ≤ c ∧ c ≤ 57 := by simpa [isD] using h c (List.mem_cons_self ..)
    have ih := val_lt l (a * 10 + (c - 48)) fun d hd => h d (List.mem_cons_of_mem _ hd)
    rw [List.foldl_cons, List.length_cons]
    refine Nat.lt_of_lt_of_le ih ?_
    rw [Nat.pow_succ, Nat.mul_comm (10 ^ l.length) 10, ← Nat.mul_assoc]
    exact Nat.mul_le_mul_right _ (by omega)
theorem dig_text {l : List Nat} (h : ∀ c ∈ l, isD c = true) (h1 : 1 ≤ l.length) (h6 : l.length ≤ 6) (h0 : l.head? ≠ some 48) : ∃ o : Int, PySem.intText? (st l) = some o ∧ 0 < o ∧ o < 1000000 ∧ cd (Str.ofString (toString o)) = l := by
  have hA : NumText.AllDigits l := fun c hc => by simpa [isD] using h c hc
  obtain ⟨c, r, rfl⟩ : ∃ c r, l = c :: r := by
    cases l with
    | nil => simp at h1
    | cons c r => exact ⟨c, r, rfl⟩
  have hc := hA c (List.mem_cons_self ..)
  have hc49 : 49 ≤ c := by
    have : c ≠ 48 := fun z => h0 (by rw [z]; rfl)
    omega
  refine ⟨(NumText.digitsVal (c :: r) : Nat), ?_, ?_, ?_, ?_⟩
  · exact SX.int_S (List.all_eq_true.mpr fun d hd => by have := hA d hd; simpa using this) (by simp) (by omega)
  · have := NumText.digitsVal_pos (cs := r) hc49
    omega
  · have := val_lt (c :: r) 0 h
    have h10 : 10 ^ (c :: r).length ≤ 10 ^ 6 := Nat.pow_le_pow_right (by decide) h6
    have : NumText.digitsVal (c :: r) < 10 ^ 6 := by
      show (c :: r).foldl _ 0 < _
      omega
    omega
  · show (PySem.Str.ofString (toString ((NumText.digitsVal (c :: r) : Nat) : Int))).cps.toList = _
    rw [PySem.W.KIN.signs_num, NumText.toDigits_digitsVal r.length (c :: r) rfl hA (.inr ⟨c, r, rfl, hc49⟩), List.map_map]
    conv => rhs; rw [← List.map_id (c :: r)]
    refine List.map_congr_left fun d hd => ?_
    have := hA d hd
    show (Char.ofNat d).toNat = d
    have hv : d.isValidChar := .inl (by omega)
    simp [Char.ofNat, hv, Char.toNat, Char.ofNatAux]
/-! ### what was read -/
structure Fra where
  na : Addr
  pa : Addr
  n : Str
  o : Int
  us : List V
  ts : List Tr
def Fra.tree (f : Fra) : Tr := .mk f.n f.o f.ts
def headT (n : Str) (o : Int) : Str := n ++ Txt.mul (":" ++ Str.ofString (toString o)) (if decide (0 < o) = true then 1 else 0)
def fcells (f : Fra) : List (Addr × HO) := [(f.na, .lst [.str f.n, .int f.o, .ref f.pa]), (f.pa, .lst f.us)]
def scells : List Fra → List (Addr × HO)
  | [] => []
  | f :: r => (f.na, .lst [.str f.n, .int f.o, .ref f.pa]) :: (f.pa, .lst f.us) :: scells r
def sfacts (l : List Fra) : List Fa := l.map fun f => .al f.us (datas f.ts)
def opnd (l : List Fra) : HO := .lst (l.map fun f => V.ref f.na).reverse
def pcs (ts : List Tr) : List Nat := ts.flatMap fun t => cd t.text ++ [44]
def pre : List Fra → List Nat
  | [] => []
  | f :: r => pre r ++ cd (headT f.n f.o) ++ [40] ++ pcs f.ts
structure OkF (j : Nat) (f : Fra) : Prop where
  nm : NameOk f.n
  o0 : 0 ≤ f.o
  o6 : f.o < 1000000
  ts : TrsOk f.ts
  l1 : f.ts.length ≤ 1
  hi : highs f.ts + j ≤ 30
  lu : f.us.length = f.ts.length
def OkSt : List Fra → Prop
  | [] => True
  | f :: r => OkF r.length f ∧ OkSt r
def cnt (l : List Fra) : List Int := l.map fun f => 1 + (f.ts.length : Int)
theorem join_snoc (us : List Tr) (t : Tr) : cd (Txt.join "," (texts (us ++ [t]))) = pcs us ++ cd t.text := by
  have e : ∀ ys, Txt.join "," ys = Str.join "," ys := fun ys => PySem.StrLaws.glued_eq_join "," ys
  rw [e, texts_map]
  induction us with
  | nil => rfl
  | cons u r ih =>
    obtain ⟨x, ys, hx⟩ : ∃ x ys, (r ++ [t]).map Tr.text = x :: ys := by
      cases h : (r ++ [t]).map Tr.text with
      | nil => simp at h
      | cons x ys => exact ⟨x, ys, rfl⟩
    rw [List.cons_append, List.map_cons, hx]
    have e2 : Str.join "," (u.text :: x :: ys) = u.text ++ "," ++ Str.join "," (x :: ys) := rfl
    rw [e2, ← hx, cd_app, cd_app, ih]
    have e3 : cd (Str.ofString ",") = [44] := by decide +kernel
    rw [e3]
    simp [pcs]
theorem text_none (n : Str) (o : Int) : cd (Tr.mk n o []).text = cd (headT n o) := by
  have e : (Tr.mk n o []).text = headT n o ++ Txt.mul (("(" ++ Txt.join "," (texts [])) ++ ")") 0 := by simp only [Tr.text]; rfl
  rw [e, cd_app, mul0]
  simp
theorem text_snoc (n : Str) (o : Int) (us : List Tr) (t : Tr) : cd (Tr.mk n o (us ++ [t])).text = cd (headT n o) ++ [40] ++ pcs us ++ cd t.text ++ [41] := by
  have e : (Tr.mk n o (us ++ [t])).text = headT n o ++ Txt.mul (("(" ++ Txt.join "," (texts (us ++ [t]))) ++ ")") 1 := by
    simp only [Tr.text]
    rw [show (decide ((us ++ [t]) ≠ [])) = true from decide_eq_true (by simp)]
    rfl
  have e1 : cd (Str.ofString "(") = [40] := by decide +kernel
  have e2 : cd (Str.ofString ")") = [41] := by decide +kernel
  rw [e, cd_app, mul1, cd_app, cd_app, join_snoc, e1, e2]
  simp
def figT : Option Str → List Nat
  | none => []
  | some f => 58 :: cd f
theorem head_fig {fig : Option Str} {nm : Str} {o : Int} (ho : (fig = none ∧ o = 0) ∨ ∃ l, fig = some (st l) ∧ 0 < o ∧ cd (Str.ofString (toString o)) = l) : cd (headT nm o) = cd nm ++ figT fig := by
  unfold headT
  rw [cd_app]
  congr 1
  rcases ho with ⟨rfl, rfl⟩ | ⟨l, rfl, h0, h1⟩
  · rfl
  · rw [decide_eq_true h0, if_pos rfl, mul1, cd_app, h1]
    have e1 : cd (Str.ofString ":") = [58] := by decide +kernel
    rw [e1]
    rfl
end Law
namespace Law
open PySem PySem.Spec PyProof.Rows L2 Fw
def topS (i : Nat) : Stmt := PySem.Challenge.pw_threereckons_k19_texts_of_trees_spoilt.main.body.getD i (.Pass ⟨0, 0, 0, 0⟩)
structure Blt (mg : Str → Option Value) : Prop where
  len : mg "len" = none
  abs : mg "abs" = none
  int' : mg "int" = none
  list : mg "list" = none
  range : mg "range" = none
  enumerate : mg "enumerate" = none
/-! ### the draws -/
structure Bx (a s c : Int) : Prop where
  a0 : 0 ≤ a
  s0 : 0 ≤ s
  s1 : s < 2 ^ 62
  c0 : 0 ≤ c
abbrev box (a s c : Int) : HO := .lst [.int a, .int s, .int c]
abbrev s_law_take : Stmt := topS 23
theorem sc_law_take : FnScope ["_law_box", "_law_many", "_law_found", "_law_once", "_law_twice"] ["_law_box", "_law_many"] (defScope s_law_take) := ⟨rfl, rfl, rfl, by decide +kernel, rfl, by decide +kernel, by decide +kernel⟩

def spTake : Sp := fun vs H Q _ => ∃ (b : Addr) (a s c m : Int), vs = [.ref b, .int m] ∧ H b = some (box a s c) ∧ Bx a s c ∧ c < 2 ^ 40 ∧ 0 < m ∧ m < 2 ^ 30 ∧
  ∀ r a' c' H', 0 ≤ r → r < m → Bx a' s c' → c' ≤ c + 1 → Ex [b] H H' → H' b = some (box a' s c') → Q (.int r) H'
section
variable {P : Program} {w : World} {K : PySem.W.Frag} {mg : Str → Option Value} {base : Heap}
theorem ok_take {f : Addr} {fd : FuncData} {k : Nat} (F : Fun K "_law_take" "_law_take" s_law_take f fd) (B : Blt mg) : FnOk P w K mg base CX0 (k + 1) f fd ["_law_box", "_law_many"] spTake := by
  refine okS F sc_law_take (fun vs H Q E h => ?_) (fun cdv A outer s H0 vs Q E hr h => ?_)
  · obtain ⟨b, a, s, c, m, rfl, _⟩ := h
    rfl
  obtain ⟨b, a, s, c, m, rfl, hb, bx, hc, h0, h1, q⟩ := h
  have hA := bx.a0
  have hS := bx.s0
  have hS1 := bx.s1
  have hC := bx.c0
  have hw : W K H0 [b] [] H0 [(b, box a s c)] [] := W.start1 hb (fun _ z => nomatch z) (fun _ z => nomatch z)
  refine ⟨_, [some (.ref b), some (.int m), none, none, none], (pss_cons (ps_if (pt_cmpR (op_gt) (pe_ix (ix_U (K := K)) (pv 0) pe_int (fun _ _ => rfl)) pe_int (nomark _)) (pss_cons (ps_set (i := 2) sc_law_take.nd rfl (Or.inl rfl) (pe_op op_mod (pe_ix (ix_U (K := K)) (pv 0) pe_int (fun _ _ => rfl)) (pv 1)))
  (pss_cons (ps_asg (pe_op op_fdiv (pe_ix (ix_U (K := K)) (pv 0) pe_int (fun _ _ => rfl)) (pv 1)) (pg_sub (pv 0) pe_int set_list))
  (pss_one (ps_ret (pv 2))))) pss_nil)
  (pss_cons (ps_asg (pe_op (op_addU (K := K)) (pe_ix (ix_U (K := K)) (pv 0) pe_int (fun _ _ => rfl)) pe_int) (pg_sub (pv 0) pe_int set_list))
  (pss_cons (ps_set (i := 3) sc_law_take.nd rfl (Or.inl rfl) (pe_op op_mod (pe_op op_pow (pe_op (op_addU (K := K)) (pe_ix (ix_U (K := K)) (pv 0) pe_int (fun _ _ => rfl)) (pe_op (op_mulU (K := K)) pe_int (pe_ix (ix_U (K := K)) (pv 0) pe_int (fun _ _ => rfl)))) pe_int) pe_int))
  (pss_cons (ps_set (i := 4) sc_law_take.nd rfl (Or.inl rfl) (pe_op op_mod (pe_op (op_mulU (K := K)) (pe_op (op_addU (K := K)) (pe_op (op_addU (K := K)) (pv 3) (pe_ix (ix_U (K := K)) (pv 0) pe_int (fun _ _ => rfl))) (pe_op op_fdiv (pe_ix (ix_U (K := K)) (pv 0) pe_int (fun _ _ => rfl)) pe_int)) (pe_op (op_addU (K := K)) (pe_op (op_addU (K := K)) (pe_op op_mod (pv 3) pe_int) pe_int) (pe_ix (ix_U (K := K)) (pv 0) pe_int (fun _ _ => rfl)))) pe_int))
  (pss_one (ps_ret (pe_op op_mod (pe_op op_fdiv (pe_op op_mod (pe_op (op_addU (K := K)) (pe_op (op_mulU (K := K)) (pv 4) pe_int) (pv 3)) pe_int) pe_int) (pv 1)))))))), rfl, ?_⟩
  walk_at "sx"
  refine x_ifd (fun c1 => ?_) (fun c1 => ?_)
  · walk_at "sx"
    exact q _ _ _ _ (Int.emod_nonneg _ (by omega)) (Int.emod_lt_of_pos _ h0) ⟨Int.ediv_nonneg hA (by omega), hS, hS1, hC⟩ (by omega) hw.ex (hw.at 0 rfl)
  · walk_at "sx"
    exact q _ _ _ _ (Int.emod_nonneg _ (by omega)) (Int.emod_lt_of_pos _ h0) ⟨hA, hS, hS1, by omega⟩ (by omega) hw.ex (hw.at 0 rfl)
end
theorem x_take {K : PySem.W.Frag} {H0 H : Hp} {Ms M0 : List Addr} {L : List (Addr × HO)} {R : List Fa} {b : Addr} {a s c m : Int} {Q : VK} {E : XK} (hw : W K H0 Ms M0 H L R) (n : Nat) (hL : L[n]? = some (b, box a s c)) (bx : Bx a s c) (hc : c < 2 ^ 40) (h0 : 0 < m) (h1 : m < 2 ^ 30)
    (q : ∀ r a' c' H', 0 ≤ r → r < m → Bx a' s c' → c' ≤ c + 1 → W K H0 Ms M0 H' (L.set n (b, box a' s c')) R → Q (.int r) H') : spTake ([.ref b, .int m] ++ []) H Q E :=
  ⟨b, a, s, c, m, rfl, hw.at n hL, bx, hc, h0, h1, fun r a' c' H' r0 r1 bx' c1 e hb => q r a' c' H' r0 r1 bx' c1 (hw.call n hL e hb)⟩
abbrev s_law_dip : Stmt := topS 22
theorem sc_law_dip : FnScope ["_law_script", "_law_k", "_law_cell"] ["_law_script", "_law_k"] (defScope s_law_dip) := ⟨rfl, rfl, rfl, by decide +kernel, rfl, by decide +kernel, by decide +kernel⟩

/-- a new box of a list's k-th number -/
def spDip (K : PySem.W.Frag) : Sp := fun vs H Q _ => ∃ (M : List Addr) (a : Addr) (ns : List Int) (k : Int), vs = [.ref a, .int k] ∧ Al M H ∧ Rp K M H (.ref a) (.list (ns.map .int)) ∧ 0 ≤ k ∧ k ≤ 1000 ∧
  ∀ x y p H', Bx x y 0 → H p = none → Ex [] H H' → H' p = some (box x y 0) → Q (.ref p) H'
theorem at_ints {ns : List Int} {k : Int} (h0 : 0 ≤ k) (h1 : k < ns.length) : atI (ns.map V.int) k = some (.int (ns[k.toNat]'(by omega))) := by
  have e : k = ((k.toNat : Nat) : Int) := by omega
  have q : atI (ns.map V.int) ((k.toNat : Nat) : Int) = some (.int (ns[k.toNat]'(by omega))) := atI_nat (by rw [List.getElem?_map, List.getElem?_eq_getElem (by omega)]; rfl)
  rw [← e] at q
  exact q
theorem mul_nn {x : Int} (b : Bool) (h : 0 ≤ x) : 0 ≤ x * (if b then 1 else 0) := by
  cases b
  · simp
  · simp; exact h
section
variable {P : Program} {w : World} {K : PySem.W.Frag} {mg : Str → Option Value} {base : Heap}
theorem ok_dip {f : Addr} {fd : FuncData} {k : Nat} (F : Fun K "_law_dip" "_law_dip" s_law_dip f fd) (B : Blt mg) : FnOk P w K mg base CX0 (k + 1) f fd ["_law_script", "_law_k"] (spDip K) := by
  refine okS F sc_law_dip (fun vs H Q E h => ?_) (fun cdv A outer s H0 vs Q E hr h => ?_)
  · obtain ⟨M, a, ns, k, rfl, _⟩ := h
    rfl
  obtain ⟨M, a, ns, k, rfl, hM, hb, h0, h1, q⟩ := h
  have hw : W K H0 [] M H0 [] [.rp (.ref a) (.list (ns.map .int))] := W.start0 hM (fun r z => by rw [List.mem_singleton.mp z]; exact hb)
  refine ⟨_, [some (.ref a), some (.int k), none], (pss_cons (ps_set (i := 2) sc_law_dip.nd rfl (Or.inl rfl) (pe_ifExp (pt_cmpR (op_lt) (pv 1) (pe_callB (call_lenU (K := K)) (by rfl) B.len (by decide +kernel) (pa_cons (pv 0) pa_nil)) (nomark _)) (pe_ix (ix_U (K := K)) (pv 0) (pv 1) (fun _ _ => rfl)) pe_int))
  (pss_one (ps_ret (pe_lst (pa_cons (pe_op (op_mulU (K := K)) (pe_callB call_absU (by rfl) B.abs (by decide +kernel) (pa_cons (pv 2) pa_nil)) (pe_callTy call_intU (by rfl) B.int' (by decide +kernel) (pa_cons (pe_cmpR (op_ge) (pe_callB call_absU (by rfl) B.abs (by decide +kernel) (pa_cons (pv 2) pa_nil)) (pe_powc (z := 1000000000000000000) ⟨by decide, by decide, by decide⟩ (by rfl)) (nomark _)) pa_nil))) (pa_cons (pe_op (op_addU (K := K)) (pe_op (op_addU (K := K)) (pe_op op_mod (pv 2) pe_int) (pe_op (op_mulU (K := K)) pe_int (pv 1))) pe_int) (pa_cons pe_int pa_nil))))))), rfl, ?_⟩
  walk_at "sx"
  refine x_ifd (fun c1 => ?_) (fun c1 => ?_)
  · rw [List.length_map] at c1
    refine x_op (x_var rfl (x_var rfl (x_ixL (SqL.of hb.ints) (at_ints h0 c1) ?_)))
    generalize ns[k.toNat]'_ = n
    walk_at "sx"
    exact q _ _ p H ⟨mul_nn _ (by split <;> omega), by omega, by omega, by omega⟩ hp hw.ex (hw.at 0 rfl)
  · walk_at "sx"
    exact q _ _ p H ⟨mul_nn _ (by split <;> omega), by omega, by omega, by omega⟩ hp hw.ex (hw.at 0 rfl)
end
abbrev s_law_folded : Stmt := topS 24
theorem sc_law_folded : FnScope ["_law_script", "_law_size", "_law_cells", "_law_k", "_law_cell"] ["_law_script", "_law_size"] (defScope s_law_folded) := ⟨rfl, rfl, rfl, by decide +kernel, rfl, by decide +kernel, by decide +kernel⟩

/-- a new list of numbers, at most z of them, one at least where there is one -/
def spFolded (K : PySem.W.Frag) : Sp := fun vs H Q _ => ∃ (a : Addr) (ns : List Int) (z : Nat), vs = [.ref a, .int (z : Int)] ∧ SqL K H a (ns.map V.int) ∧ 0 < z ∧ z ≤ 1000 ∧ ns.length ≤ 1000 ∧
  ∀ (ms : List Int) p H', ms.length = min z ns.length → H p = none → Ex [] H H' → H' p = some (.lst (ms.map V.int)) → Q (.ref p) H'
theorem cut_to {xs : List V} (z : Nat) : cutV xs none (some (z : Int)) = xs.take z := by
  unfold cutV
  rw [HT.sIx_none, HT.sIx_nat, List.drop_zero, Nat.sub_zero]
  by_cases h : z ≤ xs.length
  · rw [Nat.min_eq_left h]
  · rw [Nat.min_eq_right (by omega), List.take_length, List.take_of_length_le (by omega)]
theorem cut_from {xs : List V} (z : Nat) (u : Option Int) (h : xs.length ≤ z) : cutV xs (some (z : Int)) u = [] := by
  unfold cutV
  rw [HT.sIx_nat, Nat.min_eq_right h, List.drop_length, List.take_nil]
theorem cut_mem {ns : List Int} {lo hi : Option Int} {i : Nat} {x : V} (h : (cutV (ns.map V.int) lo hi)[i]? = some x) : ∃ n, x = .int n := by
  have h1 : x ∈ ns.map V.int := List.mem_of_mem_drop (List.mem_of_mem_take (List.mem_of_getElem? h))
  obtain ⟨n, _, e⟩ := List.mem_map.mp h1
  exact ⟨n, e.symm⟩
section
variable {P : Program} {w : World} {K : PySem.W.Frag} {mg : Str → Option Value} {base : Heap}
theorem ok_folded {f : Addr} {fd : FuncData} {k : Nat} (F : Fun K "_law_folded" "_law_folded" s_law_folded f fd) (B : Blt mg) : FnOk P w K mg base CX0 (k + 1) f fd ["_law_script", "_law_size"] (spFolded K) := by
  refine okS F sc_law_folded (fun vs H Q E h => ?_) (fun cdv A outer s H0 vs Q E hr h => ?_)
  · obtain ⟨a, ns, z, rfl, _⟩ := h
    rfl
  obtain ⟨a, ns, z, rfl, hb, z0, z1, hn, q⟩ := h
  have hw : W K H0 [] [] H0 [] [] := W.start0 (fun _ z => nomatch z) (fun _ z => nomatch z)
  refine ⟨_, [some (.ref a), some (.int z), none, none, none], (pss_cons (ps_set (i := 2) sc_law_folded.nd rfl (Or.inl rfl) (pe_callTy (call_listU (K := K)) (by rfl) B.list (by decide +kernel) (pa_cons (pe_slice (sl_U (K := K)) (pv 0) po_none (po_some (pv 1))) pa_nil)))
  (pss_cons (ps_for PassesOwn.never rfl (pi_En (K := K) (by rfl) B.enumerate (pa_cons (pe_slice (sl_U (K := K)) (pv 0) (po_some (pv 1)) (po_some pe_int)) pa_nil)) (pg_T (K := K) (n := 2) rfl (pgs_cons (pg_name (i := 3) sc_law_folded.nd rfl (Or.inl rfl)) (pgs_cons (pg_name (i := 4) sc_law_folded.nd rfl (Or.inl rfl)) pgs_nil))) (pss_one (ps_asg (pe_op (op_addU (K := K)) (pe_ix (ix_U (K := K)) (pv 2) (pe_op op_mod (pv 3) (pv 1)) (fun _ _ => rfl)) (pe_op (op_mulU (K := K)) (pv 4) (pe_op (op_addU (K := K)) (pv 3) pe_int))) (pg_sub (pv 2) (pe_op op_mod (pv 3) (pv 1)) set_list))))
  (pss_one (ps_ret (pv 2))))), rfl, ?_⟩
  walk_at "sx"
  rename_i p2 _ _ _ p1 _ _ _
  refine w_for (walk_enum (xs := cutV (ns.map V.int) (some z) (some 63))) (fun i σ H' => ∃ (ms : List Int) (y3 y4 : Option V), σ = [some (.ref a), some (.int z), some (.ref p1), y3, y4] ∧ ms.length = min z ns.length ∧
    W K H0 [] [] H' [(p, .lst (cutV (ns.map V.int) (some z) (some 63))), (p1, .lst (ms.map V.int)), (p2, .lst (cutV (ns.map V.int) none (some z)))] []) ?_ ?_ ?_ ?_
  · rw [cut_to, ← List.map_take] at hw
    rw [cut_to]
    refine ⟨ns.take z, none, none, rfl, by rw [List.length_take], ?_⟩
    rw [← List.map_take]
    exact hw
  · rintro i σ H' _ ⟨ms, y3, y4, rfl, _, hw⟩
    exact SqL.of (hw.at 0 rfl)
  · rintro i x σ H H' hi ⟨ms, y3, y4, rfl, hl, hw⟩ ⟨T, x, y, rfl, hT, rfl, e1, e2⟩
    cases e1
    obtain ⟨n, rfl⟩ := cut_mem e2
    have hz : z < ns.length := by
      rcases Nat.lt_or_ge z ns.length with h | h
      · exact h
      · rw [cut_from z _ (by rw [List.length_map]; exact h)] at hi
        exact absurd hi (Nat.not_lt_zero _)
    have hw := hw.pure (Ex.new (o := .tup [.int i, .int n]) hT)
    have hTT : SqT K (upd H T (.tup [.int i, .int n])) T [.int i, .int n] := .inl (.inl upd_same)
    have h63 : i < 1000 := by
      have := hi
      unfold cutV at this
      rw [List.length_take, List.length_drop, List.length_map] at this
      omega
    have hmod0 : 0 ≤ (i : Int) % z := Int.emod_nonneg _ (by omega)
    have hmod1 : (i : Int) % z < z := Int.emod_lt_of_pos _ (by omega)
    have hat : atI (ms.map V.int) ((i : Int) % z) = some (.int (ms[((i : Int) % z).toNat]'(by omega))) := at_ints hmod0 (by omega)
    have hix : ixN (ms.map V.int).length ((i : Int) % z) = some ((i : Int) % z).toNat := by
      unfold ixN
      rw [if_pos hmod0, if_pos (by rw [List.length_map]; omega)]
    generalize ms[((i : Int) % z).toNat]'_ = mm at hat
    walk_at "sx"
    refine ⟨ms.set ((i : Int) % z).toNat (mm + n * ((i : Int) + 2)), _, _, rfl, by rw [List.length_set]; exact hl, ?_⟩
    rw [List.map_set]
    exact hw
  · rintro σ H ⟨ms, y3, y4, rfl, hl, hw⟩
    walk_at "sx"
    exact q ms p1 H hl (hw.fresh0 1 rfl) (hw.ex) (hw.at 1 rfl)
end
end Law
namespace Law
open PySem PySem.Spec PyProof.Rows L2 Fw
structure BltT (mg : Str → Option Value) : Prop extends Blt mg where
  min : mg "min" = none
  tuple : mg "tuple" = none
abbrev s_law_one_of : Stmt := topS 25
theorem sc_law_one_of : FnScope ["_law_box", "_law_some"] ["_law_box", "_law_some"] (defScope s_law_one_of) := ⟨rfl, rfl, rfl, by decide +kernel, rfl, by decide +kernel, by decide +kernel⟩

abbrev s_law_number : Stmt := topS 28
theorem sc_law_number : FnScope ["_law_box"] ["_law_box"] (defScope s_law_number) := ⟨rfl, rfl, rfl, by decide +kernel, rfl, by decide +kernel, by decide +kernel⟩

abbrev s_law_named : Stmt := topS 27
theorem sc_law_named : FnScope ["_law_box", "_law_many", "_law_letters", "_law_found", "_law_words", "_law_k", "_law_name", "_law_turn"] ["_law_box", "_law_many"] (defScope s_law_named) := ⟨rfl, rfl, rfl, by decide +kernel, rfl, by decide +kernel, by decide +kernel⟩

def spOneOf (K : PySem.W.Frag) : Sp := fun vs H Q _ => ∃ (b p : Addr) (xs : List V) (a s c : Int), vs = [.ref b, .ref p] ∧ H b = some (box a s c) ∧ p ≠ b ∧ SqL K H p xs ∧ 0 < xs.length ∧ xs.length < 1000000 ∧ Bx a s c ∧ c + 1 < 2 ^ 40 ∧
  ∀ v a' c' H', v ∈ xs → Bx a' s c' → c' ≤ c + 1 → Ex [b] H H' → H' b = some (box a' s c') → Q v H'
def spNumber : Sp := fun vs H Q _ => ∃ (b : Addr) (a s c : Int), vs = [.ref b] ∧ H b = some (box a s c) ∧ Bx a s c ∧ c + 4 < 2 ^ 40 ∧
  ∀ (n : Int) a' c' H', 0 ≤ n → n < 1000000 → Bx a' s c' → c' ≤ c + 4 → Ex [b] H H' → H' b = some (box a' s c') → Q (.int n) H'
def spNamed : Sp := fun vs H Q _ => ∃ (b : Addr) (a s c : Int) (m : Nat), vs = [.ref b, .int m] ∧ m ≤ 14 ∧ H b = some (box a s c) ∧ Bx a s c ∧ c + 200 < 2 ^ 40 ∧
  ∀ (ns : List Str) p a' c' H', ns.length = m → (∀ x ∈ ns, NameOk x) → H p = none → Bx a' s c' → c' ≤ c + 200 → Ex [b] H H' → H' b = some (box a' s c') → H' p = some (.lst (ns.map V.str)) → p ≠ b → Q (.ref p) H'
section
variable {P : Program} {w : World} {K : PySem.W.Frag} {mg : Str → Option Value} {base : Heap} {f : Addr} {fd : FuncData} {k : Nat} {kws : List (Str × V)}
theorem ok_one_of (F : FunD K "_law_one_of" "_law_one_of" (defArgs s_law_one_of) (defBody s_law_one_of) (defScope s_law_one_of) [] kws f fd) (B : BltT mg) (G_law_take : Fq P w K mg base CX0 1 "_law_take" ["_law_box", "_law_many"] spTake) : FnG P w K mg base CX0 2 f fd ["_law_box", "_law_some"] (spOneOf K) := by
  refine okG F sc_law_one_of (fun vs H Q E h => ?_) (fun cdv A outer s H0 vs Q E hG hr h => ?_)
  · obtain ⟨b, p, xs, a, s, c, rfl, _⟩ := h
    rfl
  obtain ⟨b, pp, xs, a, s, c, rfl, hb, hne, hp, h0, h1, bx, hc, q⟩ := h
  have hw : W K H0 [b] [] H0 [(b, box a s c)] [] := W.start1 hb (fun _ z => nomatch z) (fun _ z => nomatch z)
  have keep : ∀ {H L R}, W K H0 [b] [] H L R → SqL K H pp xs := fun {H L R} hw => by
    rcases hp with (h | ⟨o, h⟩) | h
    · exact .inl (.inl (hw.ex _ _ (fun z => hne (List.mem_singleton.mp z)) h))
    · exact .inl (.inr ⟨o, hw.ex _ _ (fun z => hne (List.mem_singleton.mp z)) h⟩)
    · exact .inr h
  refine ⟨_, [some (.ref b), some (.ref pp)], (pss_one (ps_ret (pe_ix (ix_U (K := K)) (pv 1) (pe_fq hG G_law_take hr (by first | decide | omega) (by rfl) pass0 (pa_cons (pv 0) (pa_cons (pe_callB (call_lenU (K := K)) (by rfl) B.len (by decide +kernel) (pa_cons (pv 1) pa_nil)) pa_nil))) (fun _ _ => rfl)))), rfl, ?_⟩
  walk_at "sx"
  exact x_ixAny (keep hw) hr0 hr1 fun v hv => q v _ _ _ hv bx (by omega) hw.ex (hw.at 0 rfl)
theorem ok_number (F : FunD K "_law_number" "_law_number" (defArgs s_law_number) (defBody s_law_number) (defScope s_law_number) [] kws f fd) (G_law_take : Fq P w K mg base CX0 1 "_law_take" ["_law_box", "_law_many"] spTake) : FnG P w K mg base CX0 2 f fd ["_law_box"] spNumber := by
  refine okG F sc_law_number (fun vs H Q E h => ?_) (fun cdv A outer s H0 vs Q E hG hr h => ?_)
  · obtain ⟨b, a, s, c, rfl, _⟩ := h
    rfl
  obtain ⟨b, a, s, c, rfl, hb, bx, hc, q⟩ := h
  have hw : W K H0 [b] [] H0 [(b, box a s c)] [] := W.start1 hb (fun _ z => nomatch z) (fun _ z => nomatch z)
  refine ⟨_, [some (.ref b)], (pss_one (ps_ret (pe_ix (ix_U (K := K)) (pe_lst (pa_cons (pe_fq hG G_law_take hr (by first | decide | omega) (by rfl) pass0 (pa_cons (pv 0) (pa_cons pe_int pa_nil))) (pa_cons (pe_fq hG G_law_take hr (by first | decide | omega) (by rfl) pass0 (pa_cons (pv 0) (pa_cons pe_int pa_nil))) (pa_cons (pe_fq hG G_law_take hr (by first | decide | omega) (by rfl) pass0 (pa_cons (pv 0) (pa_cons (pe_powc (z := 1000000) ⟨by decide, by decide, by decide⟩ (by rfl)) pa_nil))) pa_nil)))) (pe_fq hG G_law_take hr (by first | decide | omega) (by rfl) pass0 (pa_cons (pv 0) (pa_cons pe_int pa_nil))) (fun _ _ => rfl)))), rfl, ?_⟩
  walk_at "sx"
  refine x_ixAny (SqL.of (hw.at 0 rfl)) hr0 (by exact hr1) fun v hv => ?_
  simp only [List.mem_cons, List.not_mem_nil, or_false] at hv
  rcases hv with rfl | rfl | rfl <;> exact q _ _ _ _ (by omega) (by omega) bx (by omega) hw.ex (hw.at 1 rfl)
end
def abc : Str := "abcdefghijklmnopqrstuvwxyz"
theorem abc_ok : ∀ c ∈ cd abc, 97 ≤ c ∧ c ≤ 122 := by decide +kernel
theorem abc_len : (cd abc).length = 26 := by decide +kernel
def words : Str := "copy plus less over rest least same pick sort make rule cap kept at number lay put end ask tree"
theorem words_split : (Txt.split words " ").length = 20 ∧ ∀ x ∈ Txt.split words " ", 1 ≤ x.length ∧ x.length ≤ 6 ∧ (∀ c ∈ cd x, 97 ≤ c ∧ c ≤ 122) := by decide +kernel
/-- small letters, one to six -/
structure Nm (x : Str) : Prop where
  l1 : 1 ≤ x.length
  l6 : x.length ≤ 6
  small : ∀ c ∈ cd x, 97 ≤ c ∧ c ≤ 122
theorem join_signs : ∀ (ys : List Str), (∀ y ∈ ys, y.length = 1 ∧ ∀ c ∈ cd y, 97 ≤ c ∧ c ≤ 122) → (Txt.join "" ys).length = ys.length ∧ ∀ c ∈ cd (Txt.join "" ys), 97 ≤ c ∧ c ≤ 122 := by
  intro ys h
  have e : Txt.join "" ys = Str.join "" ys := PySem.StrLaws.glued_eq_join "" ys
  rw [e]
  induction ys with
  | nil => exact ⟨rfl, fun c hc => by simp [Str.join, Str.empty] at hc⟩
  | cons y r ih =>
    have ih := ih (fun y hy => h y (List.mem_cons_of_mem _ hy)) (PySem.StrLaws.glued_eq_join "" r)
    have hy := h y (List.mem_cons_self ..)
    cases r with
    | nil => exact ⟨hy.1, hy.2⟩
    | cons z r =>
      have e2 : Str.join "" (y :: z :: r) = y ++ "" ++ Str.join "" (z :: r) := rfl
      rw [e2]
      refine ⟨?_, fun c hc => ?_⟩
      · rw [strLen_append, strLen_append, hy.1, ih.1]
        show 1 + 0 + _ = _
        simp; omega
      · rw [cd_app, cd_app] at hc
        rcases List.mem_append.mp hc with hc | hc
        · rcases List.mem_append.mp hc with hc | hc
          · exact hy.2 c hc
          · exact absurd hc (fun z => nomatch z)
        · exact ih.2 c hc
section
variable {P : Program} {w : World} {K : PySem.W.Frag} {mg : Str → Option Value} {base : Heap} {f : Addr} {fd : FuncData} {k : Nat} {kws : List (Str × V)}
theorem x_ixC {K : PySem.W.Frag} {H : Hp} {Q : VK} {u : Str} {i : Int} (h : u.length ≤ 1000000) (h0 : 0 ≤ i) (h1 : i < u.length) (k : ∀ y : Str, y.length = 1 → (∀ c ∈ cd y, c ∈ cd u) → Q (.str y) H) : uIx K (.str u) (.int i) H Q :=
  x_ixS (Nat.le_trans h (by rw [sizeLine_eq]; decide)) (at_get h0 (by rw [Array.length_toList]; exact h1)) (k _ rfl fun c hc => by
    have e : c = _ := List.mem_singleton.mp hc
    rw [e]
    exact List.getElem_mem _)
theorem name_new {name y : Str} (h : Nm name) (h1 : y.length = 1) (h2 : ∀ c ∈ cd y, c ∈ cd abc) : Nm (cutS name none (some 4) ++ ⟨#[97]⟩ ++ y) ∧ cutS name none (some 4) ++ ⟨#[97]⟩ ++ y ≠ "own" := by
  obtain ⟨l1, l6, sm⟩ := h
  have hc : cd (cutS name none (some (4 : Int))) = (cd name).take 4 := by
    unfold cutS
    rw [HT.sIx_none, show ((4 : Int)) = ((4 : Nat) : Int) from rfl, HT.sIx_nat, List.drop_zero, Nat.sub_zero]
    show ((cd name).take (min 4 name.length)) = _
    by_cases h4 : 4 ≤ name.length
    · rw [Nat.min_eq_left h4]
    · rw [Nat.min_eq_right (by omega), List.take_of_length_le (by rw [cd_len]; omega), List.take_of_length_le (by rw [cd_len]; omega)]
  obtain ⟨d, hd⟩ : ∃ d, cd y = [d] := by
    have := cd_len y
    rw [h1] at this
    match hy : cd y, this with
    | [d], _ => exact ⟨d, rfl⟩
  have hs : cd (cutS name none (some 4) ++ ⟨#[97]⟩ ++ y) = (cd name).take 4 ++ [97] ++ [d] := by rw [cd_app, cd_app, hc, hd]
  have hl : (cutS name none (some 4) ++ ⟨#[97]⟩ ++ y).length = min 4 name.length + 2 := by
    rw [← cd_len, hs]
    simp only [List.length_append, List.length_take, List.length_cons, List.length_nil]
    rw [cd_len]
  refine ⟨⟨by omega, by omega, fun c hcc => ?_⟩, fun e => ?_⟩
  · rw [hs] at hcc
    rcases List.mem_append.mp hcc with hcc | hcc
    · rcases List.mem_append.mp hcc with hcc | hcc
      · exact sm c (List.mem_of_mem_take hcc)
      · rw [List.mem_singleton.mp hcc]; decide
    · exact abc_ok c (h2 c (by rw [hd]; exact hcc))
  · have e1 := congrArg cd e
    rw [hs] at e1
    have e2 : cd (Str.ofString "own") = [111, 119, 110] := by decide +kernel
    rw [e2] at e1
    match hq : (cd name).take 4, e1 with
    | [], e1 => simp at e1
    | [_], e1 => simp at e1
    | _ :: _ :: _, e1 =>
      have := congrArg List.length e1
      simp at this
theorem ok_named (F : FunD K "_law_named" "_law_named" (defArgs s_law_named) (defBody s_law_named) (defScope s_law_named) [] kws f fd) (B : BltT mg) (G_law_take : Fq P w K mg base CX0 1 "_law_take" ["_law_box", "_law_many"] spTake) : FnG P w K mg base CX0 2 f fd ["_law_box", "_law_many"] spNamed := by
  refine okG F sc_law_named (fun vs H Q E h => ?_) (fun cdv A outer s H0 vs Q E hG hr h => ?_)
  · obtain ⟨b, a, s, c, m, rfl, _⟩ := h
    rfl
  obtain ⟨b, a, s, c, m, rfl, hm, hb, bx, hc, q⟩ := h
  have hw : W K H0 [b] [] H0 [(b, box a s c)] [] := W.start1 hb (fun _ z => nomatch z) (fun _ z => nomatch z)
  have hla : abc.length = 26 := by decide +kernel
  refine ⟨_, [some (.ref b), some (.int m), none, none, none, none, none, none], (pss_cons (ps_asg (pe_tup (pa_cons pe_str (pa_cons (pe_lst pa_nil) pa_nil))) (pg_T (K := K) (n := 2) rfl (pgs_cons (pg_name (i := 2) sc_law_named.nd rfl (Or.inr rfl)) (pgs_cons (pg_name (i := 3) sc_law_named.nd rfl (Or.inl rfl)) pgs_nil))))
  (pss_cons (ps_set (i := 4) sc_law_named.nd rfl (Or.inl rfl) pe_str)
  (pss_cons (ps_for PassesOwn.never rfl (pi_range1 (by rfl) B.range (pa_cons (pv 1) pa_nil)) (pg_name (i := 5) sc_law_named.nd rfl (Or.inl rfl)) (pss_cons (ps_set (i := 6) sc_law_named.nd rfl (Or.inl rfl) (Fw.pe_m1 (K := K) PySem.F.plainAttrs_str PySem.F.slot_str_join PySem.F.type_str_join mt_join pe_str (pa_cons (pe_lc (own := [("_law_turn", 7)]) rfl sc_law_named.nd (pi_range1 (by rfl) B.range (pa_cons (pe_ix (ix_U (K := K)) (pe_lst (pa_cons pe_int (pa_cons pe_int (pa_cons pe_int (pa_cons pe_int pa_nil))))) (pe_fq hG G_law_take hr (by first | decide | omega) (by rfl) pass0 (pa_cons (pv 0) (pa_cons pe_int pa_nil))) (fun _ _ => rfl)) pa_nil)) (blkOk_by (own := [("_law_turn", 7)]) (N := ["_law_box", "_law_many", "_law_letters", "_law_found", "_law_words", "_law_k", "_law_name", "_law_turn"]) (sc := defScope s_law_named) (by decide +kernel)) (fun _ _ _ _ _ => (pg_name (i := 7) sc_law_named.nd rfl (Or.inl rfl))) (fun _ _ _ _ _ => pts_nil) (fun _ _ _ _ _ => (pe_ix (ix_U (K := K)) (pv 2) (pe_fq hG G_law_take hr (by first | decide | omega) (by rfl) pass0 (pa_cons (pv 0) (pa_cons pe_int pa_nil))) (fun _ _ => rfl)))) pa_nil)))
  (pss_cons (ps_if (pt_cmpR (op_eqU (K := K) hr) (pe_fq hG G_law_take hr (by first | decide | omega) (by rfl) pass0 (pa_cons (pv 0) (pa_cons pe_int pa_nil))) pe_int (nomark _)) (pss_one (ps_set (i := 6) sc_law_named.nd rfl (Or.inl rfl) (pe_ix (ix_U (K := K)) (Fw.pe_m1 (K := K) PySem.F.plainAttrs_str PySem.F.slot_str_split PySem.F.type_str_split mt_split (pv 4) (pa_cons pe_str pa_nil)) (pe_fq hG G_law_take hr (by first | decide | omega) (by rfl) pass0 (pa_cons (pv 0) (pa_cons pe_int pa_nil))) (fun _ _ => rfl)))) pss_nil)
  (pss_cons (ps_for PassesOwn.never rfl (pi_range1 (by rfl) B.range (pa_cons (pe_op (op_addU (K := K)) (pe_callB (call_lenU (K := K)) (by rfl) B.len (by decide +kernel) (pa_cons (pv 3) pa_nil)) pe_int) pa_nil)) (pg_name (i := 7) sc_law_named.nd rfl (Or.inl rfl)) (pss_one (ps_if (PW.pt (pw_or (pt_cmpR (op_inU (K := K) hr) (pv 6) (pv 3) (by rfl)) (pw_or1 (pt_cmpR (op_eqU (K := K) hr) (pv 6) pe_str (nomark _))))) (pss_one (ps_set (i := 6) sc_law_named.nd rfl (Or.inl rfl) (pe_op (op_addU (K := K)) (pe_op (op_addU (K := K)) (pe_slice (sl_U (K := K)) (pv 6) po_none (po_some pe_int)) (pe_ix (ix_U (K := K)) (pv 2) (pe_op op_fdiv (pv 7) pe_int) (fun _ _ => rfl))) (pe_ix (ix_U (K := K)) (pv 2) (pe_op op_mod (pv 7) pe_int) (fun _ _ => rfl))))) pss_nil)))
  (pss_one (ps_expr (Fw.pe_m1 (K := K) PySem.F.plainAttrs_list PySem.F.slot_list_append PySem.F.type_list_append mt_append (pv 3) (pa_cons (pv 6) pa_nil))))))))
  (pss_one (ps_ret (pv 3)))))), rfl, ?_⟩
  walk_at "sx"
  replace hw := hw.drop1
  rename_i pf _ _ _
  refine w_for walk_range (fun i σ H' => ∃ (ns : List Str) (a1 c1 : Int) (y5 y6 y7 : Option V), σ = [some (.ref b), some (.int m), some (.str abc), some (.ref pf), some (.str words), y5, y6, y7] ∧ ns.length = i ∧ (∀ x ∈ ns, NameOk x) ∧ Bx a1 s c1 ∧ c1 ≤ c + 10 * i ∧ W K H0 [b] [] H' [(pf, .lst (ns.map V.str)), (b, box a1 s c1)] []) ?_ ?_ ?_ ?_
  · exact ⟨[], a, c, _, _, _, rfl, rfl, (fun _ z => nomatch z), bx, by omega, hw⟩
  · intros
    trivial
  · rintro i x σ H _ hi ⟨ns, a1, c1, y5, y6, y7, rfl, hln, hns, bx, hc1, hw⟩ ⟨rfl, rfl⟩
    have hi14 : i < 14 := by omega
    walk_at "sx"
    refine x_ixAny (SqL.of (hw.at 0 rfl)) hr0 (by exact hr1) fun v hv => ?_
    obtain ⟨n, rfl, hn1, hn6⟩ : ∃ n : Nat, v = .int n ∧ 1 ≤ n ∧ n ≤ 6 := by
      simp only [List.mem_cons, List.not_mem_nil, or_false] at hv
      rcases hv with rfl | rfl | rfl | rfl
      · exact ⟨1, rfl, by decide, by decide⟩
      · exact ⟨2, rfl, by decide, by decide⟩
      · exact ⟨3, rfl, by decide, by decide⟩
      · exact ⟨6, rfl, by decide, by decide⟩
    rename_i _ a2 c2 _ _ _ _ _ _
    replace hw := hw.drop1
    walk_at "sx"
    refine w_lcK hw walk_range (fun D j H' => ∃ (ys : List Str) (a3 c3 : Int), ys.length = j ∧ (∀ y ∈ ys, y.length = 1 ∧ ∀ c ∈ cd y, 97 ≤ c ∧ c ≤ 122) ∧ Bx a3 s c3 ∧ c3 ≤ c1 + 1 + j ∧ W K H0 [b] [] H' [(D, .lst (ys.map V.str)), (pf, .lst (ns.map V.str)), (b, box a3 s c3)] []) ?_ ?_ ?_ ?_
    · intro D H _ hw
      exact ⟨[], _, _, rfl, (fun _ z => nomatch z), bx, by omega, hw⟩
    · intros
      trivial
    · rintro D j x H _ hj ⟨ys, a3, c3, hly, hys, bx, hc3, hw⟩ ⟨rfl, rfl⟩
      rw [Int.toNat_natCast] at hj
      have hz : (ys.map V.str).length < sizeLine := sz_lt (by rw [List.length_map]; omega)
      walk_at "sx"
      refine x_ixC (by rw [hla]; decide) hr0 (by rw [hla]; exact hr1) fun y hy1 hy2 => ?_
      walk_at "sx"
      refine ⟨ys ++ [y], _, _, by simp [hly], fun z hz => ?_, bx, by omega, by rw [List.map_append]; exact hw⟩
      rcases List.mem_append.mp hz with hz | hz
      · exact hys z hz
      · rw [List.mem_singleton.mp hz]
        exact ⟨hy1, fun c hc => abc_ok c (hy2 c hc)⟩
    rintro D H ⟨ys, a3, c3, hly, hys, bx, hc3, hw⟩
    rw [Int.toNat_natCast] at hly hc3
    obtain ⟨hj1, hj2⟩ := join_signs ys hys
    walk_at "sx"
    refine ⟨_, D, ys, rfl, rfl, .inl (SqL.of (hw.at 0 rfl)), ?_, ?_⟩
    · have e0 : (Str.ofString "").length = 0 := rfl
      have : (ys.map (·.length)).sum ≤ 6 * 1 := by
        have key : ∀ ys : List Str, (∀ y ∈ ys, y.length = 1 ∧ ∀ c ∈ cd y, 97 ≤ c ∧ c ≤ 122) → (ys.map (·.length)).sum = ys.length := by
          intro ys h
          induction ys with
          | nil => rfl
          | cons y r ih => rw [List.map_cons, List.sum_cons, ih fun z hz => h z (List.mem_cons_of_mem _ hz), (h y (List.mem_cons_self ..)).1, List.length_cons]; omega
        rw [key ys hys]; omega
      rw [e0]
      omega
    have hnm : Nm (Txt.join "" ys) := ⟨by omega, by omega, hj2⟩
    generalize Txt.join "" ys = name at hnm
    replace hw := hw.drop1
    have hc9 : c3 ≤ c1 + 7 := by omega
    clear hj1 hj2 hc3 hly hys
    walk_at "sx"
    refine x_ifd (fun c5 => ?b1) (fun c5 => ?b2)
    case' b1 =>
      walk_at "sx"
      refine ⟨_, _, rfl, rfl, by decide, by decide +kernel, fun p hp => ?_⟩
      replace hw := hw.new hp (.lst ((Txt.split words " ").map V.str))
      walk_at "sx"
      refine x_ixAny (SqL.of (hw.at 0 rfl)) hr0 (by rw [List.length_map, words_split.1]; exact hr1) fun v hv => ?_
      obtain ⟨name, hname, rfl⟩ := List.mem_map.mp hv
      obtain ⟨z1, z2, z3⟩ := words_split.2 name hname
      have hnm : Nm name := ⟨z1, z2, z3⟩
      replace hw := hw.drop1
    all_goals
      walk_at "sx"
      refine w_for walk_range (fun j σ H' => ∃ (name : Str) (y7 : Option V), σ = [some (.ref b), some (.int m), some (.str abc), some (.ref pf), some (.str words), some (.int (0 + i)), some (.str name), y7] ∧ Nm name ∧ (0 < j → name ≠ "own") ∧ W K H0 [b] [] H' [(pf, .lst (ns.map V.str)), (b, box a s c)] []) ?_ ?_ ?_ ?_
      · exact ⟨name, _, rfl, hnm, (fun z => absurd z (by decide)), hw⟩
      · intros
        trivial
      · rintro j x σ H _ hj ⟨name, y7, rfl, hnm, hown, hw⟩ ⟨rfl, rfl⟩
        have hj20 : j < 16 := by
          rw [List.length_map] at hj
          omega
        have hl1 := hnm.l1
        have hl6 := hnm.l6
        have e26 : (0 + (j : Int)) / 26 = 0 := by omega
        walk_at "sx"
        refine x_inL (xs := ns.map V.str) (SqL.of (hw.at 0 rfl)) rfl (by simp [flatV]) ?_
        rw [inV_strs]
        walk_at "sx"
        refine x_ifd (fun c7 => ?_) (fun c7 => ?_)
        rotate_left
        walk_at "sx"
        refine x_ifd (fun c8 => ?_) (fun c8 => ?_)
        rotate_left
        · walk_at "sx"
          exact ⟨name, _, rfl, hnm, fun _ => c8, hw⟩
        all_goals
          walk_at "sx"
          refine x_slX (by omega) ?_
          walk_at "sx"
          rw [e26]
          refine x_ixS (c := 97) (by rw [hla, sizeLine_eq]; decide) rfl ?_
          walk_at "sx"
          refine x_addS (by rw [sizeLine_eq]; have := cutS_length name none (some 4); show _ + 1 ≤ _; omega) ?_
          walk_at "sx"
          refine x_ixC (by rw [hla]; decide) (by omega) (by rw [hla]; omega) fun y hy1 hy2 => ?_
          walk_at "sx"
          obtain ⟨nn, hno⟩ := name_new hnm hy1 hy2
          refine x_addS (by rw [sizeLine_eq]; have := nn.l6; rw [strLen_append] at this; omega) ?_
          walk_at "sx"
          exact ⟨_, _, rfl, nn, fun _ => hno, hw⟩
      rintro σ H ⟨name, y7, rfl, hnm, hown, hw⟩
      have hz : (ns.map V.str).length < sizeLine := sz_lt (by rw [List.length_map]; omega)
      have hno : name ≠ "own" := hown (by rw [List.length_map]; omega)
      walk_at "sx"
      refine ⟨ns ++ [name], a, c, _, _, _, rfl, by simp [hln], fun z hz => ?_, bx, by omega, by rw [List.map_append]; exact hw⟩
      rcases List.mem_append.mp hz with hz | hz
      · exact hns z hz
      · rw [List.mem_singleton.mp hz]
        exact ⟨hnm.l1, hnm.l6, hnm.small, hno⟩
  · rintro σ H ⟨ns, a1, c1, y5, y6, y7, rfl, hln, hns, bx, hc1, hw⟩
    walk_at "sx"
    rw [Int.toNat_natCast] at hln hc1
    exact q ns pf _ _ _ hln hns (hw.fresh1 0 1 rfl rfl (by decide)) bx (by omega) hw.ex (hw.at 1 rfl) (hw.at 0 rfl) (hw.ne (i := 0) (j := 1) rfl rfl (by decide))
end
end Law
namespace Law
open PySem PySem.Spec PyProof.Rows L2 Fw
abbrev s_law_wild : Stmt := topS 29
theorem sc_law_wild : FnScope ["_law_box", "_law_names", "_law_room", "_law_deep", "_law_many", "_law_left", "_law_parts", "_law_k", "_law_some"] ["_law_box", "_law_names", "_law_room", "_law_deep"] (defScope s_law_wild) := ⟨rfl, rfl, rfl, by decide +kernel, rfl, by decide +kernel, by decide +kernel⟩

def spWild (K : PySem.W.Frag) (n : Nat) : Sp := fun vs H Q _ => ∃ (M : List Addr) (b pn : Addr) (ns : List Str) (a s c r : Int), vs = [.ref b, .ref pn, .int r, .int n] ∧ 1 ≤ r ∧ r ≤ 1000 ∧ Al M H ∧ b ∈ M ∧ del H M pn = some (.lst (ns.map V.str)) ∧ 0 < ns.length ∧ ns.length ≤ 1000 ∧ (∀ x ∈ ns, NameOk x) ∧ H b = some (box a s c) ∧ Bx a s c ∧ c + 10 * r < 2 ^ 40 ∧
  ∀ v t a' c' H', TrOk t → (t.size : Int) ≤ r → t.high ≤ n + 1 → Bx a' s c' → c' ≤ c + 10 * r → Ex [b] H H' → H' b = some (box a' s c') → Rp K M H' v t.data → Q v H'
theorem x_wild {K : PySem.W.Frag} {H0 H : Hp} {Ms M0 : List Addr} {L : List (Addr × HO)} {R : List Fa} {b pn : Addr} {ns : List Str} {a s c r m : Int} {n : Nat} {Q : VK} {E : XK} (hw : W K H0 Ms M0 H L R) (i j : Nat) (hL : L[i]? = some (b, box a s c)) (hR : R[j]? = some (.kn pn (.lst (ns.map V.str)))) (hm : m = n)
    (h0 : 0 < ns.length) (h1 : ns.length ≤ 1000) (hns : ∀ x ∈ ns, NameOk x) (hr1 : 1 ≤ r) (hr2 : r ≤ 1000) (bx : Bx a s c) (hc : c + 10 * r < 2 ^ 40)
    (q : ∀ v t a' c' H', TrOk t → (t.size : Int) ≤ r → t.high ≤ n + 1 → Bx a' s c' → c' ≤ c + 10 * r → W K H0 Ms M0 H' (L.set i (b, box a' s c')) (.rp v t.data :: R) → Q v H') : spWild K n [.ref b, .ref pn, .int r, .int m] H Q E := by
  subst hm
  exact ⟨av L M0, b, pn, ns, a, s, c, r, rfl, hr1, hr2, hw.alloc', List.mem_append_left _ (List.mem_map.mpr ⟨_, List.mem_of_getElem? hL, rfl⟩), hw.knA j hR, h0, h1, hns, hw.at i hL, bx, hc, fun v t a' c' H' k1 k2 k3 k4 k5 k6 k7 k8 => q v t a' c' H' k1 k2 k3 k4 k5 (hw.callD i hL k6 k7 k8)⟩
def prevW (K : PySem.W.Frag) : Nat → Sp
  | 0 => fun _ _ _ _ => False
  | m + 1 => spWild K m
section
variable {P : Program} {w : World} {K : PySem.W.Frag} {mg : Str → Option Value} {base : Heap} {f : Addr} {fd : FuncData} {k : Nat} {kws : List (Str × V)}
theorem wild_step (F : FunD K "_law_wild" "_law_wild" (defArgs s_law_wild) (defBody s_law_wild) (defScope s_law_wild) [] kws f fd) (B : BltT mg) (G_law_take : Fq P w K mg base CX0 1 "_law_take" ["_law_box", "_law_many"] spTake) (G_law_one_of : Fq P w K mg base CX0 2 "_law_one_of" ["_law_box", "_law_some"] (spOneOf K))
    (G_law_number : Fq P w K mg base CX0 2 "_law_number" ["_law_box"] spNumber) (n : Nat) (G_law_wild : Fq P w K mg base CX0 (n + 2) "_law_wild" ["_law_box", "_law_names", "_law_room", "_law_deep"] (prevW K n)) : FnG P w K mg base CX0 (n + 3) f fd ["_law_box", "_law_names", "_law_room", "_law_deep"] (spWild K n) := by
  refine okG F sc_law_wild (fun vs H Q E h => ?_) (fun cdv A outer s H0 vs Q E hG hr h => ?_)
  · obtain ⟨M, b, pn, ns, a, s, c, r, rfl, _⟩ := h
    rfl
  obtain ⟨M, b, pn, ns, a, s, c, ro, rfl, ro1, ro2, hM, hbM, hpn, hn0, hn1, hns, hb, bx, hc, q⟩ := h
  have hw : W K H0 [b] M H0 [(b, box a s c)] [.kn pn (.lst (ns.map V.str))] := W.start1 hb hM (fun r z => by rw [List.mem_singleton.mp z]; exact fa_in (r := .kn pn _) hpn hbM)
  refine ⟨_, [some (.ref b), some (.ref pn), some (.int ro), some (.int n), none, none, none, none, none], (pss_cons (ps_par3 (i := 4) (j := 5) (l := 6) rfl sc_law_wild.nd rfl rfl rfl (by decide) (by decide) (by decide) rfl rfl rfl (pa_cons (pe_ifExp (pt_cmpR (op_gt) (pv 3) pe_int (nomark _)) (pe_fq hG G_law_take hr (by first | decide | omega) (by rfl) pass0 (pa_cons (pv 0) (pa_cons pe_int pa_nil))) pe_int) (pa_cons (pe_op op_sub (pv 2) pe_int) (pa_cons (pe_lst pa_nil) pa_nil))) (by rfl))
  (pss_cons (ps_for PassesOwn.never rfl (pi_range1 (by rfl) B.range (pa_cons (pe_callB (call_minU (K := K) rfl) (by rfl) B.min (by decide +kernel) (pa_cons (pv 4) (pa_cons (pv 5) pa_nil))) pa_nil)) (pg_name (i := 7) sc_law_wild.nd rfl (Or.inl rfl)) (pss_cons (ps_set (i := 8) sc_law_wild.nd rfl (Or.inl rfl) (pe_ifExp (pt_cmpR (op_eqU (K := K) hr) (pe_op (op_addU (K := K)) (pv 7) pe_int) (pe_callB (call_minU (K := K) rfl) (by rfl) B.min (by decide +kernel) (pa_cons (pv 4) (pa_cons (pv 5) pa_nil))) (nomark _)) (pv 5) (pe_op (op_addU (K := K)) (pe_fq hG G_law_take hr (by first | decide | omega) (by rfl) pass0 (pa_cons (pv 0) (pa_cons (pv 5) pa_nil))) pe_int)))
  (pss_cons (ps_set (i := 8) sc_law_wild.nd rfl (Or.inl rfl) (pe_callB (call_minU (K := K) rfl) (by rfl) B.min (by decide +kernel) (pa_cons (pv 8) (pa_cons (pe_op op_sub (pv 5) (pe_op op_sub (pe_op op_sub (pe_callB (call_minU (K := K) rfl) (by rfl) B.min (by decide +kernel) (pa_cons (pv 4) (pa_cons (pv 5) pa_nil))) (pv 7)) pe_int)) pa_nil))))
  (pss_cons (ps_expr (Fw.pe_m1 (K := K) PySem.F.plainAttrs_list PySem.F.slot_list_append PySem.F.type_list_append mt_append (pv 6) (pa_cons (pe_fq hG G_law_wild hr (by first | decide | omega) (by rfl) pass0 (pa_cons (pv 0) (pa_cons (pv 1) (pa_cons (pv 8) (pa_cons (pe_op op_sub (pv 3) pe_int) pa_nil))))) pa_nil)))
  (pss_one (ps_set (i := 5) sc_law_wild.nd rfl (Or.inl rfl) (pe_op op_sub (pv 5) (pv 8))))))))
  (pss_one (ps_ret (pe_tup (pa_cons (pe_fq hG G_law_one_of hr (by first | decide | omega) (by rfl) pass0 (pa_cons (pv 0) (pa_cons (pv 1) pa_nil))) (pa_cons (pe_ix (ix_U (K := K)) (pe_lst (pa_cons pe_int (pa_cons pe_int (pa_cons pe_int (pa_cons (pe_fq hG G_law_number hr (by first | decide | omega) (by rfl) pass0 (pa_cons (pv 0) pa_nil)) pa_nil))))) (pe_fq hG G_law_take hr (by first | decide | omega) (by rfl) pass0 (pa_cons (pv 0) (pa_cons pe_int pa_nil))) (fun _ _ => rfl)) (pa_cons (pe_callTy (call_tupleU (K := K)) (by rfl) B.tuple (by decide +kernel) (pa_cons (pv 6) pa_nil)) pa_nil)))))))), rfl, ?_⟩
  refine x_seq (x_par3 (x_cons (x_via (C := fun Q' => ∀ (mn a1 c1 : Int) H', 0 ≤ mn → mn ≤ 2 → (0 < mn → 0 < n) → Bx a1 s c1 → c1 ≤ c + 1 → W K H0 [b] M H' [(b, box a1 s c1)] [.kn pn (.lst (ns.map V.str))] → Q' (.int mn) H') ?_ ?_)))
  · intro Q' k
    walk_at "sx"
    refine x_ifd (fun c1 => ?_) (fun c1 => ?_)
    · walk_at "sx"
      exact k _ _ _ _ hr0 (by omega) (fun _ => by omega) bx (by omega) hw
    · walk_at "sx"
      exact k _ _ _ _ (by decide) (by decide) (fun z => absurd z (by decide)) bx (by omega) hw
  intro mn a c0 H mn0 mn2 hmn bx hc0 hw
  walk_at "sx"
  rename Addr => pp
  refine w_for walk_range (fun i σ H' => ∃ (ts : List Tr) (xs : List V) (left a1 c1 : Int) (y7 y8 : Option V), σ = [some (.ref b), some (.ref pn), some (.int ro), some (.int n), some (.int mn), some (.int left), some (.ref pp), y7, y8] ∧ ts.length = i ∧ xs.length = i ∧ TrsOk ts ∧ highs ts ≤ n ∧ (sizes ts : Int) + left ≤ ro - 1 ∧ min mn (ro - 1) - i ≤ left ∧ 0 ≤ left ∧ Bx a1 s c1 ∧ c1 ≤ c0 + i + 10 * (ro - 1 - left) ∧
    W K H0 [b] M H' [(pp, .lst xs), (b, box a1 s c1)] [.al xs (datas ts), .kn pn (.lst (ns.map V.str))]) ?_ ?_ ?_ ?_
  · exact ⟨[], [], ro - 1, a, c0, _, _, rfl, rfl, rfl, .nil, by simp [highs], by simp [sizes], by omega, by omega, bx, by omega, hw.addA .nil⟩
  · intros
    trivial
  · rintro i x σ H _ hi ⟨ts, xs, left, a1, c1, y7, y8, rfl, hlt, hlx, hok, hhi, hsz, hle, hl0, bx, hc1, hw⟩ ⟨rfl, rfl⟩
    have hi2 : (i : Int) < min mn (ro - 1) := by omega
    have hz : xs.length < sizeLine := sz_lt (by omega)
    cases n with
    | zero => exact absurd (hmn (by omega)) (by decide)
    | succ n =>
    refine x_seq (x_asgG (x_via (C := fun Q' => ∀ (sm a2 c2 : Int) H', 1 ≤ sm → sm ≤ left → Bx a2 s c2 → c2 ≤ c1 + 1 → W K H0 [b] M H' [(pp, .lst xs), (b, box a2 s c2)] [.al xs (datas ts), .kn pn (.lst (ns.map V.str))] → Q' (.int sm) H') ?_ ?_))
    · intro Q' k
      walk_at "sx"
      refine x_ifd (fun c1 => ?_) (fun c1 => ?_)
      · walk_at "sx"
        exact k _ _ _ _ (by omega) (by omega) bx (by omega) hw
      · walk_at "sx"
        exact k _ _ _ _ (by omega) (by omega) bx (by omega) hw
    intro sm a2 c2 H hs1 hs2 bx hc2 hw
    walk_at "sx"
    have hm1 : 1 ≤ min sm (left - (min mn left - (0 + (i : Int)) - 1)) := by omega
    refine x_wild (E := E0) hw 1 1 rfl rfl (by omega) hn0 hn1 hns hm1 (by omega) bx (by omega) fun v t a3 c3 H ht hts hth bx hc3 hw => ?_
    simp only [List.set_cons_zero, List.set_cons_succ] at hw
    replace hw := hw.more
    walk_at "sx"
    refine ⟨ts ++ [t], xs ++ [v], _, a3, c3, _, _, rfl, by simp [hlt], by simp [hlx], hok.append (.cons ht .nil), ?_, ?_, ?_, ?_, bx, ?_, by rw [datas_append]; simp only [datas]; exact hw⟩
    · rw [highs_append]; simp only [highs]; omega
    · rw [sizes_append]; simp only [sizes]; push_cast; omega
    · omega
    · omega
    · omega
  · rintro σ H ⟨ts, xs, left, a1, c1, y7, y8, rfl, hlt, hlx, hok, hhi, hsz, hle, hl0, bx, hc1, hw⟩
    have hlt2 : ts.length ≤ 2 := by omega
    walk_at "sx"
    refine ⟨b, pn, ns.map V.str, a1, s, c1, rfl, hw.at 1 rfl, hw.knNe 1 1 rfl rfl, SqL.of (hw.kn 1 rfl), by rw [List.length_map]; exact hn0, by rw [List.length_map]; omega, bx, by omega, fun v a2 c2 H hv bx hc2 e hb => ?_⟩
    obtain ⟨x, hx, rfl⟩ := List.mem_map.mp hv
    replace hw := hw.call 1 rfl e hb
    simp only [List.set_cons_zero, List.set_cons_succ] at hw
    walk_at "sx"
    refine ⟨b, a2, s, c2, rfl, hw.at 1 rfl, bx, by omega, fun nu a3 c3 H n0 n6 bx hc3 e hb => ?_⟩
    replace hw := hw.call 1 rfl e hb
    simp only [List.set_cons_zero, List.set_cons_succ] at hw
    walk_at "sx"
    refine x_ixAny (SqL.of (hw.at 0 rfl)) hr0 (by exact hr1) fun v hv => ?_
    obtain ⟨o, rfl, ho0, ho6⟩ : ∃ o : Int, v = .int o ∧ 0 ≤ o ∧ o < 1000000 := by
      simp only [List.mem_cons, List.not_mem_nil, or_false] at hv
      rcases hv with rfl | rfl | rfl | rfl
      · exact ⟨0, rfl, by decide, by decide⟩
      · exact ⟨0, rfl, by decide, by decide⟩
      · exact ⟨1, rfl, by decide, by decide⟩
      · exact ⟨nu, rfl, n0, n6⟩
    replace hw := hw.drop1
    walk_at "sx"
    refine w_tupleA hw (hw.at 0 rfl) (hw.all 0 rfl) fun p H hp hw => ?_
    walk_at "sxd"
    refine q _ (.mk x o ts) _ _ _ (.mk (hns x hx) ho0 ho6 hlt2 hok) ?_ ?_ bx ?_ hw.ex (hw.at 1 rfl) ((hw.rp 0 rfl).less fun x hx => List.mem_append_right _ hx)
    · simp only [Tr.size]; push_cast; omega
    · simp only [Tr.high]; omega
    · omega
theorem wild_fn (F : FunD K "_law_wild" "_law_wild" (defArgs s_law_wild) (defBody s_law_wild) (defScope s_law_wild) [] kws f fd) (B : BltT mg) (gm : mg "_law_wild" = some (.ref f)) (G_law_take : Fq P w K mg base CX0 1 "_law_take" ["_law_box", "_law_many"] spTake) (G_law_one_of : Fq P w K mg base CX0 2 "_law_one_of" ["_law_box", "_law_some"] (spOneOf K))
    (G_law_number : Fq P w K mg base CX0 2 "_law_number" ["_law_box"] spNumber) : ∀ n, FnG P w K mg base CX0 (n + 3) f fd ["_law_box", "_law_names", "_law_room", "_law_deep"] (spWild K n)
  | 0 => wild_step F B G_law_take G_law_one_of G_law_number 0 (mkFq F gm (fun _ _ _ _ _ _ us hl => match us, hl with | [_, _, _, _], _ => rfl) ⟨fun _ _ _ _ z => z.elim, fun _ _ _ _ _ _ _ _ _ _ _ _ _ _ z => z.elim⟩)
  | n + 1 => wild_step F B G_law_take G_law_one_of G_law_number (n + 1) (mkFq F gm (fun _ _ _ _ _ _ us hl => match us, hl with | [_, _, _, _], _ => rfl) (wild_fn F B gm G_law_take G_law_one_of G_law_number n))
end
end Law
namespace Law
open PySem PySem.Spec PyProof.Rows L2 Fw
structure BltS (mg : Str → Option Value) : Prop extends BltT mg where
  str : mg "str" = none
abbrev s_law_spelled : Stmt := topS 30
theorem sc_law_spelled : FnScope ["_law_tree", "_law_found", "_law_part"] ["_law_tree"] (defScope s_law_spelled) := ⟨rfl, rfl, rfl, by decide +kernel, rfl, by decide +kernel, by decide +kernel⟩

def spSpelled (K : PySem.W.Frag) (n : Nat) : Sp := fun vs H Q _ => ∃ (v : V) (t : Tr), vs = [v] ∧ Dd K H v t.data ∧ TrOk t ∧ t.high ≤ n ∧ t.size ≤ 3000 ∧ ∀ H', Ex [] H H' → Q (.str t.text) H'
def prevS (K : PySem.W.Frag) : Nat → Sp
  | 0 => fun _ _ _ _ => False
  | m + 1 => spSpelled K m
theorem eqv_nil (ps : List Tr) : (!PyData.eqv (.tuple (datas ps)) (.tuple [])) = decide (ps ≠ []) := by
  cases ps with
  | nil => simp [datas, PyData.eqv, PyData.eqvAll]
  | cons t r => simp [datas, PyData.eqv, PyData.eqvAll]
section
variable {P : Program} {w : World} {K : PySem.W.Frag} {mg : Str → Option Value} {base : Heap} {f : Addr} {fd : FuncData} {k : Nat} {kws : List (Str × V)}
theorem spelled_step (F : FunD K "_law_spelled" "_law_spelled" (defArgs s_law_spelled) (defBody s_law_spelled) (defScope s_law_spelled) [] kws f fd) (B : BltS mg) (n : Nat) (hn : n ≤ 32) (G_law_spelled : Fq P w K mg base CX0 n "_law_spelled" ["_law_tree"] (prevS K n)) : FnG P w K mg base CX0 (n + 1) f fd ["_law_tree"] (spSpelled K n) := by
  refine okG F sc_law_spelled (fun vs H Q E h => ?_) (fun cdv A outer s H0 vs Q E hG hr h => ?_)
  · obtain ⟨v, t, rfl, _⟩ := h
    rfl
  obtain ⟨v, t, rfl, hd, hok, hh, hs, q⟩ := h
  have hw : W K H0 [] [] H0 [] [.rp v t.data] := W.start0 (fun _ z => nomatch z) (fun r z => by rw [List.mem_singleton.mp z]; rw [del_nil]; exact hd)
  obtain ⟨nm, o, ps⟩ := t
  obtain ⟨hnm, ho0, ho6, hp2, hps⟩ := hok.parts
  have hll := text_len hok
  have hlp := texts_len hps
  obtain ⟨a, pt, rfl, hw⟩ := hw.tree 0 rfl
  have hl6 := hnm.l6
  have hno := num_len ho0 ho6
  have e1 : (Str.ofString ":").length = 1 := by decide
  have e2 : (Str.ofString "(").length = 1 := by decide
  have e3 : (Str.ofString ")").length = 1 := by decide
  have e4 : (Str.ofString ",").length = 1 := by decide
  simp only [Tr.size, Tr.high] at hs hh hll
  refine ⟨_, [some (.ref a), none, none], (pss_cons (ps_set (i := 1) sc_law_spelled.nd rfl (Or.inl rfl) (pe_op (op_addU (K := K)) (pe_ix (ix_U (K := K)) (pv 0) pe_int (fun _ _ => rfl)) (pe_op op_mulS (pe_op (op_addU (K := K)) pe_str (pe_callTy call_str_int (by rfl) B.str (by decide +kernel) (pa_cons (pe_ix (ix_U (K := K)) (pv 0) pe_int (fun _ _ => rfl)) pa_nil))) (pe_callTy call_intU (by rfl) B.int' (by decide +kernel) (pa_cons (pe_cmpR (op_gt) (pe_ix (ix_U (K := K)) (pv 0) pe_int (fun _ _ => rfl)) pe_int (nomark _)) pa_nil)))))
  (pss_one (ps_ret (pe_op (op_addU (K := K)) (pv 1) (pe_op op_mulS (pe_op (op_addU (K := K)) (pe_op (op_addU (K := K)) pe_str (Fw.pe_m1 (K := K) PySem.F.plainAttrs_str PySem.F.slot_str_join PySem.F.type_str_join mt_join pe_str (pa_cons (pe_lc (own := [("_law_part", 2)]) rfl sc_law_spelled.nd (pi_U (K := K) (pe_ix (ix_U (K := K)) (pv 0) pe_int (fun _ _ => rfl))) (blkOk_by (own := [("_law_part", 2)]) (N := ["_law_tree", "_law_found", "_law_part"]) (sc := defScope s_law_spelled) (by decide +kernel)) (fun _ _ _ _ _ => (pg_name (i := 2) sc_law_spelled.nd rfl (Or.inl rfl))) (fun _ _ _ _ _ => pts_nil) (fun _ _ _ _ _ => (pe_fq hG G_law_spelled hr (by first | decide | omega) (by rfl) pass0 (pa_cons (pv 2) pa_nil)))) pa_nil))) pe_str) (pe_callTy call_intU (by rfl) B.int' (by decide +kernel) (pa_cons (pe_cmpR (op_neU (K := K) hr) (pe_ix (ix_U (K := K)) (pv 0) pe_int (fun _ _ => rfl)) (pe_tup pa_nil) (nomark _)) pa_nil))))))), rfl, ?_⟩
  walk_at "sx"
  refine ⟨o, rfl, log_of (by omega), ?_⟩
  walk_at "sx"
  refine x_addS (by rw [sizeLine_eq]; omega) ?_
  walk_at "sx"
  refine x_mulB (by rw [strLen_append]; omega) ?_
  walk_at "sx"
  have hm1 : (Txt.mul (":" ++ Str.ofString (toString o)) (if decide (0 < o) = true then 1 else 0)).length ≤ 8 := by
    split
    · rw [mul1, strLen_append]; omega
    · rw [mul0]; show 0 ≤ _; omega
  refine x_addS (by rw [sizeLine_eq]; omega) ?_
  walk_at "sx"
  obtain ⟨xs, hxs, hw⟩ := hw.openT (hw.rp 1 rfl)
  replace hw := hw.addA hxs
  have hlx : xs.length = ps.length := by rw [hxs.length, datas_length]
  walk_at "sx"
  refine w_lcK hw (walk_tup (xs := xs)) (fun D i H' => W K H0 [] [] H' [(D, .lst ((texts (ps.take i)).map V.str))] [.al xs (datas ps), .tp pt xs, .tp a [.str nm, .int o, .ref pt], .rp (.ref pt) (.tuple (datas ps))]) ?_ ?_ ?_ ?_
  · intro D H _ hw
    exact hw.pick [0, 1, 2, 3] rfl
  · intro D i H _ hw
    exact hw.tp 1 rfl
  · rintro D i x H _ hi hw ⟨rfl, hx⟩
    obtain ⟨d, hd, hrp⟩ := DdAll.item (hw.all 0 rfl) hx
    obtain ⟨u, hu, rfl⟩ := datas_get hd
    have hum := List.mem_of_getElem? hu
    have hz : ((texts (ps.take i)).map V.str).length < sizeLine := sz_lt (by rw [List.length_map, texts_map, List.length_map, List.length_take]; omega)
    have e5 := texts_take hu
    cases n with
    | zero => omega
    | succ n =>
    walk_at "sx"
    refine ⟨x, u, rfl, Rp.dd hrp, hps.mem u hum, ?_, ?_, fun H e => ?_⟩
    · have := highs_mem u hum
      omega
    · have := sizes_mem u hum
      omega
    replace hw := hw.pure e
    walk_at "sx"
    rw [e5, List.map_append]
    exact hw
  intro D H hw
  rw [List.take_of_length_le (Nat.le_of_eq hlx.symm)] at hw
  walk_at "sx"
  refine ⟨_, D, texts ps, rfl, rfl, .inl (SqL.of (hw.at 0 rfl)), by rw [e4, texts_map, List.length_map, ← texts_map]; omega, ?_⟩
  have hj : (Txt.join "," (texts ps)).length ≤ 20 * sizes ps + 2 := by
    have e : (Txt.join "," (texts ps)).length = ((texts ps).map (·.length)).sum + ((texts ps).length - 1) * 1 := by
      have := size_glued "," (texts ps)
      rw [e4] at this
      exact this
    have hl : (texts ps).length = ps.length := by rw [texts_map, List.length_map]
    omega
  walk_at "sx"
  refine x_addS (by rw [sizeLine_eq]; omega) ?_
  walk_at "sx"
  refine x_addS (by rw [strLen_append, sizeLine_eq]; omega) ?_
  walk_at "sxd"
  refine x_neD (hw.rp 4 rfl).dp (hw.rp 0 rfl).dp (parts_shaped hps (by omega)) (by decide +kernel) ?_
  rw [eqv_nil]
  walk_at "sx"
  refine x_mulB (by rw [strLen_append, strLen_append]; omega) ?_
  walk_at "sx"
  have hm2 : (Txt.mul (("(" ++ Txt.join "," (texts ps)) ++ ")") (if decide (ps ≠ []) = true then 1 else 0)).length ≤ 20 * sizes ps + 4 := by
    split
    · rw [mul1, strLen_append, strLen_append]; omega
    · rw [mul0]; show 0 ≤ _; omega
  refine x_addS (by rw [strLen_append, sizeLine_eq]; omega) ?_
  have q' := q _ hw.ex
  simp only [Tr.text] at q'
  exact q'
theorem spelled_fn (F : FunD K "_law_spelled" "_law_spelled" (defArgs s_law_spelled) (defBody s_law_spelled) (defScope s_law_spelled) [] kws f fd) (B : BltS mg) (gm : mg "_law_spelled" = some (.ref f)) : ∀ n, n ≤ 32 → FnG P w K mg base CX0 (n + 1) f fd ["_law_tree"] (spSpelled K n)
  | 0, h => spelled_step F B 0 h (mkFq F gm (fun _ _ _ _ _ _ us hl => match us, hl with | [_], _ => rfl) ⟨fun _ _ _ _ z => z.elim, fun _ _ _ _ _ _ _ _ _ _ _ _ _ _ z => z.elim⟩)
  | n + 1, h => spelled_step F B (n + 1) h (mkFq F gm (fun _ _ _ _ _ _ us hl => match us, hl with | [_], _ => rfl) (spelled_fn F B gm n (by omega)))
end
end Law
namespace Law
open PySem PySem.Spec PyProof.Rows L2 Fw
abbrev s_law_bad_at : Stmt := topS 31
theorem sc_law_bad_at : FnScope ["_law_text", "_law_word", "_law_figures", "_law_ended", "_law_opened", "_law_at", "_law_sign"] ["_law_text"] (defScope s_law_bad_at) := ⟨rfl, rfl, rfl, by decide +kernel, rfl, by decide +kernel, by decide +kernel⟩

def spBad : Sp := fun vs H Q _ => ∃ z : Str, vs = [.str z] ∧ z.length ≤ 2000 ∧ ∀ H', Ex [] H H' → Q (badV (bad z)) H'
theorem x_viaT {σ : L2.St} {H : Hp} {c : TT} {QB : Bool → Hp → Prop} (C : (Bool → Hp → Prop) → Prop) (h : ∀ QB', C QB' → c σ H QB') (k : C QB) : c σ H QB := h QB k
theorem sg_eq {c d : Nat} : sg c = sg d ↔ c = d := ⟨fun h => by have := congrArg cd h; simpa using this, fun h => by rw [h]⟩
theorem dC (c d : Nat) : decide (sg c = sg d) = decide (c = d) := decide_eq_decide.mpr sg_eq
theorem lits : Str.ofString ":" = sg 58 ∧ Str.ofString "(" = sg 40 ∧ Str.ofString "," = sg 44 ∧ Str.ofString ")" = sg 41 := by decide +kernel
theorem sg_ne (c : Nat) : decide (sg c = Str.ofString "") = false := decide_eq_false fun h => by have := congrArg Str.length h; exact absurd (show (1 : Nat) = 0 from this) (by decide)
theorem inAbc (c : Nat) : decide (c ∈ (Str.ofString "abcdefghijklmnopqrstuvwxyz").cps.toList) = isL c := by
  have e : (Str.ofString "abcdefghijklmnopqrstuvwxyz").cps.toList = [97, 98, 99, 100, 101, 102, 103, 104, 105, 106, 107, 108, 109, 110, 111, 112, 113, 114, 115, 116, 117, 118, 119, 120, 121, 122] := by decide +kernel
  rw [e]
  unfold isL
  rw [← Bool.decide_and]
  refine decide_eq_decide.mpr ?_
  simp only [List.mem_cons, List.not_mem_nil, or_false]
  omega
theorem inDig (c : Nat) : decide (c ∈ (Str.ofString "0123456789").cps.toList) = isD c := by
  have e : (Str.ofString "0123456789").cps.toList = [48, 49, 50, 51, 52, 53, 54, 55, 56, 57] := by decide +kernel
  rw [e]
  unfold isD
  rw [← Bool.decide_and]
  refine decide_eq_decide.mpr ?_
  simp only [List.mem_cons, List.not_mem_nil, or_false]
  omega
theorem lt6 (n : Nat) : decide ((n : Int) < 6) = decide (n < 6) := decide_eq_decide.mpr (by omega)
theorem lt30 (n : Nat) : decide ((n : Int) < 30) = decide (n < 30) := decide_eq_decide.mpr (by omega)
theorem at_last (r : List Int) (a : Int) : atI ((a :: r).reverse.map V.int) (-1) = some (.int a) := by
  rw [List.reverse_cons, List.map_append]
  unfold atI ixN
  simp
  rw [if_pos (by omega), show (-1 + ((r.length : Int) + 1)).toNat = r.length by omega]
  simp
theorem ix_last (r : List Int) (a : Int) : ixN ((a :: r).reverse.map V.int).length (-1) = some r.length := by
  rw [List.length_map, List.length_reverse, List.length_cons]
  unfold ixN
  simp
  omega
theorem set_last (r : List Int) (a b : Int) : ((a :: r).reverse.map V.int).set r.length (.int b) = (b :: r).reverse.map V.int := by
  rw [List.reverse_cons, List.map_append, List.reverse_cons, List.map_append]
  rw [List.set_append]
  simp
theorem last_of (r : List Int) (a : Int) : ((a :: r).reverse.map V.int)[((a :: r).reverse.map V.int).length - 1]? = some (.int a) := by
  rw [List.reverse_cons, List.map_append]
  simp
theorem drop_last (r : List Int) (a : Int) : ((a :: r).reverse.map V.int).dropLast = r.reverse.map V.int := by
  rw [List.reverse_cons, List.map_append]
  simp
theorem w_popL {K : PySem.W.Frag} {H0 H : Hp} {Ms M0 : List Addr} {L : List (Addr × HO)} {R : List Fa} {p : Addr} {xs : List V} {y : V} {Q : VK} (hw : W K H0 Ms M0 H L R) (i : Nat) (hL : L[i]? = some (p, .lst xs)) (hy : xs[xs.length - 1]? = some y) (k : ∀ H', W K H0 Ms M0 H' (L.set i (p, .lst xs.dropLast)) R → Q y H') : rPop (.ref p) [] H Q :=
  ⟨p, xs, y, rfl, rfl, hw.at i hL, hy, k _ (hw.set i hL _)⟩
theorem _root_.Fw.W.lastCell {K : PySem.W.Frag} {H0 H : Hp} {Ms M0 : List Addr} {c : Addr × HO} {R : List Fa} : ∀ {L : List (Addr × HO)}, W K H0 Ms M0 H (L ++ [c]) R → W K H0 Ms M0 H [c] R
  | [], w => w
  | _ :: _, w => Fw.W.lastCell w.drop1
section
variable {P : Program} {w : World} {K : PySem.W.Frag} {mg : Str → Option Value} {base : Heap} {f : Addr} {fd : FuncData} {k : Nat} {kws : List (Str × V)}
theorem ok_bad (F : FunD K "_law_bad_at" "_law_bad_at" (defArgs s_law_bad_at) (defBody s_law_bad_at) (defScope s_law_bad_at) [] kws f fd) (B : BltS mg) : FnG P w K mg base CX0 (k + 1) f fd ["_law_text"] spBad := by
  refine okG F sc_law_bad_at (fun vs H Q E h => ?_) (fun cdv A outer s H0 vs Q E hG hr h => ?_)
  · obtain ⟨z, rfl, _⟩ := h
    rfl
  obtain ⟨z, rfl, hz, q⟩ := h
  have hw : W K H0 [] [] H0 [] [] := W.start0 (fun _ z => nomatch z) (fun _ z => nomatch z)
  refine ⟨_, [some (.str z), none, none, none, none, none, none], (pss_cons (ps_asg (pe_tup (pa_cons pe_str (pa_cons pe_non (pa_cons pe_bl (pa_cons (pe_lst pa_nil) pa_nil))))) (pg_T (K := K) (n := 4) rfl (pgs_cons (pg_name (i := 1) sc_law_bad_at.nd rfl (Or.inl rfl)) (pgs_cons (pg_name (i := 2) sc_law_bad_at.nd rfl (Or.inl rfl)) (pgs_cons (pg_name (i := 3) sc_law_bad_at.nd rfl (Or.inl rfl)) (pgs_cons (pg_name (i := 4) sc_law_bad_at.nd rfl (Or.inl rfl)) pgs_nil))))))
  (pss_cons (ps_for PassesOwn.never rfl (pi_range1 (by rfl) B.range (pa_cons (pe_op (op_addU (K := K)) (pe_callB (call_lenU (K := K)) (by rfl) B.len (by decide +kernel) (pa_cons (pv 0) pa_nil)) pe_int) pa_nil)) (pg_name (i := 5) sc_law_bad_at.nd rfl (Or.inl rfl)) (pss_cons (ps_set (i := 6) sc_law_bad_at.nd rfl (Or.inl rfl) (pe_slice (sl_U (K := K)) (pv 0) (po_some (pv 5)) (po_some (pe_op (op_addU (K := K)) (pv 5) pe_int))))
  (pss_cons (ps_if (PW.pt (pw_and (pt_cmpR (op_neU (K := K) hr) (pv 6) pe_str (nomark _)) (pw_and (pt_cmpR (op_inU (K := K) hr) (pv 6) pe_str (by rfl)) (pw_and (pt_cmpR (op_isU) (pv 2) pe_non (nomark _)) (pw_and (pt_not (pt_truth (pv 3) (by intro _; rfl))) (pw_and1 (pt_cmpR (op_lt) (pe_callB (call_lenU (K := K)) (by rfl) B.len (by decide +kernel) (pa_cons (pv 1) pa_nil)) pe_int (nomark _)))))))) (pss_cons (ps_set (i := 1) sc_law_bad_at.nd rfl (Or.inl rfl) (pe_op (op_addU (K := K)) (pv 1) (pv 6)))
  (pss_one ps_continue)) pss_nil)
  (pss_cons (ps_if (PW.pt (pw_and (pt_cmpR (op_inU (K := K) hr) (pv 1) (pe_tup (pa_cons pe_str (pa_cons pe_str pa_nil))) (by rfl)) (pw_and1 (pt_not (pt_truth (pv 3) (by intro _; rfl)))))) (pss_one (ps_ret (pv 5))) pss_nil)
  (pss_cons (ps_if (PW.pt (pw_and (pt_cmpR (op_eqU (K := K) hr) (pv 6) pe_str (nomark _)) (pw_and (pt_cmpR (op_isU) (pv 2) pe_non (nomark _)) (pw_and1 (pt_not (pt_truth (pv 3) (by intro _; rfl))))))) (pss_cons (ps_set (i := 2) sc_law_bad_at.nd rfl (Or.inl rfl) pe_str)
  (pss_one ps_continue)) pss_nil)
  (pss_cons (ps_if (PW.pt (pw_and (pt_cmpR (op_neU (K := K) hr) (pv 6) pe_str (nomark _)) (pw_and (pt_cmpR (op_inU (K := K) hr) (pv 6) pe_str (by rfl)) (pw_and (pt_cmpR (op_isNotU) (pv 2) pe_non (nomark _)) (pw_and (pt_cmpR (op_lt) (pe_callB (call_lenU (K := K)) (by rfl) B.len (by decide +kernel) (pa_cons (pv 2) pa_nil)) pe_int (nomark _)) (pw_and1 (pt_cmpR (op_neU (K := K) hr) (pe_op (op_addU (K := K)) (pv 2) (pv 6)) pe_str (nomark _)))))))) (pss_cons (ps_set (i := 2) sc_law_bad_at.nd rfl (Or.inl rfl) (pe_op (op_addU (K := K)) (pv 2) (pv 6)))
  (pss_one ps_continue)) pss_nil)
  (pss_cons (ps_if (pt_cmpR (op_eqU (K := K) hr) (pv 2) pe_str (nomark _)) (pss_one (ps_ret (pv 5))) pss_nil)
  (pss_cons (ps_if (PW.pt (pw_and (pt_cmpR (op_eqU (K := K) hr) (pv 6) pe_str (nomark _)) (pw_and (pt_not (pt_truth (pv 3) (by intro _; rfl))) (pw_and1 (pt_cmpR (op_lt) (pe_callB (call_lenU (K := K)) (by rfl) B.len (by decide +kernel) (pa_cons (pv 4) pa_nil)) pe_int (nomark _)))))) (pss_one (ps_expr (Fw.pe_m1 (K := K) PySem.F.plainAttrs_list PySem.F.slot_list_append PySem.F.type_list_append mt_append (pv 4) (pa_cons pe_int pa_nil)))) (pss_one (ps_if (PW.pt (pw_and (pt_cmpR (op_eqU (K := K) hr) (pv 6) pe_str (nomark _)) (pw_and (pt_cmpR (op_neU (K := K) hr) (pv 4) (pe_lst pa_nil) (nomark _)) (pw_and1 (pt_cmpR (op_eqU (K := K) hr) (pe_ix (ix_U (K := K)) (pv 4) (pe_un un_neg pe_int) (fun _ _ => rfl)) pe_int (nomark _)))))) (pss_one (ps_asg pe_int (pg_sub (pv 4) (pe_un un_neg pe_int) set_list))) (pss_one (ps_if (PW.pt (pw_and (pt_cmpR (op_eqU (K := K) hr) (pv 6) pe_str (nomark _)) (pw_and1 (pt_cmpR (op_neU (K := K) hr) (pv 4) (pe_lst pa_nil) (nomark _))))) (pss_one (ps_expr (Fw.pe_m0 (K := K) PySem.F.plainAttrs_list PySem.F.slot_list_pop PySem.F.type_list_pop mt_pop (pv 4)))) (pss_one (ps_ret (pe_ifExp (PW.pt (pw_and (pt_cmpR (op_eqU (K := K) hr) (pv 6) pe_str (nomark _)) (pw_and1 (pt_cmpR (op_eqU (K := K) hr) (pv 4) (pe_lst pa_nil) (nomark _))))) pe_non (pv 5)))))))))
  (pss_one (ps_par3 (i := 1) (j := 2) (l := 3) rfl sc_law_bad_at.nd rfl rfl rfl (by decide) (by decide) (by decide) rfl rfl rfl (pa_cons (pe_ix (ix_U (K := K)) (pe_lst (pa_cons pe_str (pa_cons pe_str pa_nil))) (pe_callTy call_intU (by rfl) B.int' (by decide +kernel) (pa_cons (pe_cmpR (op_eqU (K := K) hr) (pv 6) pe_str (nomark _)) pa_nil)) (fun _ _ => rfl)) (pa_cons pe_non (pa_cons (pe_cmpR (op_eqU (K := K) hr) (pv 6) pe_str (nomark _)) pa_nil))) (by rfl)))))))))))
  (pss_one (ps_ret (pe_callB (call_lenU (K := K)) (by rfl) B.len (by decide +kernel) (pa_cons (pv 0) pa_nil)))))), rfl, ?_⟩
  walk_at "sxp"
  replace hw := hw.drop1
  rename_i po _ _ _
  refine w_for walk_range (fun i σ H' => ∃ (wd : Str) (fig : Option Str) (ended : Bool) (op : List Int) (y5 y6 : Option V), σ = [some (.str z), some (.str wd), some (figV fig), some (.bl ended), some (.ref po), y5, y6] ∧ i ≤ z.length ∧ wd.length ≤ 6 ∧ (∀ f, fig = some f → f.length ≤ 6) ∧ op.length ≤ i ∧ run ((cd z).drop i) wd fig ended op i = bad z ∧
    W K H0 [] [] H' [(po, .lst (op.reverse.map V.int))] []) ?_ ?_ ?_ ?_
  · exact ⟨"", none, false, [], _, _, rfl, by omega, by decide, (fun _ z => nomatch z), by simp, rfl, hw⟩
  · intros
    trivial
  · rintro i x σ _ H hi ⟨wd, fig, ended, op, y5, y6, rfl, hiz, hwd, hfig, hop, hrun, hw⟩ ⟨rfl, rfl⟩
    have hfin : ∀ {H L R}, W K H0 [] [] H L R → bad z = some i → Q (.int (0 + (i : Int))) H := fun {H L R} hw e => by
      have := q _ hw.ex
      rw [e] at this
      rw [Int.zero_add]
      exact this
    refine x_seq (x_set (x_sl (x_var rfl (x_part (x_var rfl (x_isint (x_part (x_op (x_var rfl (x_c (x_addI (x_isint (x_slX (by omega) ?_)))))))))))))
    rw [Int.zero_add, cut_sign z i hiz]
    rcases Nat.lt_or_ge i z.length with hlt | hge
    · have hl : i < (cd z).length := by rw [cd_len]; exact hlt
      have e0 : signAt z i = sg (cd z)[i] := by unfold signAt; rw [List.getElem?_eq_getElem hl]
      rw [List.drop_eq_getElem_cons hl] at hrun
      rw [e0]
      generalize (cd z)[i] = c at hrun
      rw [run] at hrun
      refine x_nx (x_seq (x_ifS (x_viaT (C := fun QB => QB (isL c && (fig.isNone && (!ended && decide (wd.length < 6)))) H) ?_ ?_)))
      · intro QB kk
        walk_at "sxp"
        rw [sg_ne]
        walk_at "sxp"
        rw [inAbc]
        refine x_ifb (fun h1 => ?_) (fun h1 => ?_)
        · rw [h1] at kk
          cases fig with
          | some f =>
            dsimp only [figV]
            walk_at "sxp"
            exact kk
          | none =>
            dsimp only [figV]
            cases ended with
            | true =>
              walk_at "sxp"
              exact kk
            | false =>
              walk_at "sxp"
              rw [lt6]
              exact kk
        · rw [h1] at kk
          walk_at "sxp"
          exact kk
      refine x_ifb (fun h1 => ?_) (fun h1 => ?_)
      · rw [if_pos h1] at hrun
        simp only [Bool.and_eq_true, Option.isNone_iff_eq_none, Bool.not_eq_true', decide_eq_true_eq] at h1
        obtain ⟨_, rfl, rfl, h6⟩ := h1
        walk_at "sx"
        refine x_addS (by rw [sizeLine_eq]; show _ + 1 ≤ _; omega) ?_
        walk_at "sx"
        exact ⟨wd ++ sg c, none, false, op, _, _, rfl, hlt, by rw [strLen_append]; show _ + 1 ≤ _; omega, (fun _ z => nomatch z), by omega, hrun, hw⟩
      rw [if_neg (by rw [h1]; decide)] at hrun
      -- no word
      refine x_next (x_nx (x_seq (x_ifS (x_viaT (C := fun QB => ∀ H L R, W K H0 [] [] H ((po, .lst (op.reverse.map V.int)) :: L) R → QB (noWord wd ended) H) ?_ ?_))))
      · intro QB kk
        walk_at "sx"
        rw [show inV (V.str wd) [V.str (Str.ofString ""), V.str (Str.ofString "own")] = decide (wd ∈ [Str.ofString "", Str.ofString "own"]) from inV_strs wd [Str.ofString "", Str.ofString "own"]]
        replace hw := hw.drop1
        replace kk := kk _ _ _ hw
        unfold noWord at kk
        have e9 : decide (wd ∈ [Str.ofString "", Str.ofString "own"]) = (decide (wd = "") || decide (wd = "own")) := by
          rw [← Bool.decide_or]
          exact decide_eq_decide.mpr (by simp)
        rw [e9]
        walk_at "sx"
        refine x_ifb (fun h2 => ?_) (fun h2 => ?_)
        · rw [h2] at kk
          walk_at "sx"
          exact kk
        · rw [h2] at kk
          walk_at "sx"
          exact kk
      intro H L R hw
      refine x_ifb (fun h2 => ?_) (fun h2 => ?_)
      · rw [if_pos h2] at hrun
        walk_at "sx"
        exact hfin hw hrun.symm
      rw [if_neg (by rw [h2]; decide)] at hrun
      replace hw : W K H0 [] [] H [(po, .lst (op.reverse.map V.int))] [] := (hw.cells [0] rfl (by decide)).sub (fun _ z => nomatch z)
      -- a colon
      refine x_next (x_nx (x_seq (x_ifS (x_viaT (C := fun QB => QB (decide (c = 58) && (fig.isNone && !ended)) H) ?_ ?_))))
      · intro QB kk
        walk_at "sx"
        rw [lits.1, dC]
        refine x_ifb (fun h3 => ?_) (fun h3 => ?_)
        · rw [h3] at kk
          cases fig with
          | some f =>
            dsimp only [figV]
            walk_at "sx"
            exact kk
          | none =>
            dsimp only [figV]
            walk_at "sx"
            exact kk
        · rw [h3] at kk
          walk_at "sx"
          exact kk
      refine x_ifb (fun h3 => ?_) (fun h3 => ?_)
      · rw [if_pos h3] at hrun
        walk_at "sx"
        exact ⟨wd, some (Str.ofString ""), ended, op, _, _, rfl, hlt, hwd, fun f e => by cases e; decide, by omega, hrun, hw⟩
      rw [if_neg (by rw [h3]; decide)] at hrun
      -- figures
      refine x_next (x_nx (x_seq (x_ifS (x_viaT (C := fun QB => QB (digOk fig c) H) ?_ ?_))))
      · intro QB kk
        walk_at "sxp"
        rw [sg_ne]
        walk_at "sxp"
        rw [inDig]
        refine x_ifb (fun h4 => ?_) (fun h4 => ?_)
        · cases fig with
          | none =>
            dsimp only [figV]
            walk_at "sxp"
            exact kk
          | some f =>
            have hf := hfig f rfl
            replace kk : QB (isD c && (decide (f.length < 6) && !decide (f ++ sg c = Str.ofString "0"))) H := kk
            rw [h4] at kk
            dsimp only [figV]
            walk_at "sxp"
            rw [lt6]
            refine x_ifb (fun h5 => ?_) (fun h5 => ?_)
            · rw [h5] at kk
              walk_at "sx"
              refine x_addS (by rw [sizeLine_eq]; show _ + 1 ≤ _; omega) ?_
              walk_at "sx"
              exact kk
            · rw [h5] at kk
              walk_at "sx"
              exact kk
        · walk_at "sxp"
          unfold digOk at kk
          cases fig with
          | none => exact kk
          | some f =>
            rw [h4] at kk
            exact kk
      refine x_ifb (fun h4 => ?_) (fun h4 => ?_)
      · rw [if_pos h4] at hrun
        cases fig with
        | none => exact absurd h4 (by simp [digOk])
        | some f =>
          have hf := hfig f rfl
          have h6 : f.length < 6 := by
            unfold digOk at h4
            simp only [Bool.and_eq_true, decide_eq_true_eq] at h4
            exact h4.2.1
          dsimp only [figV]
          walk_at "sx"
          refine x_addS (by rw [sizeLine_eq]; show _ + 1 ≤ _; omega) ?_
          walk_at "sx"
          exact ⟨wd, some (f ++ sg c), ended, op, _, _, rfl, hlt, hwd, fun g e => by cases e; rw [strLen_append]; show _ + 1 ≤ _; omega, by omega, hrun, hw⟩
      rw [if_neg (by rw [h4]; decide)] at hrun
      refine x_next (x_nx (x_seq (x_ifS (x_viaT (C := fun QB => QB (decide (fig = some (Str.ofString ""))) H) ?_ ?_))))
      · intro QB kk
        cases fig with
        | none =>
          dsimp only [figV]
          walk_at "sx"
          exact kk
        | some f =>
          dsimp only [figV]
          have e9 : decide (some f = some (Str.ofString "")) = decide (f = Str.ofString "") := decide_eq_decide.mpr (by simp)
          rw [e9] at kk
          walk_at "sx"
          exact kk
      refine x_ifb (fun h5 => ?_) (fun h5 => ?_)
      · rw [if_pos (of_decide_eq_true h5)] at hrun
        walk_at "sx"
        exact hfin hw hrun.symm
      rw [if_neg (of_decide_eq_false h5)] at hrun
      -- brackets, a comma
      refine x_next (x_nx (x_seqVia (C := fun N => ∀ (H' : Hp) (op' : List Int), op'.length ≤ i + 1 → run ((cd z).drop (i + 1)) (if decide (c = 41) = true then "x" else "") none (decide (c = 41)) op' (i + 1) = bad z → W K H0 [] [] H' [(po, .lst (op'.reverse.map V.int))] [] →
        N [some (.str z), some (.str wd), some (figV fig), some (.bl ended), some (.ref po), some (.int (0 + i)), some (.str (sg c))] H') ?_ ?_))
      · intro N kk
        refine x_ifS (x_viaT (C := fun QB => QB (decide (c = 40) && (!ended && decide (op.length < 30))) H) ?_ ?_)
        · intro QB kk
          walk_at "sx"
          rw [lits.2.1, dC]
          refine x_ifb (fun h6 => ?_) (fun h6 => ?_)
          · rw [h6] at kk
            cases ended with
            | true =>
              walk_at "sx"
              exact kk
            | false =>
              walk_at "sx"
              rw [List.length_map, List.length_reverse, lt30]
              exact kk
          · rw [h6] at kk
            walk_at "sx"
            exact kk
        refine x_ifb (fun h6 => ?_) (fun h6 => ?_)
        · rw [if_pos h6] at hrun
          have hc : c = 40 := by
            simp only [Bool.and_eq_true, decide_eq_true_eq] at h6
            exact h6.1
          subst hc
          have hzz : (op.reverse.map V.int).length < sizeLine := sz_lt (by rw [List.length_map, List.length_reverse]; omega)
          walk_at "sx"
          exact kk _ (1 :: op) (by simp; omega) hrun (by rw [List.reverse_cons, List.map_append]; exact hw)
        rw [if_neg (by rw [h6]; decide)] at hrun
        refine x_ifS (x_viaT (C := fun QB => ∀ H L, W K H0 [] [] H (L ++ [(po, .lst (op.reverse.map V.int))]) [] → QB (decide (c = 44) && decide (op.head? = some 1)) H) ?_ ?_)
        · intro QB kk
          walk_at "sx"
          rw [lits.2.2.1, dC]
          refine x_ifb (fun h7 => ?_) (fun h7 => ?_)
          · rw [h7] at kk
            walk_at "sx"
            cases op with
            | nil =>
              refine x_neIL (ns := []) (ms := []) (hw.at 1 rfl) (hw.at 0 rfl) ?_
              walk_at "sx"
              exact kk _ [_] hw
            | cons a r =>
              refine x_neIL (ns := (a :: r).reverse) (ms := []) (hw.at 1 rfl) (hw.at 0 rfl) ?_
              rw [show decide ((a :: r).reverse = []) = false from decide_eq_false (by simp)]
              walk_at "sx"
              refine x_ixL (v := .int a) (SqL.of (hw.at 1 rfl)) (at_last r a) ?_
              walk_at "sx"
              have e9 : decide ((a :: r).head? = some 1) = decide (a = 1) := decide_eq_decide.mpr (by simp)
              rw [e9] at kk
              exact kk _ [_] hw
          · rw [h7] at kk
            walk_at "sx"
            exact kk _ [] hw
        intro H L hw
        refine x_ifb (fun h7 => ?_) (fun h7 => ?_)
        · rw [if_pos h7] at hrun
          simp only [Bool.and_eq_true, decide_eq_true_eq] at h7
          obtain ⟨rfl, h7⟩ := h7
          obtain ⟨r, rfl⟩ : ∃ r, op = 1 :: r := by
            cases op with
            | nil => cases h7
            | cons a r => simp at h7; exact ⟨r, by rw [h7]⟩
          replace hw : W K H0 [] [] H [(po, .lst ((1 :: r).reverse.map V.int))] [] := hw.lastCell
          walk_at "sx"
          refine w_setL hw 0 rfl (ix_last r 1) fun H hw => ?_
          walk_at "sx"
          rw [set_last] at hw
          exact kk _ (2 :: r) (by simp at hop ⊢; omega) hrun hw
        rw [if_neg (by rw [h7]; decide)] at hrun
        replace hw : W K H0 [] [] H [(po, .lst (op.reverse.map V.int))] [] := hw.lastCell
        refine x_ifS (x_viaT (C := fun QB => ∀ H L, W K H0 [] [] H (L ++ [(po, .lst (op.reverse.map V.int))]) [] → QB (decide (c = 41) && decide (op ≠ [])) H) ?_ ?_)
        · intro QB kk
          walk_at "sx"
          rw [lits.2.2.2, dC]
          refine x_ifb (fun h8 => ?_) (fun h8 => ?_)
          · rw [h8] at kk
            walk_at "sx"
            refine x_neIL (ns := op.reverse) (ms := []) (hw.at 1 rfl) (hw.at 0 rfl) ?_
            have e9 : (!decide (op.reverse = [])) = decide (op ≠ []) := by
              rw [← decide_not]
              exact decide_eq_decide.mpr (by simp)
            rw [e9]
            walk_at "sx"
            exact kk _ [_] hw
          · rw [h8] at kk
            walk_at "sx"
            exact kk _ [] hw
        intro H L hw
        replace hw : W K H0 [] [] H [(po, .lst (op.reverse.map V.int))] [] := hw.lastCell
        refine x_ifb (fun h8 => ?_) (fun h8 => ?_)
        · rw [if_pos h8] at hrun
          simp only [Bool.and_eq_true, decide_eq_true_eq] at h8
          obtain ⟨rfl, h8⟩ := h8
          obtain ⟨a, r, rfl⟩ : ∃ a r, op = a :: r := by
            cases op with
            | nil => exact absurd rfl h8
            | cons a r => exact ⟨a, r, rfl⟩
          walk_at "sx"
          refine w_popL hw 0 rfl (last_of r a) fun H hw => ?_
          walk_at "sx"
          rw [drop_last] at hw
          exact kk _ r (by simp at hop; omega) hrun hw
        rw [if_neg (by rw [h8]; decide)] at hrun
        walk_at "sx"
        rw [sg_ne]
        walk_at "sx"
        exact hfin hw hrun.symm
      intro H op' hop' hrun hw
      walk_at "sx"
      rw [lits.2.2.2, dC]
      by_cases hc : c = 41
      · rw [decide_eq_true hc] at hrun ⊢
        walk_at "sx"
        rw [dC, decide_eq_true hc]
        walk_at "sx"
        exact ⟨"x", none, true, op', _, _, rfl, hlt, by decide, (fun _ z => nomatch z), hop', hrun, hw.drop1⟩
      · rw [decide_eq_false hc] at hrun ⊢
        walk_at "sx"
        rw [dC, decide_eq_false hc]
        walk_at "sx"
        exact ⟨"", none, false, op', _, _, rfl, hlt, by decide, (fun _ z => nomatch z), hop', hrun, hw.drop1⟩
    · have e0 : signAt z i = Str.ofString "" := by
        unfold signAt
        rw [List.getElem?_eq_none (by rw [cd_len]; exact hge)]
        rfl
      rw [e0]
      rw [List.drop_eq_nil_of_le (by rw [cd_len]; exact hge), run] at hrun
      refine x_nx (x_seq (x_ifS (x_viaT (C := fun QB => QB false H) ?_ ?_)))
      · intro QB kk
        walk_at "sx"
        exact kk
      refine x_ifF ?_
      refine x_next (x_nx (x_seq (x_ifS (x_viaT (C := fun QB => ∀ H L R, W K H0 [] [] H ((po, .lst (op.reverse.map V.int)) :: L) R → QB (noWord wd ended) H) ?_ ?_))))
      · intro QB kk
        walk_at "sx"
        rw [show inV (V.str wd) [V.str (Str.ofString ""), V.str (Str.ofString "own")] = decide (wd ∈ [Str.ofString "", Str.ofString "own"]) from inV_strs wd [Str.ofString "", Str.ofString "own"]]
        replace hw := hw.drop1
        replace kk := kk _ _ _ hw
        unfold noWord at kk
        have e9 : decide (wd ∈ [Str.ofString "", Str.ofString "own"]) = (decide (wd = "") || decide (wd = "own")) := by
          rw [← Bool.decide_or]
          exact decide_eq_decide.mpr (by simp)
        rw [e9]
        walk_at "sx"
        refine x_ifb (fun h2 => ?_) (fun h2 => ?_)
        · rw [h2] at kk
          walk_at "sx"
          exact kk
        · rw [h2] at kk
          walk_at "sx"
          exact kk
      intro H L R hw
      refine x_ifb (fun h2 => ?_) (fun h2 => ?_)
      · rw [if_pos h2] at hrun
        walk_at "sx"
        exact hfin hw hrun.symm
      rw [if_neg (by rw [h2]; decide)] at hrun
      replace hw : W K H0 [] [] H [(po, .lst (op.reverse.map V.int))] [] := (hw.cells [0] rfl (by decide)).sub (fun _ z => nomatch z)
      refine x_next (x_nx (x_seq (x_ifS (x_viaT (C := fun QB => QB false H) ?_ ?_))))
      · intro QB kk
        walk_at "sx"
        exact kk
      refine x_ifF ?_
      refine x_next (x_nx (x_seq (x_ifS (x_viaT (C := fun QB => QB false H) ?_ ?_))))
      · intro QB kk
        walk_at "sx"
        exact kk
      refine x_ifF ?_
      refine x_next (x_nx (x_seq (x_ifS (x_viaT (C := fun QB => QB (decide (fig = some (Str.ofString ""))) H) ?_ ?_))))
      · intro QB kk
        cases fig with
        | none =>
          dsimp only [figV]
          walk_at "sx"
          exact kk
        | some f =>
          dsimp only [figV]
          have e9 : decide (some f = some (Str.ofString "")) = decide (f = Str.ofString "") := decide_eq_decide.mpr (by simp)
          rw [e9] at kk
          walk_at "sx"
          exact kk
      refine x_ifb (fun h5 => ?_) (fun h5 => ?_)
      · rw [if_pos (of_decide_eq_true h5)] at hrun
        walk_at "sx"
        exact hfin hw hrun.symm
      rw [if_neg (of_decide_eq_false h5)] at hrun
      walk_at "sx"
      refine x_eqIL (ns := op.reverse) (ms := []) (hw.at 1 rfl) (hw.at 0 rfl) ?_
      walk_at "sx"
      refine x_ifd (fun h9 => ?_) (fun h9 => ?_)
      · have ho : op = [] := by simpa using h9
        rw [if_pos ho] at hrun
        walk_at "sx"
        have := q _ hw.ex
        rw [← hrun] at this
        exact this
      · have ho : op ≠ [] := fun z => h9 (by rw [z]; rfl)
        rw [if_neg ho] at hrun
        walk_at "sx"
        exact hfin hw hrun.symm
  · rintro σ H ⟨wd, fig, ended, op, y5, y6, rfl, hiz, _⟩
    exfalso
    omega
end
end Law
namespace Law
open PySem PySem.Spec PyProof.Rows L2 Fw
abbrev veT : List Value := [.type "ValueError", .type "Exception", .type "BaseException", .type "object"]
structure Con (mg : Str → Option Value) : Prop where
  SMALL : ∃ t, mg "SMALL" = some (.str "abcdefghijklmnopqrstuvwxyz" t)
  FIGURES : ∃ t, mg "FIGURES" = some (.str "0123456789" t)
  MOST_SIGNS : ∃ t, mg "MOST_SIGNS" = some (.int 6 t)
  MOST_PARTS : ∃ t, mg "MOST_PARTS" = some (.int 2 t)
  MOST_DEEP : ∃ t, mg "MOST_DEEP" = some (.int 30 t)
  NO_NAME : ∃ t, mg "NO_NAME" = some (.str "own" t)
abbrev ssigns_on : Stmt := topS 15
theorem scsigns_on : FnScope ["text", "at", "signs", "most", "end"] ["text", "at", "signs", "most"] (defScope ssigns_on) := ⟨rfl, rfl, rfl, by decide +kernel, rfl, by decide +kernel, by decide +kernel⟩

abbrev sBadText_init : Stmt := inClass (topS 3) 0
theorem scBadText_init : FnScope ["self", "at"] ["self", "at"] (defScope sBadText_init) := ⟨rfl, rfl, rfl, by decide +kernel, rfl, by decide +kernel, by decide +kernel⟩

abbrev sname_at : Stmt := topS 16
theorem scname_at : FnScope ["text", "at", "end"] ["text", "at"] (defScope sname_at) := ⟨rfl, rfl, rfl, by decide +kernel, rfl, by decide +kernel, by decide +kernel⟩

abbrev sown_at : Stmt := topS 17
theorem scown_at : FnScope ["text", "at", "end"] ["text", "at"] (defScope sown_at) := ⟨rfl, rfl, rfl, by decide +kernel, rfl, by decide +kernel, by decide +kernel⟩

abbrev sclosed : Stmt := topS 18
theorem scclosed : FnScope ["node", "making", "own", "parts"] ["node"] (defScope sclosed) := ⟨rfl, rfl, rfl, by decide +kernel, rfl, by decide +kernel, by decide +kernel⟩

def spSigns : Sp := fun vs H Q _ => ∃ (z S : Str) (a : Nat), vs = [.str z, .int a, .str S, .int 6] ∧ a ≤ z.length ∧ z.length ≤ 2000 ∧
  ∀ k : Nat, k ≤ 6 → a + k ≤ z.length → (∀ c ∈ ((cd z).drop a).take k, c ∈ cd S) → (k = 6 ∨ ∀ c r, (cd z).drop (a + k) = c :: r → c ∉ cd S) → Q (.int ((a + k : Nat) : Int)) H
def spName (CB : Addr) : Sp := fun vs H Q E => ∃ (z : Str) (a : Nat) (op : List Int) (bd : Option Nat), vs = [.str z, .int a] ∧ a ≤ z.length ∧ z.length ≤ 2000 ∧ run ((cd z).drop a) "" none false op a = bd ∧
  (∀ k nm, nm = st (((cd z).drop a).take k) → a + k ≤ z.length → NameOk nm → nm.length = k → stopL nm ((cd z).drop (a + k)) → run ((cd z).drop (a + k)) nm none false op (a + k) = bd → Q (.int ((a + k : Nat) : Int)) H) ∧
  ∀ (k : Nat) d H', bd = some k → H d = none → Ex [] H H' → H' d = some (.xd [("at", .int k)]) → E (.ref CB) (some d) H'
/-- a node's number as it stands -/
def figOk (z : Str) (a e : Nat) (fig : Option Str) : Prop :=
  (fig = none ∧ e = a ∧ ∀ r, (cd z).drop a ≠ 58 :: r) ∨ ∃ l : List Nat, fig = some (st l) ∧ e = a + 1 + l.length ∧ (cd z).drop a = 58 :: (l ++ (cd z).drop e) ∧ (∀ c ∈ l, isD c = true) ∧ 1 ≤ l.length ∧ l.length ≤ 6 ∧ l.head? ≠ some 48 ∧ stopD (st l) ((cd z).drop e)
def spOwn (CB : Addr) : Sp := fun vs H Q E => ∃ (z nm : Str) (a : Nat) (op : List Int) (bd : Option Nat), vs = [.str z, .int a] ∧ a ≤ z.length ∧ z.length ≤ 2000 ∧ NameOk nm ∧ stopL nm ((cd z).drop a) ∧ run ((cd z).drop a) nm none false op a = bd ∧
  (∀ (e : Nat) (fig : Option Str), a ≤ e → e ≤ z.length → figOk z a e fig → run ((cd z).drop e) nm fig false op e = bd → Q (.int (e : Int)) H) ∧
  ∀ (k : Nat) d H', bd = some k → H d = none → Ex [] H H' → H' d = some (.xd [("at", .int k)]) → E (.ref CB) (some d) H'
def spClosed (K : PySem.W.Frag) : Sp := fun vs H Q _ => ∃ (M : List Addr) (na pa : Addr) (n : Str) (o : Int) (us : List V) (ts : List Tr), vs = [.ref na] ∧ Al M H ∧ H na = some (.lst [.str n, .int o, .ref pa]) ∧ H pa = some (.lst us) ∧ RpAll K M H us (datas ts) ∧
  ∀ p H', Ex [] H H' → Rp K M H' (.ref p) (Tr.mk n o ts).data → Q (.ref p) H'
theorem drop_cons {l : List Nat} {a : Nat} (h : a < l.length) : l.drop a = l[a] :: l.drop (a + 1) := List.drop_eq_getElem_cons h
theorem take_snoc {l : List Nat} {k : Nat} (h : k < l.length) : l.take (k + 1) = l.take k ++ [l[k]] := by rw [List.take_add_one, List.getElem?_eq_getElem h]; rfl
theorem drop_split (l : List Nat) (a k : Nat) : l.drop a = (l.drop a).take k ++ l.drop (a + k) := by
  conv => lhs; rw [← List.take_append_drop k (l.drop a)]
  rw [List.drop_drop]
theorem abc_isL (c : Nat) : c ∈ cd (Str.ofString "abcdefghijklmnopqrstuvwxyz") ↔ isL c = true := by
  have := inAbc c
  rw [← this, decide_eq_true_eq]
theorem dig_isD (c : Nat) : c ∈ cd (Str.ofString "0123456789") ↔ isD c = true := by
  have := inDig c
  rw [← this, decide_eq_true_eq]
section
variable {P : Program} {w : World} {K : PySem.W.Frag} {mg : Str → Option Value} {base : Heap} {f : Addr} {fd : FuncData} {k : Nat} {kws : List (Str × V)}
theorem ok_signs (F : FunD K "signs_on" "signs_on" (defArgs ssigns_on) (defBody ssigns_on) (defScope ssigns_on) [] kws f fd) (B : BltS mg) : FnG P w K mg base CX0 (k + 1) f fd ["text", "at", "signs", "most"] spSigns := by
  refine okG F scsigns_on (fun vs H Q E h => ?_) (fun cdv A outer s H0 vs Q E hG hr h => ?_)
  · obtain ⟨z, S, a, rfl, _⟩ := h
    rfl
  obtain ⟨z, S, a, rfl, ha, hz, q⟩ := h
  refine ⟨_, [some (.str z), some (.int a), some (.str S), some (.int 6), none], (pss_cons (ps_set (i := 4) scsigns_on.nd rfl (Or.inl rfl) (pv 1))
  (pss_cons (ps_while PassesOwn.never (PW.pt (pw_and (pt_cmpR (op_lt) (pv 4) (pe_callB (call_lenU (K := K)) (by rfl) B.len (by decide +kernel) (pa_cons (pv 0) pa_nil)) (nomark _)) (pw_and (pt_cmpR (op_lt) (pe_op op_sub (pv 4) (pv 1)) (pv 3) (nomark _)) (pw_and1 (pt_cmpR (op_inU (K := K) hr) (pe_ix (ix_U (K := K)) (pv 0) (pv 4) (fun _ _ => rfl)) (pv 2) (by rfl)))))) (pss_one (ps_aug (i := 4) scsigns_on.nd rfl (Or.inl rfl) pe_int ip_add)))
  (pss_one (ps_ret (pv 4))))), rfl, ?_⟩
  refine x_seq (x_set (x_var rfl (x_nx (x_seq ?_))))
  refine w_while (fun m σ H => ∃ j : Nat, m = 6 - j ∧ H = H0 ∧ σ = [some (.str z), some (.int a), some (.str S), some (.int 6), some (.int ((a + j : Nat) : Int))] ∧ j ≤ 6 ∧ a + j ≤ z.length ∧ ∀ c ∈ ((cd z).drop a).take j, c ∈ cd S) 6 ⟨0, rfl, rfl, rfl, by decide, ha, fun c hc => by simp at hc⟩ ?_
  rintro m σ H ⟨j, rfl, rfl, rfl, hj6, hjz, hS⟩
  walk_at "sxp"
  refine x_ifd (fun c1 => ?_) (fun c1 => ?_)
  · walk_at "sxp"
    refine x_ifd (fun c2 => ?_) (fun c2 => ?_)
    · have hl : a + j < (cd z).length := by rw [cd_len]; omega
      walk_at "sx"
      refine x_ixS (c := (cd z)[a + j]) (by rw [sizeLine_eq]; omega) (atI_nat (List.getElem?_eq_getElem hl)) ?_
      walk_at "sx"
      refine x_ifd (fun c3 => ?_) (fun c3 => ?_)
      · refine x_whB ?_
        walk_at "sx"
        have hl2 : j < ((cd z).drop a).length := by rw [List.length_drop]; omega
        refine ⟨6 - (j + 1), by omega, j + 1, rfl, rfl, by simp; omega, by omega, by omega, fun c hc => ?_⟩
        rw [take_snoc hl2] at hc
        rcases List.mem_append.mp hc with hc | hc
        · exact hS c hc
        · rw [List.mem_singleton.mp hc, List.getElem_drop]
          exact c3
      · walk_at "sx"
        refine q j hj6 hjz hS (.inr fun c r e => ?_)
        rw [drop_cons hl] at e
        cases e
        exact c3
    · walk_at "sx"
      exact q j hj6 hjz hS (.inl (by omega))
  · walk_at "sx"
    refine q j hj6 hjz hS (.inr fun c r e => ?_)
    rw [List.drop_eq_nil_of_le (by rw [cd_len]; omega)] at e
    cases e
theorem ok_BadText {C : Addr} (F : Fun K "__init__" "BadText.__init__" sBadText_init f fd) (BValueError : mg "ValueError" = none) (T : Own K C "ValueError.__new__" veT) (h1 : PySem.W.findIn K (.ref C) "at" = some none) : FnOk P w K mg base CX0 (k + 1) f fd ["self", "at"] (spInit1 C "at") := by
  refine okS F scBadText_init (fun vs H Q E h => ?_) (fun cdv A outer s H0 vs Q E hr h => ?_)
  · obtain ⟨a, v, rfl, _⟩ := h
    rfl
  obtain ⟨a, v, rfl, ea, q⟩ := h
  exact ⟨_, [some (.ref a), some v], (pss_cons (ps_expr (pe_binit bs_ValueError (by rfl) BValueError (pa_cons (pv 0) (pa_cons pe_str pa_nil))))
  (pss_one (ps_fld bs_ValueError (pv 0) (pv 1)))), rfl, init1 T h1 ea q⟩
section
variable {CB fI : Addr} {fdI : FuncData} (TBadText : Own K CB "ValueError.__new__" veT) (iBadText : PySem.W.findIn K (.ref CB) "__init__" = some (some (.ref fI))) (tBadText : PySem.W.typeIn K (.ref fI) = some (.type "function"))
  (FiBadText : FnOk P w K mg base CX0 1 fI fdI ["self", "at"] (spInit1 CB "at")) (bBadText : Binds K fdI ["self", "at"] []) (gBadText : mg "BadText" = some (.ref CB)) (C : Con mg) (Gsigns_on : Fq P w K mg base CX0 1 "signs_on" ["text", "at", "signs", "most"] spSigns)
include TBadText iBadText tBadText FiBadText bBadText gBadText C Gsigns_on
theorem ok_name (F : FunD K "name_at" "name_at" (defArgs sname_at) (defBody sname_at) (defScope sname_at) [] kws f fd) : FnG P w K mg base (L2.CX P w) 3 f fd ["text", "at"] (spName CB) := by
  refine okGX F scname_at (fun vs H Q E h => ?_) (fun cdv A outer s H0 vs Q E hG hr h => ?_)
  · obtain ⟨z, a, op, bd, rfl, _⟩ := h
    rfl
  obtain ⟨z, a, op, bd, rfl, ha, hz, hrun, q, qE⟩ := h
  refine ⟨_, [some (.str z), some (.int a), none], (pss_cons (ps_set (i := 2) scname_at.nd rfl (Or.inl rfl) (pe_fq hG Gsigns_on hr (by first | decide | omega) (by rfl) pass0 (pa_cons (pv 0) (pa_cons (pv 1) (pa_cons (pe_gS (by rfl) C.SMALL) (pa_cons (pe_gI (by rfl) C.MOST_SIGNS) pa_nil))))))
  (pss_cons (ps_if (PW.pt (pw_or (pt_cmpR (op_eqU (K := K) hr) (pv 2) (pv 1) (nomark _)) (pw_or1 (pt_cmpR (op_eqU (K := K) hr) (pe_slice (sl_U (K := K)) (pv 0) (po_some (pv 1)) (po_some (pv 2))) (pe_gS (by rfl) C.NO_NAME) (nomark _))))) (pss_one (ps_raise rfl takesE (pmk_own bs_ValueError TBadText iBadText tBadText FiBadText hr (by decide) bBadText pass0 (by rfl) gBadText (pa_cons (pv 2) pa_nil)))) pss_nil)
  (pss_one (ps_ret (pv 2))))), rfl, ?_⟩
  walk_at "sx"
  refine ⟨z, _, a, rfl, ha, hz, fun k hk6 hkz hS hstop => ?_⟩
  have hlen : (((cd z).drop a).take k).length = k := by rw [List.length_take, List.length_drop, cd_len]; omega
  have hL : ∀ c ∈ ((cd z).drop a).take k, isL c = true := fun c hc => (abc_isL c).mp (hS c hc)
  have hsl : (st (((cd z).drop a).take k)).length = k := hlen
  have hst : stopL (st (((cd z).drop a).take k)) ((cd z).drop (a + k)) := hstop.imp (fun h => hsl.trans h) fun h c r e => by
    cases e2 : isL c with
    | false => rfl
    | true => exact absurd ((abc_isL c).mpr e2) (h c r e)
  have hdd : (cd z).drop a = ((cd z).drop a).take k ++ (cd z).drop (a + k) := drop_split _ _ _
  have hr2 : run ((cd z).drop (a + k)) (st (((cd z).drop a).take k)) none false op (a + k) = bd := by
    rw [hdd, run_letters _ _ _ _ _ hL (by show 0 + _ ≤ 6; omega), show ("" : Str) ++ st (((cd z).drop a).take k) = st (((cd z).drop a).take k) from nil_app _, hlen] at hrun
    exact hrun
  have hcut : cutS z (some (a : Int)) (some ((a + k : Nat) : Int)) = st (((cd z).drop a).take k) := str_ext (by
    show cd _ = _
    rw [cd_cut z a (a + k) ha hkz, Nat.add_sub_cancel_left])
  have hbad : ∀ {nm : Str}, nm = st (((cd z).drop a).take k) → noWord nm false = true → bd = some (a + k) := fun {nm} e hn => by
    subst e
    rw [run_noWord hst hn] at hr2
    exact hr2.symm
  generalize hnm : st (((cd z).drop a).take k) = nm at *
  walk_at "sx"
  refine x_ifd (fun c1 => ?_) (fun c1 => ?_)
  · have hk0 : k = 0 := by omega
    walk_at "sx"
    refine x_mk1 fun d hd => qE (a + k) d _ (hbad rfl ?_) hd (Ex.new hd) upd_same
    have : nm = "" := str_ext (List.eq_nil_of_length_eq_zero (by show (cd nm).length = 0; rw [cd_len, hsl, hk0]))
    rw [this]
    rfl
  · walk_at "sx"
    refine x_slX (by omega) ?_
    rw [hcut]
    walk_at "sx"
    refine x_ifd (fun c2 => ?_) (fun c2 => ?_)
    · walk_at "sx"
      refine x_mk1 fun d hd => qE (a + k) d _ (hbad rfl ?_) hd (Ex.new hd) upd_same
      rw [c2]
      rfl
    · walk_at "sx"
      refine q k nm hnm.symm hkz ⟨by omega, by omega, fun c hc => ?_, c2⟩ hsl hst hr2
      have h2 := hL c (by rw [← hnm] at hc; exact hc)
      simpa [isL] using h2
theorem ok_own (F : FunD K "own_at" "own_at" (defArgs sown_at) (defBody sown_at) (defScope sown_at) [] kws f fd) : FnG P w K mg base (L2.CX P w) 3 f fd ["text", "at"] (spOwn CB) := by
  refine okGX F scown_at (fun vs H Q E h => ?_) (fun cdv A outer s H0 vs Q E hG hr h => ?_)
  · obtain ⟨z, nm, a, op, bd, rfl, _⟩ := h
    rfl
  obtain ⟨z, nm, a, op, bd, rfl, ha, hz, hnm, hst, hrun, q, qE⟩ := h
  have hnw : noWord nm false = false := by
    unfold noWord
    rw [decide_eq_false hnm.no, decide_eq_false (fun e => by have := hnm.l1; rw [e] at this; exact absurd this (by decide))]
    rfl
  refine ⟨_, [some (.str z), some (.int a), none], (pss_cons (ps_if (pt_cmpR (op_neU (K := K) hr) (pe_slice (sl_U (K := K)) (pv 0) (po_some (pv 1)) (po_some (pe_op (op_addU (K := K)) (pv 1) pe_int))) pe_str (nomark _)) (pss_one (ps_ret (pv 1))) pss_nil)
  (pss_cons (ps_set (i := 2) scown_at.nd rfl (Or.inl rfl) (pe_fq hG Gsigns_on hr (by first | decide | omega) (by rfl) pass0 (pa_cons (pv 0) (pa_cons (pe_op (op_addU (K := K)) (pv 1) pe_int) (pa_cons (pe_gS (by rfl) C.FIGURES) (pa_cons (pe_gI (by rfl) C.MOST_SIGNS) pa_nil))))))
  (pss_cons (ps_if (PW.pt (pw_or (pt_cmpR (op_eqU (K := K) hr) (pv 2) (pe_op (op_addU (K := K)) (pv 1) pe_int) (nomark _)) (pw_or1 (pt_cmpR (op_eqU (K := K) hr) (pe_ix (ix_U (K := K)) (pv 0) (pe_op (op_addU (K := K)) (pv 1) pe_int) (fun _ _ => rfl)) pe_str (nomark _))))) (pss_one (ps_raise rfl takesE (pmk_own bs_ValueError TBadText iBadText tBadText FiBadText hr (by decide) bBadText pass0 (by rfl) gBadText (pa_cons (pe_op (op_addU (K := K)) (pv 1) pe_int) pa_nil)))) pss_nil)
  (pss_one (ps_ret (pv 2)))))), rfl, ?_⟩
  walk_at "sx"
  refine x_slX (by omega) ?_
  rw [cut_sign z a ha]
  walk_at "sx"
  rw [lits.1]
  refine x_ifn (fun c1 => ?_) (fun c1 => ?_)
  · walk_at "sx"
    refine q a none (Nat.le_refl _) ha (.inl ⟨rfl, rfl, fun r e => c1 ?_⟩) hrun
    unfold signAt
    have : (cd z)[a]? = some 58 := by
      have := congrArg (fun l => l[0]?) e
      simpa using this
    rw [this]
  · have hal : a < z.length := by
      rcases Nat.lt_or_ge a z.length with h | h
      · exact h
      · unfold signAt at c1
        rw [List.getElem?_eq_none (by rw [cd_len]; exact h)] at c1
        exact absurd (congrArg Str.length c1) (by decide)
    have hl : a < (cd z).length := by rw [cd_len]; exact hal
    have h58 : (cd z)[a] = 58 := by
      unfold signAt at c1
      rw [List.getElem?_eq_getElem hl] at c1
      exact sg_eq.mp c1
    have hd0 : (cd z).drop a = 58 :: (cd z).drop (a + 1) := by rw [drop_cons hl, h58]
    rw [hd0, run_colon hnw] at hrun
    walk_at "sx"
    refine ⟨z, _, a + 1, rfl, by omega, hz, fun k hk6 hkz hS hstop => ?_⟩
    have hlen : (((cd z).drop (a + 1)).take k).length = k := by rw [List.length_take, List.length_drop, cd_len]; omega
    have hD : ∀ c ∈ ((cd z).drop (a + 1)).take k, isD c = true := fun c hc => (dig_isD c).mp (hS c hc)
    have hsl : (st (((cd z).drop (a + 1)).take k)).length = k := hlen
    have hsd : stopD (st (((cd z).drop (a + 1)).take k)) ((cd z).drop (a + 1 + k)) := hstop.imp (fun h => hsl.trans h) fun h c r e => by
      cases e2 : isD c with
      | false => rfl
      | true => exact absurd ((dig_isD c).mpr e2) (h c r e)
    have hdd : (cd z).drop (a + 1) = ((cd z).drop (a + 1)).take k ++ (cd z).drop (a + 1 + k) := drop_split _ _ _
    walk_at "sx"
    refine x_ifd (fun c2 => ?_) (fun c2 => ?_)
    · have hk0 : k = 0 := by omega
      walk_at "sx"
      refine x_mk1 fun d hd => qE (a + 1) d _ ?_ hd (Ex.new hd) ?_
      · rw [← hrun]
        refine run_noFig hnw (fun c r e => .inl ?_) op (a + 1)
        rcases hsd with h | h
        · rw [hsl] at h; omega
        · exact h c r (by rw [hk0]; exact e)
      · exact upd_same
    · have hk1 : 1 ≤ k := by omega
      have hl1 : a + 1 < (cd z).length := by rw [cd_len]; omega
      walk_at "sx"
      refine x_ixS (c := (cd z)[a + 1]) (by rw [sizeLine_eq]; omega) (by have := atI_nat (xs := cd z) (List.getElem?_eq_getElem hl1); simpa using this) ?_
      walk_at "sx"
      have e0 : Str.ofString "0" = sg 48 := by decide +kernel
      rw [e0, dC]
      refine x_ifd (fun c3 => ?_) (fun c3 => ?_)
      · walk_at "sx"
        refine x_mk1 fun d hd => qE (a + 1) d _ ?_ hd (Ex.new hd) ?_
        · rw [← hrun]
          refine run_noFig hnw (fun c r e => .inr ?_) op (a + 1)
          rw [drop_cons hl1, c3] at e
          cases e
          rfl
        · exact upd_same
      · walk_at "sx"
        have hhead : (((cd z).drop (a + 1)).take k).head? ≠ some 48 := fun z0 => c3 (by
          rw [drop_cons hl1] at z0
          cases k with
          | zero => omega
          | succ k => simpa using z0)
        refine q (a + 1 + k) (some (st (((cd z).drop (a + 1)).take k))) (by omega) hkz (.inr ⟨_, rfl, by rw [hlen], by rw [← hdd]; exact hd0, hD, by omega, by omega, hhead, hsd⟩) ?_
        rw [← hrun]
        conv => rhs; rw [hdd]
        rw [run_digits _ _ _ _ _ _ hnw hD (by show 0 + _ ≤ 6; omega) (fun _ => hhead), nil_app, hlen]
end
theorem ok_closed (F : FunD K "closed" "closed" (defArgs sclosed) (defBody sclosed) (defScope sclosed) [] kws f fd) (B : BltS mg) : FnG P w K mg base CX0 (k + 1) f fd ["node"] (spClosed K) := by
  refine okG F scclosed (fun vs H Q E h => ?_) (fun cdv A outer s H0 vs Q E hG hr h => ?_)
  · obtain ⟨M, na, pa, n, o, us, ts, rfl, _⟩ := h
    rfl
  obtain ⟨M, na, pa, n, o, us, ts, rfl, hM, hna, hpa, hd, q⟩ := h
  have hw : W K H0 [] M H0 [] [.al us (datas ts)] := W.start0 hM (fun r z => by rw [List.mem_singleton.mp z]; exact hd)
  refine ⟨_, [some (.ref na), none, none, none], (pss_cons (ps_asg (pv 0) (pg_uL (K := K) (n := 3) rfl (pgs_cons (pg_name (i := 1) scclosed.nd rfl (Or.inl rfl)) (pgs_cons (pg_name (i := 2) scclosed.nd rfl (Or.inl rfl)) (pgs_cons (pg_name (i := 3) scclosed.nd rfl (Or.inl rfl)) pgs_nil)))))
  (pss_one (ps_ret (pe_tup (pa_cons (pv 1) (pa_cons (pv 2) (pa_cons (pe_callTy (call_tupleU (K := K)) (by rfl) B.tuple (by decide +kernel) (pa_cons (pv 3) pa_nil)) pa_nil))))))), rfl, ?_⟩
  walk_at "sx"
  refine x_gU3 (SqL.of hna) ?_
  walk_at "sx"
  refine w_tupleA hw hpa (hw.all 0 rfl) fun p H hp hw => ?_
  walk_at "sxd"
  exact q _ _ hw.ex (by simp only [Tr.data]; exact hw.rp 0 rfl)
end
end Law
namespace Law
open PySem PySem.Spec PyProof.Rows L2 Fw
abbrev sgoes_on : Stmt := topS 19
theorem scgoes_on : FnScope ["text", "at", "opened", "node", "sign"] ["text", "at", "opened", "node"] (defScope sgoes_on) := ⟨rfl, rfl, rfl, by decide +kernel, rfl, by decide +kernel, by decide +kernel⟩

abbrev stree_in : Stmt := topS 20
theorem sctree_in : FnScope ["text", "at", "opened", "last", "behind", "end", "node"] ["text"] (defScope stree_in) := ⟨rfl, rfl, rfl, by decide +kernel, rfl, by decide +kernel, by decide +kernel⟩

/-- where goes_on stands: the node nd is whole -/
structure Whole (z : Str) (a : Nat) (nd : Fra) (l : List Fra) : Prop where
  az : a ≤ z.length
  tx : (cd z).take a = pre l ++ cd nd.tree.text
  ok : TrOk nd.tree
  hi : nd.tree.high + l.length ≤ 31
  lu : nd.us.length = nd.ts.length
  ll : l.length ≤ 30
  st : OkSt l
  br : brk ((cd z).drop a) (cnt l) a = bad z
/-- where a node is awaited -/
structure Await (z : Str) (a : Nat) (l : List Fra) : Prop where
  az : a ≤ z.length
  tx : (cd z).take a = pre l
  ll : l.length ≤ 30
  st : OkSt l
  rn : run ((cd z).drop a) "" none false (cnt l) a = bad z
def cellsG (po : Addr) (nd : Fra) (l : List Fra) : List (Addr × HO) := (nd.na, .lst [.str nd.n, .int nd.o, .ref nd.pa]) :: (nd.pa, .lst nd.us) :: (po, opnd l) :: scells l
def cellsA (po : Addr) (l : List Fra) : List (Addr × HO) := (po, opnd l) :: scells l
def spGoes (K : PySem.W.Frag) (CB : Addr) : Sp := fun vs H Q E => ∃ (M A : List Addr) (z : Str) (a : Nat) (po : Addr) (nd : Fra) (l : List Fra), vs = [.str z, .int a, .ref po, .ref nd.na] ∧ z.length ≤ 2000 ∧ A = (cellsG po nd l).map (·.1) ∧ W K H A (A ++ M) H (cellsG po nd l) (sfacts (nd :: l)) ∧ Whole z a nd l ∧
  (∀ a' p l' H', a < a' → Await z a' l' → W K H A (A ++ M) H' ((p, .tup [.int (a' : Nat), .non]) :: cellsA po l') (sfacts l') → Q (.ref p) H') ∧
  (∀ (a' : Nat) p nd' H', Whole z a' nd' [] → W K H A (A ++ M) H' ((p, .tup [.int (a' : Nat), .ref nd'.na]) :: cellsG po nd' []) (sfacts [nd']) → Q (.ref p) H') ∧
  ∀ (k : Nat) d H', bad z = some k → H d = none → Ex A H H' → H' d = some (.xd [("at", .int k)]) → E (.ref CB) (some d) H'
theorem cnt_cons (f : Fra) (l : List Fra) : cnt (f :: l) = (1 + (f.ts.length : Int)) :: cnt l := rfl
theorem cnt_nil (l : List Fra) : cnt l = [] ↔ l = [] := by cases l <;> simp [cnt]
theorem op_last (f : Fra) (l : List Fra) : atI (((f :: l).map fun f => V.ref f.na).reverse) (-1) = some (.ref f.na) := by
  rw [List.map_cons, List.reverse_cons]
  unfold atI ixN
  simp
  rw [if_pos (by omega), show (-1 + ((l.length : Int) + 1)).toNat = l.length by omega]
  simp
def spTree (K : PySem.W.Frag) (CB : Addr) : Sp := fun vs H Q E => ∃ (M : List Addr) (z : Str), vs = [.str z] ∧ z.length ≤ 2000 ∧ Al M H ∧ (bad z = none → ∀ v t H', TrOk t → t.text = z → t.high ≤ 31 → Ex [] H H' → Rp K M H' v t.data → Q v H') ∧
  ∀ (k : Nat) d H', bad z = some k → H d = none → Ex [] H H' → H' d = some (.xd [("at", .int k)]) → E (.ref CB) (some d) H'
theorem take_more {l : List Nat} {a e : Nat} {m : List Nat} (h : l.drop a = m ++ l.drop e) (he : e = a + m.length) : l.take e = l.take a ++ m := by
  subst he
  have h1 := List.take_append_drop (a + m.length) l
  have h2 := List.take_append_drop a l
  rw [h, ← List.append_assoc] at h2
  have h3 : l.take (a + m.length) ++ l.drop (a + m.length) = (l.take a ++ m) ++ l.drop (a + m.length) := h1.trans h2.symm
  exact List.append_cancel_right h3
theorem cut_back (z : Str) (i : Nat) : cutS z (some ((i : Int) + 1)) (some (i : Int)) = Str.ofString "" := by
  have e : ((i : Int) + 1) = ((i + 1 : Nat) : Int) := by omega
  unfold cutS
  rw [e, HT.sIx_nat, HT.sIx_nat, show min i z.length - min (i + 1) z.length = 0 by omega, List.take_zero]
  rfl
theorem pcs_snoc (us : List Tr) (t : Tr) : pcs (us ++ [t]) = pcs us ++ cd t.text ++ [44] := by simp [pcs]
section
variable {P : Program} {w : World} {K : PySem.W.Frag} {mg : Str → Option Value} {base : Heap} {f : Addr} {fd : FuncData} {k : Nat} {kws : List (Str × V)}
section
variable {CB fI : Addr} {fdI : FuncData} (TBadText : Own K CB "ValueError.__new__" veT) (iBadText : PySem.W.findIn K (.ref CB) "__init__" = some (some (.ref fI))) (tBadText : PySem.W.typeIn K (.ref fI) = some (.type "function"))
  (FiBadText : FnOk P w K mg base CX0 1 fI fdI ["self", "at"] (spInit1 CB "at")) (bBadText : Binds K fdI ["self", "at"] []) (gBadText : mg "BadText" = some (.ref CB)) (C : Con mg) (B : BltS mg) (Gclosed : Fq P w K mg base CX0 1 "closed" ["node"] (spClosed K))
include TBadText iBadText tBadText FiBadText bBadText gBadText C B Gclosed
theorem ok_goes (F : FunD K "goes_on" "goes_on" (defArgs sgoes_on) (defBody sgoes_on) (defScope sgoes_on) [] kws f fd) : FnG P w K mg base (L2.CX P w) 3 f fd ["text", "at", "opened", "node"] (spGoes K CB) := by
  refine okGX F scgoes_on (fun vs H Q E h => ?_) (fun cdv A outer s H0 vs Q E hG hr h => ?_)
  · obtain ⟨M, A, z, a, po, nd, l, rfl, _⟩ := h
    rfl
  obtain ⟨M, As, z, a, po, nd, l, rfl, hz, hA, hw, hwh, q1, q2, qE⟩ := h
  refine ⟨_, [some (.str z), some (.int a), some (.ref po), some (.ref nd.na), none], (pss_cons (ps_while PassesOwn.leaving (pt_cmpR (op_gt) (pe_callB (call_lenU (K := K)) (by rfl) B.len (by decide +kernel) (pa_cons (pv 2) pa_nil)) pe_int (nomark _)) (pss_cons (ps_set (i := 4) scgoes_on.nd rfl (Or.inl rfl) (pe_slice (sl_U (K := K)) (pv 0) (po_some (pv 1)) (po_some (pe_op (op_addU (K := K)) (pv 1) pe_int))))
  (pss_cons (ps_expr (Fw.pe_m1 (K := K) PySem.F.plainAttrs_list PySem.F.slot_list_append PySem.F.type_list_append mt_append (pe_ix (ix_U (K := K)) (pe_ix (ix_U (K := K)) (pv 2) (pe_un un_neg pe_int) (fun _ _ => rfl)) pe_int (fun _ _ => rfl)) (pa_cons (pe_fq hG Gclosed hr (by first | decide | omega) (by rfl) pass0 (pa_cons (pv 3) pa_nil)) pa_nil)))
  (pss_cons (ps_if (PW.pt (pw_and (pt_cmpR (op_eqU (K := K) hr) (pv 4) pe_str (nomark _)) (pw_and1 (pt_cmpR (op_lt) (pe_callB (call_lenU (K := K)) (by rfl) B.len (by decide +kernel) (pa_cons (pe_ix (ix_U (K := K)) (pe_ix (ix_U (K := K)) (pv 2) (pe_un un_neg pe_int) (fun _ _ => rfl)) pe_int (fun _ _ => rfl)) pa_nil)) (pe_gI (by rfl) C.MOST_PARTS) (nomark _))))) (pss_one (ps_ret (pe_tup (pa_cons (pe_op (op_addU (K := K)) (pv 1) pe_int) (pa_cons pe_non pa_nil))))) pss_nil)
  (pss_cons (ps_if (pt_cmpR (op_neU (K := K) hr) (pv 4) pe_str (nomark _)) (pss_one (ps_raise rfl takesE (pmk_own bs_ValueError TBadText iBadText tBadText FiBadText hr (by decide) bBadText pass0 (by rfl) gBadText (pa_cons (pv 1) pa_nil)))) pss_nil)
  (pss_cons (ps_set (i := 3) scgoes_on.nd rfl (Or.inl rfl) (Fw.pe_m0 (K := K) PySem.F.plainAttrs_list PySem.F.slot_list_pop PySem.F.type_list_pop mt_pop (pv 2)))
  (pss_one (ps_aug (i := 1) scgoes_on.nd rfl (Or.inl rfl) pe_int ip_add))))))))
  (pss_one (ps_ret (pe_tup (pa_cons (pv 1) (pa_cons (pv 3) pa_nil)))))), rfl, ?_⟩
  refine x_seq (w_while (fun m σ H => ∃ (l : List Fra) (nd : Fra) (a' : Nat) (y4 : Option V), m = l.length ∧ a ≤ a' ∧ σ = [some (.str z), some (.int a'), some (.ref po), some (.ref nd.na), y4] ∧ Whole z a' nd l ∧ W K H0 As (As ++ M) H (cellsG po nd l) (sfacts (nd :: l))) l.length ⟨l, nd, a, none, rfl, Nat.le_refl _, rfl, hwh, hw⟩ ?_)
  clear hwh hw
  rintro m σ H ⟨l, nd, a', y4, rfl, haa, rfl, hwh, hw⟩
  cases l with
  | nil =>
    walk_at "sx"
    exact q2 a' _ nd _ hwh hw
  | cons g l =>
    walk_at "sx"
    refine x_ifP (by simp) (x_whB ?_)
    walk_at "sx"
    refine x_slX (by omega) ?_
    rw [cut_sign z a' hwh.az]
    walk_at "sx"
    refine x_ixL (v := .ref g.na) (SqL.of (hw.at 2 rfl)) (op_last g l) ?_
    walk_at "sx"
    refine ⟨_, nd.na, nd.pa, nd.n, nd.o, nd.us, nd.ts, rfl, hw.alloc', hw.at 0 rfl, hw.at 1 rfl, hw.all 0 rfl, fun p H e hd => ?_⟩
    replace hw := (hw.pure e).add hd
    have hok := hwh.st.1
    have hgl := hok.l1
    have hgu := hok.lu
    have hzz : g.us.length < sizeLine := sz_lt (by omega)
    walk_at "sx"
    obtain ⟨g', hg'⟩ : ∃ g' : Fra, g' = ⟨g.na, g.pa, g.n, g.o, g.us ++ [.ref p], g.ts ++ [nd.tree]⟩ := ⟨_, rfl⟩
    refine w_append (n := 4) hw rfl hzz fun H hw => ?_
    replace hw : W K H0 As (As ++ M) H (cellsG po nd (g' :: l)) (sfacts (nd :: g' :: l)) := by
      subst hg'
      refine (hw.addA (vs := g.us ++ [.ref p]) (ds := datas (g.ts ++ [nd.tree])) ?_).sub fun r hr => ?_
      · rw [datas_append]
        exact (hw.all 2 rfl).append (.cons (hw.rp 0 rfl) .nil)
      · rcases List.mem_cons.mp hr with rfl | hr
        · exact List.mem_cons_of_mem _ (List.mem_cons_of_mem _ (List.mem_cons_self ..))
        · rcases List.mem_cons.mp hr with rfl | hr
          · exact List.mem_cons_self ..
          · exact List.mem_cons_of_mem _ (List.mem_cons_of_mem _ (List.mem_cons_of_mem _ (List.mem_cons_of_mem _ hr)))
    have hna : g'.na = g.na := by rw [hg']
    have hpa : g'.pa = g.pa := by rw [hg']
    have hlu : g'.us.length = g.ts.length + 1 := by rw [hg']; simp [hgu]
    have hap := op_last g' l
    have hOk : g.ts.length ≤ 0 → OkF l.length g' := fun h0 => by
      rw [hg']
      refine ⟨hok.nm, hok.o0, hok.o6, hok.ts.append (.cons hwh.ok .nil), by show (g.ts ++ [nd.tree]).length ≤ 1; rw [List.length_append]; show _ + 1 ≤ 1; omega, ?_, by simp [hgu]⟩
      show highs (g.ts ++ [nd.tree]) + _ ≤ _
      rw [highs_append]
      have h1 := hok.hi
      have h2 := hwh.hi
      simp only [highs, List.length_cons] at h2 ⊢
      omega
    have raise : ∀ (k : Nat), bad z = some k → ∀ d, H d = none → E (.ref CB) (some d) (upd H d (.xd [("at", .int k)])) := fun k hb d hd =>
      qE k d _ hb (hw.fresh2 hd fun x hx => List.mem_append_left _ hx) (hw.ex.trans (Ex.new hd)) upd_same
    have hbr := hwh.br
    rcases Nat.lt_or_ge a' z.length with hlt | hge
    · have hl : a' < (cd z).length := by rw [cd_len]; exact hlt
      have e0 : signAt z a' = sg (cd z)[a'] := by unfold signAt; rw [List.getElem?_eq_getElem hl]
      have ht1 : (cd z).take (a' + 1) = pre (g :: l) ++ cd nd.tree.text ++ [(cd z)[a']] := by rw [take_snoc hl, hwh.tx]
      rw [drop_cons hl] at hbr
      rw [e0]
      generalize (cd z)[a'] = c at hbr ht1
      rw [brk, cnt_cons] at hbr
      walk_at "sx"
      rw [lits.2.2.1, dC]
      refine x_ifd (fun c1 => ?_) (fun c1 => ?_)
      · subst c1
        walk_at "sx"
        rw [hlu]
        refine x_ifd (fun c2 => ?_) (fun c2 => ?_)
        · have hg0 : g.ts = [] := List.eq_nil_of_length_eq_zero (by omega)
          have hu0 : g.us = [] := List.eq_nil_of_length_eq_zero (by rw [hgu, hg0]; rfl)
          rw [if_pos (by rw [hg0]; rfl)] at hbr
          walk_at "sx"
          refine q1 (a' + 1) _ (g' :: l) _ (by omega) ⟨hlt, ?_, hwh.ll, ⟨hOk (by rw [hg0]; decide), hwh.st.2⟩, ?_⟩ (hw.rotL.drop1.drop1.sub fun r hr => List.mem_cons_of_mem _ hr)
          · rw [ht1, hg']
            simp only [pre]
            rw [pcs_snoc]
            simp
          · rw [← hbr, hg', cnt_cons, hg0]
            rfl
        · rw [if_neg (by simp; omega), if_neg (by simp)] at hbr
          walk_at "sx"
          exact x_mk1 (raise a' hbr.symm)
      · rw [if_neg (by simp [c1])] at hbr
        walk_at "sx"
        rw [lits.2.2.2, dC]
        refine x_ifn (fun c2 => ?_) (fun c2 => ?_)
        · rw [if_neg (by simp [c2])] at hbr
          walk_at "sx"
          exact x_mk1 (raise a' hbr.symm)
        · subst c2
          rw [if_pos (by simp)] at hbr
          walk_at "sx"
          refine w_popL hw 2 rfl (y := .ref g'.na) (by simp [opnd]) fun H hw => ?_
          walk_at "sx"
          refine ⟨l.length, by simp, l, g', a' + 1, _, rfl, by omega, rfl, ⟨hlt, ?_, ?_, ?_, ?_, ?_, hwh.st.2, ?_⟩, ?_⟩
          · rw [ht1, hg']
            simp only [Fra.tree, pre]
            rw [text_snoc]
            simp [Fra.tree]
          · rw [hg']
            exact .mk hok.nm hok.o0 hok.o6 (by simp; omega) (hok.ts.append (.cons hwh.ok .nil))
          · rw [hg']
            simp only [Fra.tree, Tr.high]
            rw [highs_append]
            have h1 := hok.hi
            have h2 := hwh.hi
            simp only [Fra.tree, List.length_cons, highs] at h2 ⊢
            omega
          · rw [hg']
            simp [hgu]
          · have := hwh.ll
            simp at this
            omega
          · rw [← hbr, run_ended]
            rfl
          · have hw2 : W K H0 As (As ++ M) H ((nd.na, .lst [.str nd.n, .int nd.o, .ref nd.pa]) :: (nd.pa, .lst nd.us) :: (po, opnd l) :: (g'.na, .lst [.str g'.n, .int g'.o, .ref g'.pa]) :: (g'.pa, .lst g'.us) :: scells l) (sfacts (nd :: g' :: l)) := by
              have e9 : HO.lst (((g' :: l).map fun f => V.ref f.na).reverse.dropLast) = opnd l := by simp [opnd]
              rw [← e9]
              exact hw
            exact (hw2.drop1.drop1.rotL).sub fun r hr => List.mem_cons_of_mem _ hr
    · have e0 : signAt z a' = Str.ofString "" := by
        unfold signAt
        rw [List.getElem?_eq_none (by rw [cd_len]; exact hge)]
        rfl
      rw [e0]
      rw [List.drop_eq_nil_of_le (by rw [cd_len]; exact hge), brk, if_neg (by simp [cnt])] at hbr
      walk_at "sx"
      exact x_mk1 (raise a' hbr.symm)
theorem ok_tree (F : FunD K "tree_in" "tree_in" (defArgs stree_in) (defBody stree_in) (defScope stree_in) [] kws f fd) (Gname_at : Fq P w K mg base (L2.CX P w) 3 "name_at" ["text", "at"] (spName CB)) (Gown_at : Fq P w K mg base (L2.CX P w) 3 "own_at" ["text", "at"] (spOwn CB)) (Ggoes_on : Fq P w K mg base (L2.CX P w) 3 "goes_on" ["text", "at", "opened", "node"] (spGoes K CB)) :
    FnG P w K mg base (L2.CX P w) 4 f fd ["text"] (spTree K CB) := by
  refine okGX F sctree_in (fun vs H Q E h => ?_) (fun cdv A outer s H0 vs Q E hG hr h => ?_)
  · obtain ⟨M, z, rfl, _⟩ := h
    rfl
  obtain ⟨M, z, rfl, hz, hM, q, qE⟩ := h
  have hw : W K H0 [] M H0 [] [] := W.start0 hM (fun _ z => nomatch z)
  refine ⟨_, [some (.str z), none, none, none, none, none, none], (pss_cons (ps_par3 (i := 1) (j := 2) (l := 3) rfl sctree_in.nd rfl rfl rfl (by decide) (by decide) (by decide) rfl rfl rfl (pa_cons pe_int (pa_cons (pe_lst pa_nil) (pa_cons pe_non pa_nil))) (by rfl))
  (pss_cons (ps_while PassesOwn.leaving (pt_cmpR (op_isU) (pv 3) pe_non (nomark _)) (pss_cons (ps_set (i := 4) sctree_in.nd rfl (Or.inl rfl) (pe_fqS hG takesE Gname_at hr (by first | decide | omega) (by rfl) (pa_cons (pv 0) (pa_cons (pv 1) pa_nil))))
  (pss_cons (ps_set (i := 5) sctree_in.nd rfl (Or.inl rfl) (pe_fqS hG takesE Gown_at hr (by first | decide | omega) (by rfl) (pa_cons (pv 0) (pa_cons (pv 4) pa_nil))))
  (pss_cons (ps_set (i := 6) sctree_in.nd rfl (Or.inl rfl) (pe_lst (pa_cons (pe_slice (sl_U (K := K)) (pv 0) (po_some (pv 1)) (po_some (pv 4))) (pa_cons (pe_callTy call_int_str (by rfl) B.int' (by decide +kernel) (pa_cons (pe_orK (K := K) (pe_slice (sl_U (K := K)) (pv 0) (po_some (pe_op (op_addU (K := K)) (pv 4) pe_int)) (po_some (pv 5))) (pe_one pe_str)) pa_nil)) (pa_cons (pe_lst pa_nil) pa_nil)))))
  (pss_cons (ps_set (i := 1) sctree_in.nd rfl (Or.inl rfl) (pv 5))
  (pss_one (ps_if (PW.pt (pw_and (pt_cmpR (op_eqU (K := K) hr) (pe_slice (sl_U (K := K)) (pv 0) (po_some (pv 1)) (po_some (pe_op (op_addU (K := K)) (pv 1) pe_int))) pe_str (nomark _)) (pw_and1 (pt_cmpR (op_lt) (pe_callB (call_lenU (K := K)) (by rfl) B.len (by decide +kernel) (pa_cons (pv 2) pa_nil)) (pe_gI (by rfl) C.MOST_DEEP) (nomark _))))) (pss_cons (ps_expr (Fw.pe_m1 (K := K) PySem.F.plainAttrs_list PySem.F.slot_list_append PySem.F.type_list_append mt_append (pv 2) (pa_cons (pv 6) pa_nil)))
  (pss_one (ps_aug (i := 1) sctree_in.nd rfl (Or.inl rfl) pe_int ip_add))) (pss_one (ps_asg (pe_fqS hG takesE Ggoes_on hr (by first | decide | omega) (by rfl) (pa_cons (pv 0) (pa_cons (pv 1) (pa_cons (pv 2) (pa_cons (pv 6) pa_nil))))) (pg_T (K := K) (n := 2) rfl (pgs_cons (pg_name (i := 1) sctree_in.nd rfl (Or.inl rfl)) (pgs_cons (pg_name (i := 3) sctree_in.nd rfl (Or.inl rfl)) pgs_nil))))))))))))
  (pss_cons (ps_if (pt_cmpR (op_lt) (pv 1) (pe_callB (call_lenU (K := K)) (by rfl) B.len (by decide +kernel) (pa_cons (pv 0) pa_nil)) (nomark _)) (pss_one (ps_raise rfl takesE (pmk_own bs_ValueError TBadText iBadText tBadText FiBadText hr (by decide) bBadText pass0 (by rfl) gBadText (pa_cons (pv 1) pa_nil)))) pss_nil)
  (pss_one (ps_ret (pe_fq hG Gclosed hr (by first | decide | omega) (by rfl) pass0 (pa_cons (pv 3) pa_nil))))))), rfl, ?_⟩
  walk_at "sx"
  rename Addr => po
  refine x_seq (w_while (fun m σ H => ∃ (a : Nat) (y4 y5 y6 : Option V), (m = z.length - a + 1 ∧ ∃ l, σ = [some (.str z), some (.int a), some (.ref po), some .non, y4, y5, y6] ∧ Await z a l ∧ W K H0 [] M H (cellsA po l) (sfacts l)) ∨
    (m = 0 ∧ ∃ nd : Fra, σ = [some (.str z), some (.int a), some (.ref po), some (.ref nd.na), y4, y5, y6] ∧ Whole z a nd [] ∧ W K H0 [] M H (cellsG po nd []) (sfacts [nd]))) (z.length + 1) ⟨0, none, none, none, .inl ⟨rfl, [], rfl, ⟨by omega, rfl, by simp, trivial, rfl⟩, hw⟩⟩ ?_)
  clear hw
  rintro m σ H ⟨a, y4, y5, y6, ⟨rfl, l, rfl, haw, hw⟩ | ⟨rfl, nd, rfl, hwh, hw⟩⟩
  · walk_at "sx"
    refine x_whB ?_
    walk_at "sx"
    refine ⟨z, a, cnt l, bad z, rfl, haw.az, hz, haw.rn, fun k nm hnm hkz hok hkl hst hrun => ?_, fun k d H' hb hd e hx => qE k d H' hb (hw.fresh hd (fun z => nomatch z)) (hw.ex.trans e) hx⟩
    walk_at "sx"
    refine ⟨z, nm, a + k, cnt l, bad z, rfl, hkz, hz, hok, hst, hrun, fun en fig h1 h2 hfig hrun => ?_, fun k d H' hb hd e hx => qE k d H' hb (hw.fresh hd (fun z => nomatch z)) (hw.ex.trans e) hx⟩
    walk_at "sx"
    refine x_slX (by omega) ?_
    have hcut : cutS z (some (a : Int)) (some ((a + k : Nat) : Int)) = nm := str_ext (by
      show cd _ = _
      rw [cd_cut z a (a + k) haw.az hkz, Nat.add_sub_cancel_left, hnm])
    rw [hcut]
    have hname : (cd z).drop a = cd nm ++ (cd z).drop (a + k) := by
      rw [hnm]
      exact drop_split _ _ _
    have hfigT : (cd z).drop (a + k) = figT fig ++ (cd z).drop en ∧ en = a + k + (figT fig).length := by
      rcases hfig with ⟨rfl, rfl, _⟩ | ⟨l', rfl, he, hdr, _⟩
      · exact ⟨rfl, rfl⟩
      · refine ⟨by rw [hdr]; simp [figT], by rw [he]; simp [figT]; omega⟩
    have hnl : (cd nm).length = k := by rw [cd_len]; exact hkl
    have htake : (cd z).take en = pre l ++ cd nm ++ figT fig := by
      rw [take_more (m := cd nm ++ figT fig) (a := a) (by rw [List.append_assoc, ← hfigT.1]; exact hname) (by rw [List.length_append, hnl, hfigT.2]; omega), haw.tx, List.append_assoc]
    refine x_cons (x_via (C := fun Q' => ∀ o : Int, 0 ≤ o → o < 1000000 → ((fig = none ∧ o = 0) ∨ ∃ l, fig = some (st l) ∧ 0 < o ∧ cd (Str.ofString (toString o)) = l) → Q' (.int o) H) ?_ ?_)
    · intro Q' kk
      walk_at "sx"
      refine x_slX (by omega) ?_
      rcases hfig with ⟨rfl, rfl, _⟩ | ⟨l', rfl, he, hdr, hD, hl1, hl6, hh, hsd⟩
      · have e0 : cutS z (some (((a + k : Nat) : Int) + 1)) (some ((a + k : Nat) : Int)) = Str.ofString "" := cut_back z (a + k)
        rw [e0]
        refine x_truS (by decide) ?_
        walk_at "sx"
        refine ⟨_, 0, rfl, by decide +kernel, by decide, ?_⟩
        exact kk 0 (by decide) (by decide) (.inl ⟨rfl, rfl⟩)
      · have e0 : cutS z (some (((a + k : Nat) : Int) + 1)) (some (en : Int)) = st l' := str_ext (by
          show cd _ = _
          have e1 : ((a + k : Nat) : Int) + 1 = ((a + k + 1 : Nat) : Int) := by omega
          rw [e1, cd_cut z (a + k + 1) en (by omega) h2, he, Nat.add_sub_cancel_left]
          have e2 : (cd z).drop (a + k + 1) = l' ++ (cd z).drop en := by
            rw [← List.drop_drop, hdr]
            rfl
          rw [e2, List.take_left']
          rfl)
        rw [e0]
        obtain ⟨o, ho1, ho2, ho3, ho4⟩ := dig_text hD hl1 hl6 hh
        refine x_truS (by show l'.length ≤ _; omega) ?_
        rw [show decide ((st l').length ≠ 0) = true from decide_eq_true (by show l'.length ≠ 0; omega)]
        walk_at "sx"
        refine ⟨_, o, rfl, ho1, by show l'.length ≤ _; omega, ?_⟩
        exact kk o (by omega) ho3 (.inr ⟨l', rfl, ho2, ho4⟩)
    intro o ho0 ho6 hof
    have hhead : cd (headT nm o) = cd nm ++ figT fig := head_fig hof
    walk_at "sx"
    rename_i pp _ _ _
    obtain ⟨nd, hnd⟩ : ∃ nd : Fra, nd = ⟨p, pp, nm, o, [], []⟩ := ⟨_, rfl⟩
    have hna : nd.na = p := by rw [hnd]
    replace hw : W K H0 [] M H (cellsG po nd l) (sfacts (nd :: l)) := by
      subst hnd
      exact hw.addA (by simp only [datas]; exact .nil)
    have hnw : noWord nm false = false := by
      unfold noWord
      rw [decide_eq_false hok.no, decide_eq_false (fun e => by have := hok.l1; rw [e] at this; exact absurd this (by decide))]
      rfl
    obtain ⟨rw1, rw2⟩ := run_whole (w := nm) (fig := fig) (T := (cd z).drop en) hnw (by
        rcases hfig with ⟨rfl, _⟩ | ⟨l', rfl, _, _, _, hl1, _⟩
        · exact fun z => nomatch z
        · intro e
          have e1 := congrArg Str.length (Option.some.inj e)
          have e2 : l'.length = 0 := e1
          omega) (fun e => by
        rcases hfig with ⟨_, rfl, hno⟩ | ⟨l', e2, _⟩
        · exact ⟨hst, hno⟩
        · rw [e] at e2; cases e2) (fun f e => by
        rcases hfig with ⟨e2, _⟩ | ⟨l', e2, _, _, _, _, _, _, hsd⟩
        · rw [e2] at e; cases e
        · rw [e2] at e; cases e; exact hsd) (cnt l) en
    have hcl : (cnt l).length = l.length := by simp [cnt]
    rw [hcl] at rw1 rw2
    have hwhole : ((∀ r, (cd z).drop en = 40 :: r → ¬ l.length < 30)) → Whole z en nd l := fun hno => by
      rw [hnd]
      refine ⟨h2, ?_, .mk hok ho0 ho6 (by simp) .nil, ?_, rfl, haw.ll, haw.st, by rw [← rw2 hno]; exact hrun⟩
      · rw [htake]
        simp only [Fra.tree]
        rw [text_none, hhead, List.append_assoc]
      · simp only [Fra.tree, Tr.high, highs]
        have := haw.ll
        omega
    have goes : ((∀ r, (cd z).drop en = 40 :: r → ¬ l.length < 30)) → ∀ {Q : VK} {E' : XK}, (∀ c d H, E' c d H = E c d H) → (∀ (a' : Nat) p l' H', en < a' → Await z a' l' → W K H0 [] M H' ((p, .tup [.int (a' : Nat), .non]) :: cellsA po l') (sfacts l') → Q (.ref p) H') →
        (∀ (a' : Nat) p nd' H', Whole z a' nd' [] → W K H0 [] M H' ((p, .tup [.int (a' : Nat), .ref nd'.na]) :: cellsG po nd' []) (sfacts [nd']) → Q (.ref p) H') → spGoes K CB [.str z, .int en, .ref po, .ref p] H Q E' := fun hno {Q E'} hE k1 k2 => by
      refine ⟨M, _, z, en, po, nd, l, by rw [hna], hz, rfl, hw.handM, hwhole hno, fun a' p l' H' h3 h4 h5 => k1 a' p l' H' h3 h4 ?_, fun a' p nd' H' h3 h4 => k2 a' p nd' H' h3 ?_, fun k d H' hb hd e hx => ?_⟩
      · exact (hw.backM h5).sub fun r hr => List.mem_append_left _ hr
      · exact (hw.backM h4).sub fun r hr => List.mem_append_left _ hr
      · rw [hE]
        exact qE k d H' hb (hw.fresh hd (fun z => nomatch z)) (hw.exBack e) hx
    refine x_slX (by omega) ?_
    rw [cut_sign z en h2]
    have hkk := hok.l1
    by_cases hpush : (∃ r, (cd z).drop en = 40 :: r) ∧ l.length < 30
    · obtain ⟨⟨r, hr40⟩, hl30⟩ := hpush
      have hlt : en < z.length := by
        rcases Nat.lt_or_ge en z.length with h | h
        · exact h
        · rw [List.drop_eq_nil_of_le (by rw [cd_len]; exact h)] at hr40
          cases hr40
      have hl : en < (cd z).length := by rw [cd_len]; exact hlt
      have hc40 : (cd z)[en] = 40 := by
        rw [drop_cons hl] at hr40
        exact (List.cons.inj hr40).1
      have e0 : signAt z en = sg 40 := by unfold signAt; rw [List.getElem?_eq_getElem hl, hc40]
      rw [e0]
      have hzz : (l.map fun f => V.ref f.na).reverse.length < sizeLine := sz_lt (by simp; omega)
      walk_at "sx"
      refine x_ifP (by simp; omega) ?_
      walk_at "sx"
      refine ⟨z.length - (en + 1) + 1, by omega, en + 1, _, _, _, .inl ⟨rfl, nd :: l, rfl, ⟨hlt, ?_, by simp; omega, ⟨?_, haw.st⟩, ?_⟩, ?_⟩⟩
      · rw [take_snoc hl, hc40, htake, hnd]
        simp only [pre]
        rw [hhead]
        simp [pcs]
      · rw [hnd]
        exact ⟨hok, ho0, ho6, .nil, by simp, by simp [highs]; omega, rfl⟩
      · rw [← hrun, rw1 _ (by rw [drop_cons hl, hc40]) hl30, cnt_cons, hnd]
        rfl
      · have hw2 : W K H0 [] M H ((nd.na, .lst [.str nd.n, .int nd.o, .ref nd.pa]) :: (nd.pa, .lst nd.us) :: (po, opnd (nd :: l)) :: scells l) (sfacts (nd :: l)) := by
          have e9 : opnd (nd :: l) = HO.lst ((l.map fun f => V.ref f.na).reverse ++ [V.ref p]) := by simp [opnd, hna]
          rw [e9]
          exact hw
        exact hw2.rotR
    · have hno : ∀ r, (cd z).drop en = 40 :: r → ¬ l.length < 30 := fun r e hl => hpush ⟨⟨r, e⟩, hl⟩
      walk_at "sx"
      refine x_ifd (fun c1 => ?_) (fun c1 => ?_)
      · have hlt : en < z.length := by
          rcases Nat.lt_or_ge en z.length with h | h
          · exact h
          · unfold signAt at c1
            rw [List.getElem?_eq_none (by rw [cd_len]; exact h)] at c1
            exact absurd (congrArg Str.length c1) (by decide)
        have hl : en < (cd z).length := by rw [cd_len]; exact hlt
        have hc40 : (cd z)[en] = 40 := by
          unfold signAt at c1
          rw [List.getElem?_eq_getElem hl, lits.2.1] at c1
          exact sg_eq.mp c1
        have hl30 := hno _ (by rw [drop_cons hl, hc40])
        walk_at "sx"
        refine x_ifN (by simp; omega) ?_
        walk_at "sx"
        refine goes hno (fun _ _ _ => rfl) (fun a' p l' H h3 h4 hw => ?_) (fun a' p nd' H h3 hw => ?_)
        · walk_at "sx"
          exact ⟨z.length - a' + 1, by omega, a', _, _, _, .inl ⟨rfl, l', rfl, h4, hw.drop1⟩⟩
        · walk_at "sx"
          exact ⟨0, by omega, a', _, _, _, .inr ⟨rfl, nd', rfl, h3, hw.drop1⟩⟩
      · walk_at "sx"
        refine goes hno (fun _ _ _ => rfl) (fun a' p l' H h3 h4 hw => ?_) (fun a' p nd' H h3 hw => ?_)
        · walk_at "sx"
          exact ⟨z.length - a' + 1, by omega, a', _, _, _, .inl ⟨rfl, l', rfl, h4, hw.drop1⟩⟩
        · walk_at "sx"
          exact ⟨0, by omega, a', _, _, _, .inr ⟨rfl, nd', rfl, h3, hw.drop1⟩⟩
  · walk_at "sxp"
    have hbr := hwh.br
    refine x_ifd (fun c1 => ?_) (fun c1 => ?_)
    · have hl : a < (cd z).length := by rw [cd_len]; omega
      rw [drop_cons hl, brk, if_neg (by simp [cnt]), if_neg (by simp [cnt])] at hbr
      walk_at "sx"
      exact x_mk1 fun d hd => qE a d _ hbr.symm (hw.fresh hd (fun z => nomatch z)) (hw.ex.trans (Ex.new hd)) upd_same
    · have hal : a = z.length := by have := hwh.az; omega
      rw [List.drop_eq_nil_of_le (by rw [cd_len]; omega), brk, if_pos (by simp [cnt])] at hbr
      walk_at "sx"
      refine ⟨_, nd.na, nd.pa, nd.n, nd.o, nd.us, nd.ts, rfl, hw.alloc', hw.at 0 rfl, hw.at 1 rfl, hw.all 0 rfl, fun p H e hd => ?_⟩
      refine q hbr.symm _ nd.tree _ hwh.ok (str_ext ?_) (by have := hwh.hi; simpa using this) (hw.ex.trans e) (hd.less fun x hx => List.mem_append_right _ hx)
      have := hwh.tx
      rw [hal, List.take_of_length_le (by rw [cd_len]; exact Nat.le_refl _)] at this
      rw [show z.cps.toList = cd z from rfl, this]
      rfl
end
end
end Law
namespace Law
open PySem PySem.Spec PyProof.Rows L2 Fw
structure BltX (mg : Str → Option Value) : Prop extends BltS mg where
  isinstance : mg "isinstance" = none
  bool : mg "bool" = none
  ValueError : mg "ValueError" = none
  max : mg "max" = none
  all : mg "all" = none
abbrev s_law_told : Stmt := topS 33
theorem sc_law_told : FnScope ["_law_text", "_law_caught", "_law_found", "error", "_law_others", "_law_plain"] ["_law_text"] (defScope s_law_told) := ⟨rfl, rfl, rfl, by decide +kernel, rfl, by decide +kernel, by decide +kernel⟩

abbrev s_law_bent : Stmt := topS 32
theorem sc_law_bent : FnScope ["_law_box", "_law_text", "_law_signs", "_law_way", "_law_sign", "_law_at", "_law_some"] ["_law_box", "_law_text"] (defScope s_law_bent) := ⟨rfl, rfl, rfl, by decide +kernel, rfl, by decide +kernel, by decide +kernel⟩

mutual
theorem size_text : ∀ {t : Tr}, TrOk t → t.size ≤ t.text.length
  | .mk n o ps, h => by
    obtain ⟨h1, _, _, _, h5⟩ := h.parts
    have h2 := sizes_text h5
    have h3 := h1.l1
    simp only [Tr.text, Tr.size]
    rw [strLen_append, strLen_append]
    cases ps with
    | nil => simp only [sizes]; omega
    | cons t r =>
      have e : decide ((t :: r : List Tr) ≠ []) = true := rfl
      rw [e, if_pos rfl, mul1, strLen_append, strLen_append]
      have e2 := size_glued "," (texts (t :: r))
      have e3 : (Txt.join "," (texts (t :: r))).length = (Builtin.Str.glued (Str.ofString ",") (texts (t :: r))).length := rfl
      omega
theorem sizes_text : ∀ {ts : List Tr}, TrsOk ts → sizes ts ≤ ((texts ts).map (·.length)).sum
  | [], _ => by simp [sizes]
  | t :: r, h => by
    cases h with
    | cons a b =>
      have h1 := size_text a
      have h2 := sizes_text b
      simp only [texts, sizes, List.map_cons, List.sum_cons]
      omega
end
def toldV (z : Str) : V := match bad z with
  | none => .str z
  | some k => .int k
def spTold : Sp := fun vs H Q _ => ∃ z : Str, vs = [.str z] ∧ z.length ≤ 2000 ∧ ∀ H', Ex [] H H' → Q (toldV z) H'
def spBent : Sp := fun vs H Q _ => ∃ (b : Addr) (z : Str) (a s c : Int), vs = [.ref b, .str z] ∧ z.length ≤ 100000 ∧ H b = some (box a s c) ∧ Bx a s c ∧ c + 4 < 2 ^ 40 ∧
  ∀ (y : Str) a' c' H', y.length ≤ 3 * z.length + 20 → Bx a' s c' → c' ≤ c + 4 → Ex [b] H H' → H' b = some (box a' s c') → Q (.str y) H'
section
variable {P : Program} {w : World} {K : PySem.W.Frag} {mg : Str → Option Value} {base : Heap} {f : Addr} {fd : FuncData} {k : Nat} {kws : List (Str × V)}
theorem ok_told (F : FunD K "_law_told" "_law_told" (defArgs s_law_told) (defBody s_law_told) (defScope s_law_told) [] kws f fd) (B : BltX mg) {CB C1 C2 C3 C4 C5 C6 : Addr} (Gtree_in : Fq P w K mg base (L2.CX P w) 4 "tree_in" ["text"] (spTree K CB)) (G_law_spelled : Fq P w K mg base CX0 32 "_law_spelled" ["_law_tree"] (spSpelled K 31))
    (gBadText : mg "BadText" = some (.ref CB)) (gBadGrammar : mg "BadGrammar" = some (.ref C1)) (gBadRow : mg "BadRow" = some (.ref C2)) (gNoCap : mg "NoCap" = some (.ref C3)) (gNoGiven : mg "NoGiven" = some (.ref C4)) (gNotLet : mg "NotLet" = some (.ref C5)) (gNoTree : mg "NoTree" = some (.ref C6))
    (T : Own K CB "ValueError.__new__" veT) (n1 : PySem.W.findIn K (.ref CB) "at" = some none) (k1 : PySem.W.kitAny K (.ref CB) [.ref C1, .ref C2, .ref C3, .ref C4, .ref C5, .ref C6] = some false) (k2 : PySem.W.kitOne K (.ref CB) (.type "ValueError") = some true) (k3 : PySem.W.exmOne K (.ref CB) (.ref CB) = some true) :
    FnG P w K mg base CX0 33 f fd ["_law_text"] spTold := by
  refine okG F sc_law_told (fun vs H Q E h => ?_) (fun cdv A outer s H0 vs Q E hG hr h => ?_)
  · obtain ⟨z, rfl, _⟩ := h
    rfl
  obtain ⟨z, rfl, hz, q⟩ := h
  have hw : W K H0 [] [] H0 [] [] := W.start0 (fun _ z => nomatch z) (fun _ z => nomatch z)
  unfold toldV at q
  refine ⟨_, [some (.str z), none, none, none, none, none], (pss_cons (ps_asg (pe_tup (pa_cons pe_non (pa_cons pe_non pa_nil))) (pg_T (K := K) (n := 2) rfl (pgs_cons (pg_name (i := 1) sc_law_told.nd rfl (Or.inl rfl)) (pgs_cons (pg_name (i := 2) sc_law_told.nd rfl (Or.inl rfl)) pgs_nil))))
  (pss_cons (ps_try_keep (K := K) (i := 3) rfl rfl rfl rfl sc_law_told.nd rfl rfl ⟨by rfl, by decide, .inl gBadText⟩ takes0 (fun W pn xe tk po => (pss_one (ps_set (i := 2) sc_law_told.nd rfl (Or.inl rfl) (pe_fqS hG tk Gtree_in hr (by first | decide | omega) (by rfl) (pa_cons (pv 0) pa_nil))))) (fun a pn => (pss_one (ps_set (i := 1) sc_law_told.nd rfl (Or.inl rfl) (pv 3)))))
  (pss_cons (ps_if (pt_cmpR (op_isU) (pv 1) pe_non (nomark _)) (pss_one (ps_ret (pe_fq hG G_law_spelled hr (by first | decide | omega) (by rfl) pass0 (pa_cons (pv 2) pa_nil)))) pss_nil)
  (pss_cons (ps_set (i := 4) sc_law_told.nd rfl (Or.inl rfl) (pe_callB (call_isX (K := K)) (by rfl) B.isinstance (by decide +kernel) (pa_cons (pv 1) (pa_cons (pe_tup (pa_cons (pe_gR (by rfl) gBadGrammar) (pa_cons (pe_gR (by rfl) gBadRow) (pa_cons (pe_gR (by rfl) gNoCap) (pa_cons (pe_gR (by rfl) gNoGiven) (pa_cons (pe_gR (by rfl) gNotLet) (pa_cons (pe_gR (by rfl) gNoTree) pa_nil))))))) pa_nil))))
  (pss_cons (ps_set (i := 5) sc_law_told.nd rfl (Or.inl rfl) (pe_and (pe_callB (call_isX (K := K)) (by rfl) B.isinstance (by decide +kernel) (pa_cons (pv 1) (pa_cons (pe_bltn (v := .ty "ValueError") (by rfl) B.ValueError (by decide +kernel) rfl) pa_nil))) (pe_and (pe_not (pv 4)) (pe_one (pe_not (pe_callB (call_isiU (K := K)) (by rfl) B.isinstance (by decide +kernel) (pa_cons (pe_fldOf (K := K) (pv 1)) (pa_cons (pe_bltn (v := .ty "bool") (by rfl) B.bool (by decide +kernel) rfl) pa_nil))))))))
  (pss_one (ps_ret (pe_ifExp (pt_truth (pv 5) (by intro _; rfl)) (pe_fldOf (K := K) (pv 1)) pe_non)))))))), rfl, ?_⟩
  walk_at "sx"
  refine ⟨_, z, rfl, hz, hw.alloc', fun hb v t H ht htx hth e hd => ?_, fun k d H hb hd e hx => ⟨true, k3, fun _ b hbn => ?_, fun z => nomatch z⟩⟩
  · rw [hb] at q
    replace hw := (hw.pure e).add hd
    walk_at "sx"
    refine ⟨v, t, rfl, (hw.rp 0 rfl).dd, ht, hth, by have := size_text ht; rw [htx] at this; omega, fun H e => ?_⟩
    replace hw := hw.pure e
    walk_at "sx"
    rw [htx]
    exact q _ hw.ex
  · rw [hb] at q
    replace hw := hw.adopt e hd hx
    replace hw := hw.new hbn (exk b (.ref CB) (some d))
    walk_at "sx"
    refine x_isXT T (hw.at 1 rfl) (hw.at 2 rfl) (hw.at 0 rfl) (.cons (.own _) (.cons (.own _) (.cons (.own _) (.cons (.own _) (.cons (.own _) (.cons (.own _) .nil)))))) k1 ?_
    walk_at "sx"
    refine x_isX1 T (hw.at 1 rfl) (hw.at 2 rfl) k2 ?_
    walk_at "sx"
    refine ⟨b, CB, d, _, _, _, _, rfl, hw.at 1 rfl, hw.at 2 rfl, T, n1, rfl, ?_⟩
    walk_at "sx"
    refine ⟨b, CB, d, _, _, _, _, rfl, hw.at 1 rfl, hw.at 2 rfl, T, n1, rfl, ?_⟩
    walk_at "sx"
    exact q _ hw.ex
theorem ok_bent (F : FunD K "_law_bent" "_law_bent" (defArgs s_law_bent) (defBody s_law_bent) (defScope s_law_bent) [] kws f fd) (B : BltX mg) (G_law_take : Fq P w K mg base CX0 1 "_law_take" ["_law_box", "_law_many"] spTake) : FnG P w K mg base CX0 2 f fd ["_law_box", "_law_text"] spBent := by
  refine okG F sc_law_bent (fun vs H Q E h => ?_) (fun cdv A outer s H0 vs Q E hG hr h => ?_)
  · obtain ⟨b, z, a, s, c, rfl, _⟩ := h
    rfl
  obtain ⟨b, z, a, s, c, rfl, hz, hb, bx, hc, q⟩ := h
  have hw : W K H0 [b] [] H0 [(b, box a s c)] [] := W.start1 hb (fun _ z => nomatch z) (fun _ z => nomatch z)
  have l1 : (Str.ofString " !\"#$&'*+-./;<=>?@AZ[]^_`{|}~").length = 29 := by decide +kernel
  have l2 : (Str.ofString "abcwz").length = 5 := by decide +kernel
  have l3 : (Str.ofString "0159").length = 4 := by decide +kernel
  have l4 : (Str.ofString "(),:").length = 4 := by decide +kernel
  refine ⟨_, [some (.ref b), some (.str z), none, none, none, none, none], (pss_cons (ps_set (i := 2) sc_law_bent.nd rfl (Or.inl rfl) (pe_op (op_addU (K := K)) (pe_op (op_addU (K := K)) (pe_op (op_addU (K := K)) pe_str (pe_op op_mulS pe_str pe_int)) (pe_op op_mulS pe_str pe_int)) (pe_op op_mulS pe_str pe_int)))
  (pss_cons (ps_par (i := 3) (j := 4) rfl sc_law_bent.nd rfl rfl (by decide) rfl rfl (pa_cons (pe_fq hG G_law_take hr (by first | decide | omega) (by rfl) pass0 (pa_cons (pv 0) (pa_cons pe_int pa_nil))) (pa_cons (pe_ix (ix_U (K := K)) (pv 2) (pe_fq hG G_law_take hr (by first | decide | omega) (by rfl) pass0 (pa_cons (pv 0) (pa_cons (pe_callB (call_lenU (K := K)) (by rfl) B.len (by decide +kernel) (pa_cons (pv 2) pa_nil)) pa_nil))) (fun _ _ => rfl)) pa_nil)) (by rfl))
  (pss_cons (ps_set (i := 5) sc_law_bent.nd rfl (Or.inl rfl) (pe_ix (ix_U (K := K)) (pe_lst (pa_cons (pe_fq hG G_law_take hr (by first | decide | omega) (by rfl) pass0 (pa_cons (pv 0) (pa_cons (pe_op (op_addU (K := K)) (pe_callB (call_lenU (K := K)) (by rfl) B.len (by decide +kernel) (pa_cons (pv 1) pa_nil)) pe_int) pa_nil))) (pa_cons (pe_callB (call_maxU (K := K) rfl) (by rfl) B.max (by decide +kernel) (pa_cons pe_int (pa_cons (pe_op op_sub (pe_callB (call_lenU (K := K)) (by rfl) B.len (by decide +kernel) (pa_cons (pv 1) pa_nil)) pe_int) pa_nil))) pa_nil))) (pe_callTy call_intU (by rfl) B.int' (by decide +kernel) (pa_cons (pe_cmpR (op_eqU (K := K) hr) (pe_fq hG G_law_take hr (by first | decide | omega) (by rfl) pass0 (pa_cons (pv 0) (pa_cons pe_int pa_nil))) pe_int (nomark _)) pa_nil)) (fun _ _ => rfl)))
  (pss_cons (ps_set (i := 6) sc_law_bent.nd rfl (Or.inl rfl) (pe_lst (pa_cons (pe_op (op_addU (K := K)) (pe_op (op_addU (K := K)) (pe_slice (sl_U (K := K)) (pv 1) po_none (po_some (pv 5))) (pv 4)) (pe_slice (sl_U (K := K)) (pv 1) (po_some (pv 5)) po_none)) (pa_cons (pe_op (op_addU (K := K)) (pe_slice (sl_U (K := K)) (pv 1) po_none (po_some (pv 5))) (pe_slice (sl_U (K := K)) (pv 1) (po_some (pe_op (op_addU (K := K)) (pv 5) pe_int)) po_none)) (pa_cons (pe_op (op_addU (K := K)) (pe_op (op_addU (K := K)) (pe_slice (sl_U (K := K)) (pv 1) po_none (po_some (pv 5))) (pv 4)) (pe_slice (sl_U (K := K)) (pv 1) (po_some (pe_op (op_addU (K := K)) (pv 5) pe_int)) po_none)) (pa_cons (pe_slice (sl_U (K := K)) (pv 1) po_none (po_some (pv 5))) pa_nil))))))
  (pss_cons (ps_set (i := 6) sc_law_bent.nd rfl (Or.inl rfl) (pe_op (op_addU (K := K)) (pv 6) (pe_lst (pa_cons (pe_op (op_addU (K := K)) (pe_op (op_addU (K := K)) (pe_slice (sl_U (K := K)) (pv 1) po_none (po_some (pv 5))) (pe_slice (sl_U (K := K)) (pv 1) (po_some (pv 5)) (po_some (pe_op (op_addU (K := K)) (pv 5) pe_int)))) (pe_slice (sl_U (K := K)) (pv 1) (po_some (pv 5)) po_none)) (pa_cons (pe_op (op_addU (K := K)) (pe_op (op_addU (K := K)) (pe_slice (sl_U (K := K)) (pv 1) po_none (po_some (pv 5))) (pe_revS (pe_slice (sl_U (K := K)) (pv 1) (po_some (pv 5)) (po_some (pe_op (op_addU (K := K)) (pv 5) pe_int))))) (pe_slice (sl_U (K := K)) (pv 1) (po_some (pe_op (op_addU (K := K)) (pv 5) pe_int)) po_none)) pa_nil)))))
  (pss_one (ps_ret (pe_ix (ix_U (K := K)) (pe_op (op_addU (K := K)) (pv 6) (pe_lst (pa_cons (pe_op (op_addU (K := K)) (pe_op (op_addU (K := K)) (pe_slice (sl_U (K := K)) (pv 1) po_none (po_some (pv 5))) (pe_ix (ix_U (K := K)) (pe_lst (pa_cons pe_str (pa_cons pe_str (pa_cons pe_str (pa_cons pe_str (pa_cons pe_str (pa_cons pe_str (pa_cons pe_str pa_nil)))))))) (pe_op op_mod (pv 5) pe_int) (fun _ _ => rfl))) (pe_slice (sl_U (K := K)) (pv 1) (po_some (pv 5)) po_none)) pa_nil))) (pv 3) (fun _ _ => rfl))))))))), rfl, ?_⟩
  walk_at "sxp"
  rename_i r0 _ _ _ _ _ _ _ _ _ _ _ _ _
  refine x_ixAny (SqL.of (hw.at 0 rfl)) (by split <;> decide) (by split <;> simp) fun v hv => ?_
  obtain ⟨at', rfl, ha0, ha1⟩ : ∃ i : Int, v = .int i ∧ 0 ≤ i ∧ i ≤ z.length := by
    simp only [List.mem_cons, List.not_mem_nil, or_false] at hv
    rcases hv with rfl | rfl
    · exact ⟨_, rfl, by omega, by omega⟩
    · exact ⟨_, rfl, by omega, by omega⟩
  replace hw := hw.drop1
  walk_at "sxp"
  refine x_ixAny (SqL.of (hw.at 0 rfl)) (by omega) (by simp; omega) fun v hv => ?_
  obtain ⟨wd, rfl, hwd⟩ : ∃ u : Str, v = .str u ∧ u.length ≤ 8 := by
    simp only [List.mem_cons, List.not_mem_nil, or_false] at hv
    rcases hv with rfl | rfl | rfl | rfl | rfl | rfl | rfl <;> exact ⟨_, rfl, by decide⟩
  walk_at "sxp"
  refine x_ixAny (SqL.of (hw.at 0 rfl)) (by omega) (by simp; omega) fun v hv => ?_
  obtain ⟨u, rfl, hu⟩ : ∃ u : Str, v = .str u ∧ u.length ≤ 3 * z.length + 20 := by
    simp only [List.mem_append, List.mem_cons, List.not_mem_nil, or_false] at hv
    rcases hv with ((rfl | rfl | rfl | rfl) | rfl | rfl) | rfl <;> exact ⟨_, rfl, by omega⟩
  exact q u _ _ _ hu bx (by omega) hw.ex (hw.at 6 rfl)
end
end Law
namespace Law
open PySem PySem.Spec PyProof.Rows L2 Fw
abbrev s_law_right : Stmt := topS 34
theorem sc_law_right : FnScope ["_law_box", "_law_names", "_law_texts", "_law_turn", "_law_text", "_law_more", "_law_bent_here", "_law_due", "_law_found"] ["_law_box"] (defScope s_law_right) := ⟨rfl, rfl, rfl, by decide +kernel, rfl, by decide +kernel, by decide +kernel⟩

abbrev slaw : Stmt := topS 35
theorem sclaw : FnScope ["_law_script", "_law_cells", "_law_k"] ["_law_script"] (defScope slaw) := ⟨rfl, rfl, rfl, by decide +kernel, rfl, by decide +kernel, by decide +kernel⟩

def spRight : Sp := fun vs H Q _ => ∃ (b : Addr) (a s c : Int), vs = [.ref b] ∧ H b = some (box a s c) ∧ Bx a s c ∧ c ≤ 1000 ∧ ∀ o H', Ex [b] H H' → H' b = some o → Q (.bl true) H'
def spLaw (K : PySem.W.Frag) : Sp := fun vs H Q _ => ∃ (a : Addr) (ns : List Int), vs = [.ref a] ∧ SqL K H a (ns.map V.int) ∧ ns.length ≤ 63 ∧ ∀ H', Q (.bl true) H'
def AllS (N : Nat) (vs : List V) : Prop := ∀ v ∈ vs, ∃ x : Str, v = .str x ∧ x.length ≤ N
theorem AllS.nil {N : Nat} : AllS N [] := fun _ z => nomatch z
theorem AllS.cons {N : Nat} {x : Str} {vs : List V} (h : x.length ≤ N) (t : AllS N vs) : AllS N (.str x :: vs) := fun v hv => by
  rcases List.mem_cons.mp hv with rfl | hv
  · exact ⟨x, rfl, h⟩
  · exact t v hv
theorem AllS.app {N : Nat} {vs us : List V} (h : AllS N vs) (t : AllS N us) : AllS N (vs ++ us) := fun v hv => (List.mem_append.mp hv).elim (h v) (t v)
theorem AllS.strs {N : Nat} : ∀ {vs : List V}, AllS N vs → ∃ ts : List Str, vs = ts.map V.str ∧ ts.length = vs.length ∧ ∀ x ∈ ts, x.length ≤ N
  | [], _ => ⟨[], rfl, rfl, fun _ z => nomatch z⟩
  | v :: r, h => by
    obtain ⟨x, rfl, hx⟩ := h v (List.mem_cons_self ..)
    obtain ⟨ts, rfl, hl, ht⟩ := AllS.strs (vs := r) fun u hu => h u (List.mem_cons_of_mem _ hu)
    exact ⟨x :: ts, rfl, congrArg Nat.succ hl, fun y hy => (List.mem_cons.mp hy).elim (fun e => e ▸ hx) (ht y)⟩
theorem strCell {N : Nat} {K : PySem.W.Frag} {H0 H : Hp} {Ms M0 : List Addr} {p : Addr} {xs : List V} {L : List (Addr × HO)} {R : List Fa} (hw : W K H0 Ms M0 H ((p, .lst xs) :: L) R) (h : AllS N xs) : ∃ ts : List Str, ts.length = xs.length ∧ (∀ x ∈ ts, x.length ≤ N) ∧ W K H0 Ms M0 H ((p, .lst (ts.map V.str)) :: L) R := by
  obtain ⟨ts, rfl, hl, ht⟩ := h.strs
  exact ⟨ts, hl, ht, hw⟩
section
variable {P : Program} {w : World} {K : PySem.W.Frag} {mg : Str → Option Value} {base : Heap} {f : Addr} {fd : FuncData} {k : Nat} {kws : List (Str × V)}
theorem ok_right (F : FunD K "_law_right" "_law_right" (defArgs s_law_right) (defBody s_law_right) (defScope s_law_right) [] kws f fd) (B : BltX mg) (G_law_take : Fq P w K mg base CX0 1 "_law_take" ["_law_box", "_law_many"] spTake) (G_law_named : Fq P w K mg base CX0 2 "_law_named" ["_law_box", "_law_many"] spNamed)
    (G_law_wild : Fq P w K mg base CX0 33 "_law_wild" ["_law_box", "_law_names", "_law_room", "_law_deep"] (spWild K 30)) (G_law_spelled : Fq P w K mg base CX0 32 "_law_spelled" ["_law_tree"] (spSpelled K 31)) (G_law_bent : Fq P w K mg base CX0 2 "_law_bent" ["_law_box", "_law_text"] spBent)
    (G_law_bad_at : Fq P w K mg base CX0 1 "_law_bad_at" ["_law_text"] spBad) (G_law_told : Fq P w K mg base CX0 33 "_law_told" ["_law_text"] spTold) : FnG P w K mg base CX0 34 f fd ["_law_box"] spRight := by
  refine okG F sc_law_right (fun vs H Q E h => ?_) (fun cdv A outer s H0 vs Q E hG hr h => ?_)
  · obtain ⟨b, a, s, c, rfl, _⟩ := h
    rfl
  obtain ⟨b, a, s, c, rfl, hb, bx, hc, q⟩ := h
  have hw : W K H0 [b] [] H0 [(b, box a s c)] [] := W.start1 hb (fun _ z => nomatch z) (fun _ z => nomatch z)
  have l1 : (Str.ofString "a(").length = 2 := by decide +kernel
  have l2 : (Str.ofString "b").length = 1 := by decide +kernel
  have l3 : (Str.ofString ")").length = 1 := by decide +kernel
  have l4 : (Str.ofString "b(").length = 2 := by decide +kernel
  have l5 : (Str.ofString "x").length = 1 := by decide +kernel
  refine ⟨_, [some (.ref b), none, none, none, none, none, none, none, none], (pss_cons (ps_set (i := 1) sc_law_right.nd rfl (Or.inl rfl) (pe_fq hG G_law_named hr (by first | decide | omega) (by rfl) pass0 (pa_cons (pv 0) (pa_cons pe_int pa_nil))))
  (pss_cons (ps_set (i := 2) sc_law_right.nd rfl (Or.inl rfl) (pe_lst (pa_cons pe_str (pa_cons pe_str (pa_cons pe_str (pa_cons pe_str (pa_cons pe_str (pa_cons pe_str (pa_cons pe_str (pa_cons pe_str (pa_cons pe_str (pa_cons pe_str (pa_cons pe_str (pa_cons pe_str (pa_cons pe_str pa_nil)))))))))))))))
  (pss_cons (ps_set (i := 2) sc_law_right.nd rfl (Or.inl rfl) (pe_op (op_addU (K := K)) (pv 2) (pe_lst (pa_cons pe_str (pa_cons pe_str (pa_cons pe_str (pa_cons pe_str (pa_cons pe_str (pa_cons pe_str (pa_cons pe_str (pa_cons pe_str (pa_cons pe_str (pa_cons pe_str (pa_cons pe_str (pa_cons pe_str pa_nil)))))))))))))))
  (pss_cons (ps_expr (Fw.pe_m1 (K := K) PySem.F.plainAttrs_list PySem.F.slot_list_append PySem.F.type_list_append mt_append (pv 2) (pa_cons pe_str pa_nil)))
  (pss_cons (ps_set (i := 2) sc_law_right.nd rfl (Or.inl rfl) (pe_op (op_addU (K := K)) (pv 2) (pe_lst (pa_cons (pe_op (op_addU (K := K)) (pe_op (op_addU (K := K)) (pe_op op_mulS pe_str pe_int) pe_str) (pe_op op_mulS pe_str pe_int)) (pa_cons (pe_op (op_addU (K := K)) (pe_op (op_addU (K := K)) (pe_op op_mulS pe_str pe_int) pe_str) (pe_op op_mulS pe_str pe_int)) (pa_cons (pe_op (op_addU (K := K)) (pe_op op_mulS pe_str pe_int) pe_str) (pa_cons (pe_op op_mulS pe_str pe_int) (pa_cons (pe_op op_mulS pe_str pe_int) pa_nil))))))))
  (pss_cons (ps_for PassesOwn.never rfl (pi_range1 (by rfl) B.range (pa_cons pe_int pa_nil)) (pg_name (i := 3) sc_law_right.nd rfl (Or.inl rfl)) (pss_cons (ps_set (i := 4) sc_law_right.nd rfl (Or.inl rfl) (pe_fq hG G_law_spelled hr (by first | decide | omega) (by rfl) pass0 (pa_cons (pe_fq hG G_law_wild hr (by first | decide | omega) (by rfl) pass0 (pa_cons (pv 0) (pa_cons (pv 1) (pa_cons (pe_op (op_addU (K := K)) pe_int (pe_fq hG G_law_take hr (by first | decide | omega) (by rfl) pass0 (pa_cons (pv 0) (pa_cons (pe_ix (ix_U (K := K)) (pe_lst (pa_cons pe_int (pa_cons pe_int pa_nil))) (pe_fq hG G_law_take hr (by first | decide | omega) (by rfl) pass0 (pa_cons (pv 0) (pa_cons pe_int pa_nil))) (fun _ _ => rfl)) pa_nil)))) (pa_cons pe_int pa_nil))))) pa_nil)))
  (pss_one (ps_for PassesOwn.never rfl (pi_range1 (by rfl) B.range (pa_cons pe_int pa_nil)) (pg_name (i := 5) sc_law_right.nd rfl (Or.inl rfl)) (pss_cons (ps_set (i := 6) sc_law_right.nd rfl (Or.inl rfl) (pe_fq hG G_law_bent hr (by first | decide | omega) (by rfl) pass0 (pa_cons (pv 0) (pa_cons (pv 4) pa_nil))))
  (pss_one (ps_expr (Fw.pe_m1 (K := K) PySem.F.plainAttrs_list PySem.F.slot_list_append PySem.F.type_list_append mt_append (pv 2) (pa_cons (pe_ifExp (pt_cmpR (op_eqU (K := K) hr) (pe_fq hG G_law_take hr (by first | decide | omega) (by rfl) pass0 (pa_cons (pv 0) (pa_cons pe_int pa_nil))) pe_int (nomark _)) (pe_fq hG G_law_bent hr (by first | decide | omega) (by rfl) pass0 (pa_cons (pv 0) (pa_cons (pv 6) pa_nil))) (pv 6)) pa_nil)))))))))
  (pss_cons (ps_for PassesOwn.never rfl (pi_U (K := K) (pe_lc (own := [("_law_text", 4)]) rfl sc_law_right.nd (pi_U (K := K) (pv 2)) (blkOk_by (own := [("_law_text", 4)]) (N := ["_law_box", "_law_names", "_law_texts", "_law_turn", "_law_text", "_law_more", "_law_bent_here", "_law_due", "_law_found"]) (sc := defScope s_law_right) (by decide +kernel)) (fun _ _ _ _ _ => (pg_name (i := 4) sc_law_right.nd rfl (Or.inl rfl))) (fun _ _ _ _ _ => (pts_one (pt_cmpR (op_lt) (pe_callB (call_lenU (K := K)) (by rfl) B.len (by decide +kernel) (pa_cons (pv 4) pa_nil)) pe_int (nomark _)))) (fun _ _ _ _ _ => (pv 4)))) (pg_name (i := 4) sc_law_right.nd rfl (Or.inl rfl)) (pss_cons (ps_par (i := 7) (j := 8) rfl sc_law_right.nd rfl rfl (by decide) rfl rfl (pa_cons (pe_fq hG G_law_bad_at hr (by first | decide | omega) (by rfl) pass0 (pa_cons (pv 4) pa_nil)) (pa_cons (pe_fq hG G_law_told hr (by first | decide | omega) (by rfl) pass0 (pa_cons (pv 4) pa_nil)) pa_nil)) (by rfl))
  (pss_one (ps_if (PW.pt (pw_or (PW.pt (pw_and (pt_cmpR (op_isU) (pv 7) pe_non (nomark _)) (pw_and1 (pt_cmpR (op_neU (K := K) hr) (pv 8) (pv 4) (nomark _))))) (pw_or1 (PW.pt (pw_and (pt_cmpR (op_isNotU) (pv 7) pe_non (nomark _)) (pw_and1 (PW.pt (pw_or (pt_not (pt_val (pe_callB (call_isiU (K := K)) (by rfl) B.isinstance (by decide +kernel) (pa_cons (pv 8) (pa_cons (pe_bltn (v := .ty "int") (by rfl) B.int' (by decide +kernel) rfl) pa_nil))))) (pw_or1 (pt_cmpR (op_neU (K := K) hr) (pv 8) (pv 7) (nomark _))))))))))) (pss_one (ps_ret pe_bl)) pss_nil))))
  (pss_one (ps_ret pe_bl))))))))), rfl, ?_⟩
  walk_at "sx"
  refine ⟨b, a, s, c, 4, rfl, by decide, hb, bx, by omega, fun ns pn a c H hln hns hpn bx hc1 e hb hp hne => ?_⟩
  replace hw := hw.call 0 rfl e hb
  replace hw : W K H0 [b] [] H [(b, box a s c)] [.kn pn (.lst (ns.map V.str))] := hw.addF (r := .kn pn _) (by
    exact (del_out (fun z => hne (by simpa using z))).trans hp)
  walk_at "sxp"
  rename Addr => pt
  obtain ⟨ts, htl, hto, hw⟩ := strCell (N := 40000) hw (by repeat' first | apply AllS.app | apply AllS.cons | exact AllS.nil | decide | omega)
  replace hw : W K H0 [b] [] H [(pt, .lst (ts.map V.str)), (b, box a s c)] [.kn pn (.lst (ns.map V.str))] := hw.cells [0, 5] rfl (by decide)
  replace htl : ts.length = 31 := htl
  refine w_for walk_range (fun i σ H' => ∃ (ts : List Str) (a1 c1 : Int) (y3 y4 y5 y6 y7 y8 : Option V), σ = [some (.ref b), some (.ref pn), some (.ref pt), y3, y4, y5, y6, y7, y8] ∧ ts.length ≤ 31 + 30 * i ∧ (∀ x ∈ ts, x.length ≤ 40000) ∧ Bx a1 s c1 ∧ c1 ≤ c + 1000 * i ∧ W K H0 [b] [] H' [(pt, .lst (ts.map V.str)), (b, box a1 s c1)] [.kn pn (.lst (ns.map V.str))]) ?_ ?_ ?_ ?_
  · exact ⟨ts, a, c, _, _, _, _, _, _, rfl, by omega, hto, bx, by omega, hw⟩
  · intros
    trivial
  · rintro i x σ _ H hi ⟨ts, a1, c1, y3, y4, y5, y6, y7, y8, rfl, htl, hto, bx, hc1, hw⟩ ⟨rfl, rfl⟩
    have hi4 : i < 4 := hi
    walk_at "sx"
    refine x_ixAny (SqL.of (hw.at 0 rfl)) hr0 (by exact hr1) fun v hv => ?_
    obtain ⟨m, rfl, hm1, hm2⟩ : ∃ m : Int, v = .int m ∧ 6 ≤ m ∧ m ≤ 30 := by
      simp only [List.mem_cons, List.not_mem_nil, or_false] at hv
      rcases hv with rfl | rfl
      · exact ⟨6, rfl, by decide, by decide⟩
      · exact ⟨30, rfl, by decide, by decide⟩
    replace hw := hw.drop1
    walk_at "sx"
    refine x_wild (E := E0) hw 1 0 rfl rfl rfl (by omega) (by omega) hns (by omega) (by omega) bx (by omega) fun v t a2 c2 H ht hts hth bx hc2 hw => ?_
    simp only [List.set_cons_zero, List.set_cons_succ] at hw
    walk_at "sx"
    refine ⟨v, t, rfl, (hw.rp 0 rfl).dd, ht, hth, by omega, fun H e => ?_⟩
    replace hw : W K H0 [b] [] H [(pt, .lst (ts.map V.str)), (b, box a2 s c2)] [.kn pn (.lst (ns.map V.str))] := (hw.pure e).pick [1] rfl
    have htx := text_len ht
    generalize t.text = tx at htx
    have htx2 : tx.length ≤ 1000 := by omega
    walk_at "sx"
    refine w_for walk_range (fun j σ H' => ∃ (ts : List Str) (a2 c3 : Int) (y5 y6 y7 y8 : Option V), σ = [some (.ref b), some (.ref pn), some (.ref pt), some (.int (0 + i)), some (.str tx), y5, y6, y7, y8] ∧ ts.length ≤ 31 + 30 * i + j ∧ (∀ x ∈ ts, x.length ≤ 40000) ∧ Bx a2 s c3 ∧ c3 ≤ c2 + 9 * j ∧ W K H0 [b] [] H' [(pt, .lst (ts.map V.str)), (b, box a2 s c3)] [.kn pn (.lst (ns.map V.str))]) ?_ ?_ ?_ ?_
    · exact ⟨ts, a2, c2, _, _, _, _, rfl, by omega, hto, bx, by omega, hw⟩
    · intros
      trivial
    · rintro j x σ _ H hj ⟨ts, a2, c3, y5, y6, y7, y8, rfl, htl, hto, bx, hc3, hw⟩ ⟨rfl, rfl⟩
      have hj30 : j < 30 := hj
      have hzz : (ts.map V.str).length < sizeLine := sz_lt (by rw [List.length_map]; omega)
      have app : ∀ {y : Str}, y.length ≤ 40000 → ∀ x ∈ ts ++ [y], x.length ≤ 40000 := fun {y} hy x hx => (List.mem_append.mp hx).elim (hto x) fun e => by rw [List.mem_singleton.mp e]; exact hy
      walk_at "sx"
      refine ⟨b, tx, a2, s, c3, rfl, by omega, hw.at 1 rfl, bx, by omega, fun y a3 c4 H hy bx hc4 e hb => ?_⟩
      replace hw := hw.call 1 rfl e hb
      simp only [List.set_cons_zero, List.set_cons_succ] at hw
      walk_at "sx"
      refine x_ifd (fun c5 => ?_) (fun c5 => ?_)
      · walk_at "sx"
        refine ⟨b, y, _, s, _, rfl, by omega, hw.at 1 rfl, bx, by omega, fun y2 a4 c6 H hy2 bx hc6 e hb => ?_⟩
        replace hw := hw.call 1 rfl e hb
        simp only [List.set_cons_zero, List.set_cons_succ] at hw
        walk_at "sx"
        exact ⟨ts ++ [y2], _, _, _, _, _, _, rfl, by simp; omega, app (by omega), bx, by omega, by rw [List.map_append]; exact hw⟩
      · walk_at "sx"
        exact ⟨ts ++ [y], _, _, _, _, _, _, rfl, by simp; omega, app (by omega), bx, by omega, by rw [List.map_append]; exact hw⟩
    · rintro σ H ⟨ts, a2, c3, y5, y6, y7, y8, rfl, htl, hto, bx, hc3, hw⟩
      have hc9 : c3 ≤ c2 + 270 := by first | omega | exact hc3
      have htl2 : ts.length ≤ 31 + 30 * i + 30 := by first | omega | exact htl
      walk_at "sx"
      exact ⟨ts, _, _, _, _, _, _, _, _, rfl, by omega, hto, bx, by omega, hw⟩
  · rintro σ H ⟨ts, a1, c1, y3, y4, y5, y6, y7, y8, rfl, htl, hto, bx, hc1, hw⟩
    have htl2 : ts.length ≤ 151 := by first | omega | exact htl
    walk_at "sx"
    refine w_lcK hw (walk_list (xs := ts.map V.str)) (fun D i H' => ∃ us : List Str, us.length ≤ i ∧ (∀ x ∈ us, x.length ≤ 1200) ∧ W K H0 [b] [] H' [(D, .lst (us.map V.str)), (pt, .lst (ts.map V.str)), (b, box a1 s c1)] [.kn pn (.lst (ns.map V.str))]) ?_ ?_ ?_ ?_
    · intro D H _ hw
      exact ⟨[], by simp, (fun _ z => nomatch z), hw⟩
    · rintro D i H _ ⟨us, _, _, hw⟩
      exact SqL.of (hw.at 1 rfl)
    · rintro D i x _ H hi ⟨us, hul, huo, hw⟩ ⟨rfl, hx⟩
      rw [List.getElem?_map] at hx
      obtain ⟨z, hz, rfl⟩ := Option.map_eq_some_iff.mp hx
      have hzl := hto z (List.mem_of_getElem? hz)
      rw [List.length_map] at hi
      have hzz : (us.map V.str).length < sizeLine := sz_lt (by rw [List.length_map]; omega)
      walk_at "sxp"
      refine x_ifd (fun c5 => ?_) (fun c5 => ?_)
      · walk_at "sx"
        exact ⟨us ++ [z], by simp; omega, fun x hx => (List.mem_append.mp hx).elim (huo x) fun e => by rw [List.mem_singleton.mp e]; omega, by rw [List.map_append]; exact hw⟩
      · walk_at "sx"
        exact ⟨us, by omega, huo, hw⟩
    rintro D H ⟨us, hul, huo, hw⟩
    walk_at "sx"
    refine w_for (walk_list (xs := us.map V.str)) (fun i σ H' => ∃ (y3 y4 y5 y6 y7 y8 : Option V), σ = [some (.ref b), some (.ref pn), some (.ref pt), y3, y4, y5, y6, y7, y8] ∧ W K H0 [b] [] H' [(D, .lst (us.map V.str)), (pt, .lst (ts.map V.str)), (b, box a1 s c1)] [.kn pn (.lst (ns.map V.str))]) ?_ ?_ ?_ ?_
    · exact ⟨_, _, _, _, _, _, rfl, hw⟩
    · rintro i σ H _ ⟨y3, y4, y5, y6, y7, y8, rfl, hw⟩
      exact SqL.of (hw.at 0 rfl)
    · rintro i x σ _ H hi ⟨y3, y4, y5, y6, y7, y8, rfl, hw⟩ ⟨rfl, hx⟩
      rw [List.getElem?_map] at hx
      obtain ⟨z, hz, rfl⟩ := Option.map_eq_some_iff.mp hx
      have hzl := huo z (List.mem_of_getElem? hz)
      walk_at "sx"
      refine ⟨z, rfl, by omega, fun H e => ?_⟩
      replace hw := hw.pure e
      walk_at "sx"
      refine ⟨z, rfl, by omega, fun H e => ?_⟩
      replace hw := hw.pure e
      unfold toldV
      cases bad z with
      | none =>
        dsimp only [badV]
        walk_at "sx"
        exact ⟨_, _, _, _, _, _, rfl, hw⟩
      | some k =>
        dsimp only [badV]
        walk_at "sx"
        exact ⟨_, _, _, _, _, _, rfl, hw⟩
    · rintro σ H ⟨y3, y4, y5, y6, y7, y8, rfl, hw⟩
      walk_at "sx"
      exact q _ _ hw.ex (hw.at 2 rfl)
theorem ok_law (F : FunD K "law" "law" (defArgs slaw) (defBody slaw) (defScope slaw) [] kws f fd) (B : BltX mg) (G_law_folded : Fq P w K mg base CX0 1 "_law_folded" ["_law_script", "_law_size"] (spFolded K)) (G_law_dip : Fq P w K mg base CX0 1 "_law_dip" ["_law_script", "_law_k"] (spDip K)) (G_law_right : Fq P w K mg base CX0 34 "_law_right" ["_law_box"] spRight) : FnG P w K mg base CX0 35 f fd ["_law_script"] (spLaw K) := by
  refine okG F sclaw (fun vs H Q E h => ?_) (fun cdv A outer s H0 vs Q E hG hr h => ?_)
  · obtain ⟨a, ns, rfl, _⟩ := h
    rfl
  obtain ⟨a, ns, rfl, hb, hn, q⟩ := h
  have hw : W K H0 [] [] H0 [] [] := W.start0 (fun _ z => nomatch z) (fun _ z => nomatch z)
  refine ⟨_, [some (.ref a), none, none], (pss_cons (ps_set (i := 1) sclaw.nd rfl (Or.inr rfl) (pe_fq hG G_law_folded hr (by first | decide | omega) (by rfl) pass0 (pa_cons (pv 0) (pa_cons pe_int pa_nil))))
  (pss_one (ps_ret (pe_callB (call_allU (K := K) rfl) (by rfl) B.all (by decide +kernel) (pa_cons (pe_lc (own := [("_law_k", 2)]) rfl sclaw.nd (pi_range1 (by rfl) B.range (pa_cons (pe_callB (call_maxU (K := K) rfl) (by rfl) B.max (by decide +kernel) (pa_cons pe_int (pa_cons (pe_callB (call_lenU (K := K)) (by rfl) B.len (by decide +kernel) (pa_cons (pv 1) pa_nil)) pa_nil))) pa_nil)) (blkOk_by (own := [("_law_k", 2)]) (N := ["_law_script", "_law_cells", "_law_k"]) (sc := defScope slaw) (by decide +kernel)) (fun _ _ _ _ _ => (pg_name (i := 2) sclaw.nd rfl (Or.inl rfl))) (fun _ _ _ _ _ => pts_nil) (fun _ _ _ _ _ => (pe_fq hG G_law_right hr (by first | decide | omega) (by rfl) pass0 (pa_cons (pe_fq hG G_law_dip hr (by first | decide | omega) (by rfl) pass0 (pa_cons (pv 1) (pa_cons (pv 2) pa_nil))) pa_nil)))) pa_nil))))), rfl, ?_⟩
  walk_at "sx"
  refine ⟨a, ns, 3, rfl, hb, by decide, by decide, by omega, fun ms pc H hm hpc e hc => ?_⟩
  replace hw := hw.pure e
  replace hw := hw.addF (r := .kn pc (.lst (ms.map V.int))) (by rw [av, List.map_nil, List.nil_append]; show Fw.del H [] pc = _; rw [del_nil]; exact hc)
  have hm3 : ms.length ≤ 3 := by omega
  walk_at "sx"
  refine w_lcK hw walk_range (fun D i H' => W K H0 [] [] H' [(D, .lst (List.replicate i (.bl true)))] [.kn pc (.lst (ms.map V.int))]) ?_ ?_ ?_ ?_
  · intro D H _ hw
    exact hw
  · intros
    trivial
  · rintro D i x _ H hi hw ⟨rfl, rfl⟩
    rw [List.length_map] at hi
    have hi9 : i < 5 := by omega
    have hzz : (List.replicate i (V.bl true)).length < sizeLine := sz_lt (by simp; omega)
    walk_at "sx"
    refine ⟨[], pc, ms, _, rfl, (fun _ z => nomatch z), .lst (by rw [del_nil]; exact hw.kn 0 rfl) (DdAll.ints ms), by omega, by omega, fun x y pb H bx hpb e hb => ?_⟩
    replace hw := hw.adopt e hpb hb
    walk_at "sx"
    refine ⟨pb, x, y, 0, rfl, hw.at 0 rfl, bx, by omega, fun o H e ho => ?_⟩
    replace hw := (hw.call 0 rfl e ho).drop1
    walk_at "sx"
    rw [List.replicate_succ']
    exact hw
  intro D H hw
  walk_at "sx"
  refine x_allT (hw.at 0 rfl) ?_
  exact q _
end
end Law
namespace Law
open PySem PySem.Spec PyProof.Rows L2 Fw L2H HotX
/-! ### the head -/
def mkD (x : Str) (st : Stmt) (kwd : List (Str × He.Dv)) : He.DefD := ⟨(x, none), x, x, defArgs st, defBody st, defScope st, [], kwd⟩
def fn : List He.DefD := [mkD "signs_on" ssigns_on [],
  mkD "name_at" sname_at [],
  mkD "own_at" sown_at [],
  mkD "closed" sclosed [],
  mkD "goes_on" sgoes_on [],
  mkD "tree_in" stree_in [],
  mkD "_law_dip" s_law_dip [],
  mkD "_law_take" s_law_take [],
  mkD "_law_folded" s_law_folded [],
  mkD "_law_one_of" s_law_one_of [],
  mkD "_law_named" s_law_named [],
  mkD "_law_number" s_law_number [],
  mkD "_law_wild" s_law_wild [],
  mkD "_law_spelled" s_law_spelled [],
  mkD "_law_bad_at" s_law_bad_at [],
  mkD "_law_bent" s_law_bent [],
  mkD "_law_told" s_law_told [],
  mkD "_law_right" s_law_right [],
  mkD "law" slaw [],
  ⟨("BadText", some "__init__"), "__init__", "BadText.__init__", defArgs (inClass (topS 3) 0), defBody (inClass (topS 3) 0), defScope (inClass (topS 3) 0), [], []⟩]
def fa : List He.Fa := [.glo "signs_on", .glo "name_at", .glo "own_at", .glo "closed", .glo "goes_on", .glo "tree_in", .glo "_law_dip", .glo "_law_take", .glo "_law_folded", .glo "_law_one_of", .glo "_law_named", .glo "_law_number", .glo "_law_wild", .glo "_law_spelled", .glo "_law_bad_at", .glo "_law_bent", .glo "_law_told", .glo "_law_right", .glo "law", .glo "BadText", .glo "BadGrammar", .glo "BadRow", .glo "NoCap", .glo "NoGiven", .glo "NotLet", .glo "NoTree", .free "len", .free "abs", .free "int", .free "list", .free "range", .free "enumerate", .free "min", .free "tuple", .free "str", .free "isinstance", .free "bool", .free "ValueError", .free "max", .free "all", .int "MOST_SIGNS" 6, .int "MOST_PARTS" 2, .int "MOST_DEEP" 30, .str "SMALL" "abcdefghijklmnopqrstuvwxyz", .str "FIGURES" "0123456789", .str "NO_NAME" "own"]
def ts : List He.Tab := []
def exB : PySem.W.Frag → Bool := fun K => Fw.ownB K (He.ga K "BadText") "ValueError.__new__" veT && decide (PySem.W.findIn K (.ref (He.ga K "BadText")) "at" = some none) && decide (PySem.W.kitAny K (.ref (He.ga K "BadText")) [.ref (He.ga K "BadGrammar"), .ref (He.ga K "BadRow"), .ref (He.ga K "NoCap"), .ref (He.ga K "NoGiven"), .ref (He.ga K "NotLet"), .ref (He.ga K "NoTree")] = some false) && decide (PySem.W.kitOne K (.ref (He.ga K "BadText")) (.type "ValueError") = some true) && decide (PySem.W.exmOne K (.ref (He.ga K "BadText")) (.ref (He.ga K "BadText")) = some true) && decide (PySem.W.findIn K (.ref (He.ga K "BadText")) "__init__" = some (some (.ref (He.ma K (He.ga K "BadText") "__init__")))) && decide (PySem.W.typeIn K (.ref (He.ma K (He.ga K "BadText") "__init__")) = some (.type "function"))
abbrev R0 : PySem.W.OpenRow := PySem.W.OpenLaw.row PySem.Challenge.rw_threereckons_k19_texts_of_trees_spoilt
abbrev hk : PySem.W.Hook := He.hookX 4 fa fn ts [] exB
def ob (s : PySem.W.SharedT) : He.AlX := He.obsX 4 fa fn ts [] exB (HandSHeadRun.getT s)
theorem ob_eq (s : PySem.W.SharedT) : ob s = hk.obs s.abs := He.obsX_eq (HandSHeadRun.getT_eq s)
def loose : List Str := (["BadGrammar", "BadRow", "BadText", "NoTree", "NoGiven", "NotLet", "NoCap", "SMALL", "FIGURES", "MOST_SIGNS", "MOST_PARTS", "MOST_DEEP", "NO_NAME", "signs_on", "name_at", "own_at", "closed", "goes_on", "tree_in", "_law_dip", "_law_take", "_law_folded", "_law_one_of", "_law_strewn", "_law_named", "_law_number", "_law_wild", "_law_spelled", "_law_bad_at", "_law_bent"] : List Str) ++ (["_law_told", "_law_right"] : List Str)
theorem topRun (w : World) : HandSHeadRun.RunEq R0 (PySem.W.view R0.prog [35]) hk ob 4000 loose w :=
  PySem.W.byRow2 "special-get-raises" (P := fun w => HandSHeadRun.RunEq R0 (PySem.W.view R0.prog [35]) hk ob 4000 loose w) (fun w => by intro os; kernel_rfl) (fun w => by intro os; kernel_rfl) w

theorem facts {P : Program} {w : World} {K : PySem.W.Frag} {h : Heap} {mg : Str → Option Value} {f : Addr} (X : K.In h) (G : h.Ns mainGlobals mg) (hfa : mg ("law" : Str) = some (.ref f)) (c : He.SaysX fa fn ts [] exB w h K) :
    ∃ fd : FuncData, (∀ (s : Shared) (v : Value), BindsTo s fd ⟨[v], []⟩ [("_law_script", v)]) ∧ ∀ base : Heap, K.In base → base.Ns mainGlobals mg → FnG P w K mg base CX0 35 f fd ["_law_script"] (spLaw K) := by
  obtain ⟨fdsigns_on, Fsigns_on⟩ := c.t.d.def_ 0 (d := mkD "signs_on" ssigns_on []) rfl
  replace Fsigns_on : FunD K "signs_on" "signs_on" (defArgs ssigns_on) (defBody ssigns_on) (defScope ssigns_on) [] [] (He.ga K "signs_on") fdsigns_on := Fsigns_on
  have gsigns_on := He.glo_ok X G (c.t.d.fact 0 (f := .glo "signs_on") rfl)
  obtain ⟨fdname_at, Fname_at⟩ := c.t.d.def_ 1 (d := mkD "name_at" sname_at []) rfl
  replace Fname_at : FunD K "name_at" "name_at" (defArgs sname_at) (defBody sname_at) (defScope sname_at) [] [] (He.ga K "name_at") fdname_at := Fname_at
  have gname_at := He.glo_ok X G (c.t.d.fact 1 (f := .glo "name_at") rfl)
  obtain ⟨fdown_at, Fown_at⟩ := c.t.d.def_ 2 (d := mkD "own_at" sown_at []) rfl
  replace Fown_at : FunD K "own_at" "own_at" (defArgs sown_at) (defBody sown_at) (defScope sown_at) [] [] (He.ga K "own_at") fdown_at := Fown_at
  have gown_at := He.glo_ok X G (c.t.d.fact 2 (f := .glo "own_at") rfl)
  obtain ⟨fdclosed, Fclosed⟩ := c.t.d.def_ 3 (d := mkD "closed" sclosed []) rfl
  replace Fclosed : FunD K "closed" "closed" (defArgs sclosed) (defBody sclosed) (defScope sclosed) [] [] (He.ga K "closed") fdclosed := Fclosed
  have gclosed := He.glo_ok X G (c.t.d.fact 3 (f := .glo "closed") rfl)
  obtain ⟨fdgoes_on, Fgoes_on⟩ := c.t.d.def_ 4 (d := mkD "goes_on" sgoes_on []) rfl
  replace Fgoes_on : FunD K "goes_on" "goes_on" (defArgs sgoes_on) (defBody sgoes_on) (defScope sgoes_on) [] [] (He.ga K "goes_on") fdgoes_on := Fgoes_on
  have ggoes_on := He.glo_ok X G (c.t.d.fact 4 (f := .glo "goes_on") rfl)
  obtain ⟨fdtree_in, Ftree_in⟩ := c.t.d.def_ 5 (d := mkD "tree_in" stree_in []) rfl
  replace Ftree_in : FunD K "tree_in" "tree_in" (defArgs stree_in) (defBody stree_in) (defScope stree_in) [] [] (He.ga K "tree_in") fdtree_in := Ftree_in
  have gtree_in := He.glo_ok X G (c.t.d.fact 5 (f := .glo "tree_in") rfl)
  obtain ⟨fd_law_dip, F_law_dip⟩ := c.t.d.def_ 6 (d := mkD "_law_dip" s_law_dip []) rfl
  replace F_law_dip : FunD K "_law_dip" "_law_dip" (defArgs s_law_dip) (defBody s_law_dip) (defScope s_law_dip) [] [] (He.ga K "_law_dip") fd_law_dip := F_law_dip
  have g_law_dip := He.glo_ok X G (c.t.d.fact 6 (f := .glo "_law_dip") rfl)
  obtain ⟨fd_law_take, F_law_take⟩ := c.t.d.def_ 7 (d := mkD "_law_take" s_law_take []) rfl
  replace F_law_take : FunD K "_law_take" "_law_take" (defArgs s_law_take) (defBody s_law_take) (defScope s_law_take) [] [] (He.ga K "_law_take") fd_law_take := F_law_take
  have g_law_take := He.glo_ok X G (c.t.d.fact 7 (f := .glo "_law_take") rfl)
  obtain ⟨fd_law_folded, F_law_folded⟩ := c.t.d.def_ 8 (d := mkD "_law_folded" s_law_folded []) rfl
  replace F_law_folded : FunD K "_law_folded" "_law_folded" (defArgs s_law_folded) (defBody s_law_folded) (defScope s_law_folded) [] [] (He.ga K "_law_folded") fd_law_folded := F_law_folded
  have g_law_folded := He.glo_ok X G (c.t.d.fact 8 (f := .glo "_law_folded") rfl)
  obtain ⟨fd_law_one_of, F_law_one_of⟩ := c.t.d.def_ 9 (d := mkD "_law_one_of" s_law_one_of []) rfl
  replace F_law_one_of : FunD K "_law_one_of" "_law_one_of" (defArgs s_law_one_of) (defBody s_law_one_of) (defScope s_law_one_of) [] [] (He.ga K "_law_one_of") fd_law_one_of := F_law_one_of
  have g_law_one_of := He.glo_ok X G (c.t.d.fact 9 (f := .glo "_law_one_of") rfl)
  obtain ⟨fd_law_named, F_law_named⟩ := c.t.d.def_ 10 (d := mkD "_law_named" s_law_named []) rfl
  replace F_law_named : FunD K "_law_named" "_law_named" (defArgs s_law_named) (defBody s_law_named) (defScope s_law_named) [] [] (He.ga K "_law_named") fd_law_named := F_law_named
  have g_law_named := He.glo_ok X G (c.t.d.fact 10 (f := .glo "_law_named") rfl)
  obtain ⟨fd_law_number, F_law_number⟩ := c.t.d.def_ 11 (d := mkD "_law_number" s_law_number []) rfl
  replace F_law_number : FunD K "_law_number" "_law_number" (defArgs s_law_number) (defBody s_law_number) (defScope s_law_number) [] [] (He.ga K "_law_number") fd_law_number := F_law_number
  have g_law_number := He.glo_ok X G (c.t.d.fact 11 (f := .glo "_law_number") rfl)
  obtain ⟨fd_law_wild, F_law_wild⟩ := c.t.d.def_ 12 (d := mkD "_law_wild" s_law_wild []) rfl
  replace F_law_wild : FunD K "_law_wild" "_law_wild" (defArgs s_law_wild) (defBody s_law_wild) (defScope s_law_wild) [] [] (He.ga K "_law_wild") fd_law_wild := F_law_wild
  have g_law_wild := He.glo_ok X G (c.t.d.fact 12 (f := .glo "_law_wild") rfl)
  obtain ⟨fd_law_spelled, F_law_spelled⟩ := c.t.d.def_ 13 (d := mkD "_law_spelled" s_law_spelled []) rfl
  replace F_law_spelled : FunD K "_law_spelled" "_law_spelled" (defArgs s_law_spelled) (defBody s_law_spelled) (defScope s_law_spelled) [] [] (He.ga K "_law_spelled") fd_law_spelled := F_law_spelled
  have g_law_spelled := He.glo_ok X G (c.t.d.fact 13 (f := .glo "_law_spelled") rfl)
  obtain ⟨fd_law_bad_at, F_law_bad_at⟩ := c.t.d.def_ 14 (d := mkD "_law_bad_at" s_law_bad_at []) rfl
  replace F_law_bad_at : FunD K "_law_bad_at" "_law_bad_at" (defArgs s_law_bad_at) (defBody s_law_bad_at) (defScope s_law_bad_at) [] [] (He.ga K "_law_bad_at") fd_law_bad_at := F_law_bad_at
  have g_law_bad_at := He.glo_ok X G (c.t.d.fact 14 (f := .glo "_law_bad_at") rfl)
  obtain ⟨fd_law_bent, F_law_bent⟩ := c.t.d.def_ 15 (d := mkD "_law_bent" s_law_bent []) rfl
  replace F_law_bent : FunD K "_law_bent" "_law_bent" (defArgs s_law_bent) (defBody s_law_bent) (defScope s_law_bent) [] [] (He.ga K "_law_bent") fd_law_bent := F_law_bent
  have g_law_bent := He.glo_ok X G (c.t.d.fact 15 (f := .glo "_law_bent") rfl)
  obtain ⟨fd_law_told, F_law_told⟩ := c.t.d.def_ 16 (d := mkD "_law_told" s_law_told []) rfl
  replace F_law_told : FunD K "_law_told" "_law_told" (defArgs s_law_told) (defBody s_law_told) (defScope s_law_told) [] [] (He.ga K "_law_told") fd_law_told := F_law_told
  have g_law_told := He.glo_ok X G (c.t.d.fact 16 (f := .glo "_law_told") rfl)
  obtain ⟨fd_law_right, F_law_right⟩ := c.t.d.def_ 17 (d := mkD "_law_right" s_law_right []) rfl
  replace F_law_right : FunD K "_law_right" "_law_right" (defArgs s_law_right) (defBody s_law_right) (defScope s_law_right) [] [] (He.ga K "_law_right") fd_law_right := F_law_right
  have g_law_right := He.glo_ok X G (c.t.d.fact 17 (f := .glo "_law_right") rfl)
  obtain ⟨fdlaw, Flaw⟩ := c.t.d.def_ 18 (d := mkD "law" slaw []) rfl
  replace Flaw : FunD K "law" "law" (defArgs slaw) (defBody slaw) (defScope slaw) [] [] (He.ga K "law") fdlaw := Flaw
  have glaw := He.glo_ok X G (c.t.d.fact 18 (f := .glo "law") rfl)
  have gBadText := He.glo_ok X G (c.t.d.fact 19 (f := .glo "BadText") rfl)
  have gBadGrammar := He.glo_ok X G (c.t.d.fact 20 (f := .glo "BadGrammar") rfl)
  have gBadRow := He.glo_ok X G (c.t.d.fact 21 (f := .glo "BadRow") rfl)
  have gNoCap := He.glo_ok X G (c.t.d.fact 22 (f := .glo "NoCap") rfl)
  have gNoGiven := He.glo_ok X G (c.t.d.fact 23 (f := .glo "NoGiven") rfl)
  have gNotLet := He.glo_ok X G (c.t.d.fact 24 (f := .glo "NotLet") rfl)
  have gNoTree := He.glo_ok X G (c.t.d.fact 25 (f := .glo "NoTree") rfl)
  have mlen := He.free_ok X G (c.t.d.fact 26 (f := .free "len") rfl)
  have mabs := He.free_ok X G (c.t.d.fact 27 (f := .free "abs") rfl)
  have mint := He.free_ok X G (c.t.d.fact 28 (f := .free "int") rfl)
  have mlist := He.free_ok X G (c.t.d.fact 29 (f := .free "list") rfl)
  have mrange := He.free_ok X G (c.t.d.fact 30 (f := .free "range") rfl)
  have menumerate := He.free_ok X G (c.t.d.fact 31 (f := .free "enumerate") rfl)
  have mmin := He.free_ok X G (c.t.d.fact 32 (f := .free "min") rfl)
  have mtuple := He.free_ok X G (c.t.d.fact 33 (f := .free "tuple") rfl)
  have mstr := He.free_ok X G (c.t.d.fact 34 (f := .free "str") rfl)
  have misinstance := He.free_ok X G (c.t.d.fact 35 (f := .free "isinstance") rfl)
  have mbool := He.free_ok X G (c.t.d.fact 36 (f := .free "bool") rfl)
  have mValueError := He.free_ok X G (c.t.d.fact 37 (f := .free "ValueError") rfl)
  have mmax := He.free_ok X G (c.t.d.fact 38 (f := .free "max") rfl)
  have mall := He.free_ok X G (c.t.d.fact 39 (f := .free "all") rfl)
  have iMOST_SIGNS := He.int_ok X G (c.t.d.fact 40 (f := .int "MOST_SIGNS" 6) rfl)
  have iMOST_PARTS := He.int_ok X G (c.t.d.fact 41 (f := .int "MOST_PARTS" 2) rfl)
  have iMOST_DEEP := He.int_ok X G (c.t.d.fact 42 (f := .int "MOST_DEEP" 30) rfl)
  have iSMALL := He.str_ok X G (c.t.d.fact 43 (f := .str "SMALL" "abcdefghijklmnopqrstuvwxyz") rfl)
  have iFIGURES := He.str_ok X G (c.t.d.fact 44 (f := .str "FIGURES" "0123456789") rfl)
  have iNO_NAME := He.str_ok X G (c.t.d.fact 45 (f := .str "NO_NAME" "own") rfl)
  have hmore := c.more
  unfold exB at hmore
  simp only [Bool.and_eq_true, decide_eq_true_eq] at hmore
  obtain ⟨⟨⟨⟨⟨⟨hOwn, hn1⟩, hk1⟩, hk2⟩, hk3⟩, hi1⟩, hi2⟩ := hmore
  obtain ⟨fdI, FI⟩ := c.t.d.def_ 19 (d := ⟨("BadText", some "__init__"), "__init__", "BadText.__init__", defArgs sBadText_init, defBody sBadText_init, defScope sBadText_init, [], []⟩) rfl
  replace FI : FunD K "__init__" "BadText.__init__" (defArgs sBadText_init) (defBody sBadText_init) (defScope sBadText_init) [] [] (He.ma K (He.ga K "BadText") "__init__") fdI := FI
  have TN := own_of hOwn
  cases hfa.symm.trans glaw
  have b := FunD.bindsA (ps := ["_law_script"]) Flaw fun _ _ _ _ _ _ us hl => match us, hl with | [_], _ => rfl
  have B : BltX mg := { len := mlen, abs := mabs, int' := mint, list := mlist, range := mrange, enumerate := menumerate, min := mmin, tuple := mtuple, str := mstr, isinstance := misinstance, bool := mbool, ValueError := mValueError, max := mmax, all := mall }
  have CN : Con mg := ⟨iSMALL, iFIGURES, iMOST_SIGNS, iMOST_PARTS, iMOST_DEEP, iNO_NAME⟩
  refine ⟨fdlaw, fun s v => b s [v] rfl, fun base _ _ => ?_⟩
  have okI : FnOk P w K mg base CX0 1 (He.ma K (He.ga K "BadText") "__init__") fdI ["self", "at"] (spInit1 (He.ga K "BadText") "at") := ok_BadText (ofD FI) mValueError TN hn1
  have bI : Binds K fdI ["self", "at"] [] := FI.bindsN (fun _ _ _ _ _ _ us hl => match us, hl with | [_, _], _ => rfl)
  have Gtake : Fq P w K mg base CX0 1 "_law_take" ["_law_box", "_law_many"] spTake := mkFq F_law_take g_law_take (fun _ _ _ _ _ _ us hl => match us, hl with | [_, _], _ => rfl) (.of (ok_take (ofD F_law_take) B.toBlt))
  have Gdip : Fq P w K mg base CX0 1 "_law_dip" ["_law_script", "_law_k"] (spDip K) := mkFq F_law_dip g_law_dip (fun _ _ _ _ _ _ us hl => match us, hl with | [_, _], _ => rfl) (.of (ok_dip (ofD F_law_dip) B.toBlt))
  have Gfolded : Fq P w K mg base CX0 1 "_law_folded" ["_law_script", "_law_size"] (spFolded K) := mkFq F_law_folded g_law_folded (fun _ _ _ _ _ _ us hl => match us, hl with | [_, _], _ => rfl) (.of (ok_folded (ofD F_law_folded) B.toBlt))
  have Gone : Fq P w K mg base CX0 2 "_law_one_of" ["_law_box", "_law_some"] (spOneOf K) := mkFq F_law_one_of g_law_one_of (fun _ _ _ _ _ _ us hl => match us, hl with | [_, _], _ => rfl) (ok_one_of F_law_one_of B.toBltT Gtake)
  have Gnum : Fq P w K mg base CX0 2 "_law_number" ["_law_box"] spNumber := mkFq F_law_number g_law_number (fun _ _ _ _ _ _ us hl => match us, hl with | [_], _ => rfl) (ok_number F_law_number Gtake)
  have Gnamed : Fq P w K mg base CX0 2 "_law_named" ["_law_box", "_law_many"] spNamed := mkFq F_law_named g_law_named (fun _ _ _ _ _ _ us hl => match us, hl with | [_, _], _ => rfl) (ok_named F_law_named B.toBltT Gtake)
  have Gwild : Fq P w K mg base CX0 33 "_law_wild" ["_law_box", "_law_names", "_law_room", "_law_deep"] (spWild K 30) := mkFq F_law_wild g_law_wild (fun _ _ _ _ _ _ us hl => match us, hl with | [_, _, _, _], _ => rfl) (wild_fn F_law_wild B.toBltT g_law_wild Gtake Gone Gnum 30)
  have Gspelled : Fq P w K mg base CX0 32 "_law_spelled" ["_law_tree"] (spSpelled K 31) := mkFq F_law_spelled g_law_spelled (fun _ _ _ _ _ _ us hl => match us, hl with | [_], _ => rfl) (spelled_fn F_law_spelled B.toBltS g_law_spelled 31 (by decide))
  have Gbad : Fq P w K mg base CX0 1 "_law_bad_at" ["_law_text"] spBad := mkFq F_law_bad_at g_law_bad_at (fun _ _ _ _ _ _ us hl => match us, hl with | [_], _ => rfl) (ok_bad F_law_bad_at B.toBltS)
  have Gbent : Fq P w K mg base CX0 2 "_law_bent" ["_law_box", "_law_text"] spBent := mkFq F_law_bent g_law_bent (fun _ _ _ _ _ _ us hl => match us, hl with | [_, _], _ => rfl) (ok_bent F_law_bent B Gtake)
  have Gsigns : Fq P w K mg base CX0 1 "signs_on" ["text", "at", "signs", "most"] spSigns := mkFq Fsigns_on gsigns_on (fun _ _ _ _ _ _ us hl => match us, hl with | [_, _, _, _], _ => rfl) (ok_signs Fsigns_on B.toBltS)
  have Gname : Fq P w K mg base (L2.CX P w) 3 "name_at" ["text", "at"] (spName (He.ga K "BadText")) := mkFq Fname_at gname_at (fun _ _ _ _ _ _ us hl => match us, hl with | [_, _], _ => rfl) (ok_name TN hi1 hi2 okI bI gBadText CN Gsigns Fname_at)
  have Gown : Fq P w K mg base (L2.CX P w) 3 "own_at" ["text", "at"] (spOwn (He.ga K "BadText")) := mkFq Fown_at gown_at (fun _ _ _ _ _ _ us hl => match us, hl with | [_, _], _ => rfl) (ok_own TN hi1 hi2 okI bI gBadText CN Gsigns Fown_at)
  have Gclosed : Fq P w K mg base CX0 1 "closed" ["node"] (spClosed K) := mkFq Fclosed gclosed (fun _ _ _ _ _ _ us hl => match us, hl with | [_], _ => rfl) (ok_closed Fclosed B.toBltS)
  have Ggoes : Fq P w K mg base (L2.CX P w) 3 "goes_on" ["text", "at", "opened", "node"] (spGoes K (He.ga K "BadText")) := mkFq Fgoes_on ggoes_on (fun _ _ _ _ _ _ us hl => match us, hl with | [_, _, _, _], _ => rfl) (ok_goes TN hi1 hi2 okI bI gBadText CN B.toBltS Gclosed Fgoes_on)
  have Gtree : Fq P w K mg base (L2.CX P w) 4 "tree_in" ["text"] (spTree K (He.ga K "BadText")) := mkFq Ftree_in gtree_in (fun _ _ _ _ _ _ us hl => match us, hl with | [_], _ => rfl) (ok_tree TN hi1 hi2 okI bI gBadText CN B.toBltS Gclosed Ftree_in Gname Gown Ggoes)
  have Gtold : Fq P w K mg base CX0 33 "_law_told" ["_law_text"] spTold := mkFq F_law_told g_law_told (fun _ _ _ _ _ _ us hl => match us, hl with | [_], _ => rfl) (ok_told F_law_told B Gtree Gspelled gBadText gBadGrammar gBadRow gNoCap gNoGiven gNotLet gNoTree TN hn1 hk1 hk2 hk3)
  have Gright : Fq P w K mg base CX0 34 "_law_right" ["_law_box"] spRight := mkFq F_law_right g_law_right (fun _ _ _ _ _ _ us hl => match us, hl with | [_], _ => rfl) (ok_right F_law_right B Gtake Gnamed Gwild Gspelled Gbent Gbad Gtold)
  exact ok_law Flaw B Gfolded Gdip Gright
end Law
open PySem PySem.W PySem.Calls PyProof.Rows
set_option maxRecDepth 100000 in
set_option maxHeartbeats 0 in
theorem PySem.Challenge.cw_threereckons_k19_texts_of_trees_spoilt_holds : PySem.Challenge.rw_threereckons_k19_texts_of_trees_spoilt.Holds := by
  w_on; o_law
  refine HandSHeadRun.head_any (r := OpenLaw.row PySem.Challenge.rw_threereckons_k19_texts_of_trees_spoilt) (q := view (OpenLaw.row PySem.Challenge.rw_threereckons_k19_texts_of_trees_spoilt).prog [35]) (H := Law.hk) (ob := Law.ob) (M := 4000) (loose := Law.loose) (d := HandSHeadRun.topDef (OpenLaw.row PySem.Challenge.rw_threereckons_k19_texts_of_trees_spoilt).prog 35) (kwd := []) Law.ob_eq
    (by kernel_rfl) (fun s => by kernel_rfl) Law.topRun (by kernel_rfl) (by kernel_rfl) (by kernel_rfl) (by rfl) (by first | assumption | decide +kernel) (by decide +kernel) ⟨rfl, rfl, rfl, rfl, rfl, by decide +kernel⟩ ?hw ?hc
  case hw => w_witness2
  case hc =>
    refine Fw.walk_ofG (l := PySem.Challenge.rw_threereckons_k19_texts_of_trees_spoilt) (n := 63) (k := 35) (x := "_law_script") rfl (by decide) (by kernel_rfl) ⟨rfl, by decide, by decide⟩ ?F
    intro w mg fa h Y G hmg0
    obtain ⟨K, KX, c⟩ := Y
    have hmg : mg ("law" : PySem.Str) = some (.ref fa) := by
      have e : (HandSHeadRun.topDef (OpenLaw.row PySem.Challenge.rw_threereckons_k19_texts_of_trees_spoilt).prog 35).name = ("law" : PySem.Str) := by kernel_rfl
      rw [← e]
      exact hmg0
    obtain ⟨fd, hb, hF⟩ := Law.facts (P := (PySem.Challenge.rw_threereckons_k19_texts_of_trees_spoilt).prog) (w := w) KX G hmg c
    exact ⟨K, fd, Law.spLaw K, KX, hb, fun H a ns hl _ hS => ⟨a, ns, rfl, hS, hl, fun _ => rfl⟩, hF⟩
