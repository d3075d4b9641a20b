import PyProof.Rows.All
import Wide.All
import OpenK.AllK
import Wide.FinOn
import HandS.ForMost
import HandS.Flow
import HandS.Style
import HandS.Wide
import HandS.TupAny
import HandS.TupMul
import HandS.Deep
import HandS.Conv
import HandS.More
import HandS.IsInst
import HandS.Walk
import HandS.MakeKwOnly
import HandS.CallLocal
import HandS.NoneIn
import KE.KUnpackStar
import PyProof.DictUpdate
import HandS.Text
import HandS.ExcInit
import HandS.ExcOwn
import HandS.ExcField
import HandS.ExcIs
import HandS.ExcBuiltin
import HandS.WordsExc
import HandS.CallSlots
import KE.KExcInit
import HandS.TryOnly
import PyProof.ExcBaseAll.LookupError
import PyProof.ExcBaseAll.IndexError
import PyProof.ExcBaseAll.RuntimeError
import PyProof.ExcBaseAll.ArithmeticError
import PyProof.ExcBaseAll.OverflowError
import PyProof.RulesRaise
import PyProof.FactsTree
import HandS.ExcInitHot
import HandS.SuiteRaise
import HandS.RaiseFrom
import HandS.Ends
import PyProof.ReprRoads
import HandS.HeadEnd
import PyProof.FitsInt
import PyProof.StrLawsRepr
import HandS.DeepEq
import HandS.Finally
import HandS.WrittenGet
import PyProof.Rows.StrStep
import PyProof.Rows.StrRev
import PyProof.Rows.StrFit
import PyProof.Rows.StrMul
import PyProof.StrBlock2
import KE.IntTextText
import KE.KIntText
import HandS.Codes
import HandS.ExcValue
import HandS.Zip
import HandS.Head0
import HandS.Head1
import HandS.Head2
import HandS.HeadHook1
import HandS.HeadHook2
import HandS.HeadHook3
import HandS.HeadHook4
import PySem.Challenge.RW_threereckons_k05_errors_and_limits
set_option Elab.async false
set_option linter.all false
set_option maxRecDepth 100000
set_option maxHeartbeats 4000000
set_option hygiene false
local macro_rules | `(tactic| walk_at "sql") => `(tactic| (first | exact SqL.of (hw.at 0 rfl) | exact SqL.of (hw.at 1 rfl) | exact SqL.of (hw.at 2 rfl) | exact SqL.of (hw.at 3 rfl) | exact SqL.of (hw.at 4 rfl) | exact SqL.of (hw.at 5 rfl) | exact SqL.of (hw.at 6 rfl) | exact SqL.of (hw.kn 0 rfl) | exact SqL.of (hw.kn 1 rfl) | exact SqL.of (hw.kn 2 rfl) | exact SqL.of (hw.kn 3 rfl) | exact SqL.of (hw.kn 4 rfl) | exact SqL.of (Rp.ints (hw.rp 0 rfl)) | exact SqL.of (Rp.ints (hw.rp 1 rfl)) | exact SqL.of (Rp.ints (hw.rp 2 rfl)) | exact SqL.of (Rp.ints (hw.rp 3 rfl)) | exact SqL.of (Rp.strs (hw.rp 0 rfl)) | exact SqL.of (Rp.strs (hw.rp 1 rfl)) | exact SqL.of (Rp.strs (hw.rp 2 rfl)) | exact SqL.of (Rp.strs (hw.rp 3 rfl)) | assumption | exact hw.sq0 (by assumption)))
local macro_rules | `(tactic| walk_at "lst") => `(tactic| (first | exact hw.at 0 rfl | exact hw.at 1 rfl | exact hw.at 2 rfl | exact hw.at 3 rfl | exact hw.at 4 rfl | exact hw.at 5 rfl | exact hw.at 6 rfl | exact hw.kn 0 rfl | exact hw.kn 1 rfl | exact hw.kn 2 rfl | exact hw.kn 3 rfl | exact hw.kn 4 rfl | exact Rp.ints (hw.rp 0 rfl) | exact Rp.ints (hw.rp 1 rfl) | exact Rp.ints (hw.rp 2 rfl) | exact Rp.ints (hw.rp 3 rfl) | exact Rp.strs (hw.rp 0 rfl) | exact Rp.strs (hw.rp 1 rfl) | exact Rp.strs (hw.rp 2 rfl) | exact Rp.strs (hw.rp 3 rfl) | assumption))
local macro_rules | `(tactic| walk_at "sqt") => `(tactic| (first | exact SqT.of (hw.at 0 rfl) | exact SqT.of (hw.at 1 rfl) | exact SqT.of (hw.at 2 rfl) | exact SqT.of (hw.at 3 rfl) | exact SqT.of (hw.at 4 rfl) | exact SqT.of (hw.at 5 rfl) | exact SqT.of (hw.at 6 rfl) | exact hw.tp 0 rfl | exact hw.tp 1 rfl | exact hw.tp 2 rfl | exact hw.tp 3 rfl | exact hw.tp 4 rfl | exact SqT.of (hw.kn 0 rfl) | exact SqT.of (hw.kn 1 rfl) | exact SqT.of (hw.kn 2 rfl) | exact SqT.of (hw.kn 3 rfl) | exact SqT.of (hw.kn 4 rfl) | assumption))
local macro_rules | `(tactic| walk_at "dd") => `(tactic| (repeat' (first | exact DdAll.nil | apply DdAll.cons | exact Dd.int _ | exact Dd.str _ | exact Dd.bl _ | exact Dd.non | exact hw.rp 0 rfl | exact hw.rp 1 rfl | exact hw.rp 2 rfl | exact hw.rp 3 rfl | exact hw.rp 4 rfl | exact hw.rp 5 rfl | exact hw.rp 6 rfl | exact hw.rp 7 rfl | exact hw.rp 8 rfl | exact hw.rp 9 rfl | exact hw.rp 10 rfl | exact hw.rp 11 rfl | exact hw.rp 12 rfl | exact hw.rp 13 rfl | assumption)))
local macro_rules | `(tactic| walk_at "nm") => `(tactic| (try simp only [List.set_cons_zero, List.set_cons_succ] at hw))
local macro_rules | `(tactic| walk_at "sx") => `(tactic| (repeat (first | ((with_reducible refine' x_var ?zzh ?_); (case zzh => rfl)) | with_reducible refine x_truB ?_ | with_reducible refine x_gSub ?_ | with_reducible refine x_made ?_ | with_reducible refine x_orT ?_ | with_reducible refine x_inSign ?_ | with_reducible refine x_fldOf ?_ | with_reducible refine x_mkO ?_ | with_reducible refine x_callNS ?_ | with_reducible refine x_callS ?_ | with_reducible refine x_bm ?_ | with_reducible refine x_bm0 ?_ | with_reducible refine x_tyS ?_ | with_reducible refine x_pairs ?_ | with_reducible refine x_pairs0 ?_ | with_reducible refine x_rev ?_ | with_reducible refine x_chain ?_ | with_reducible refine x_nx ?_ | with_reducible refine x_seq ?_ | with_reducible refine x_op ?_ | with_reducible refine x_cons ?_ | with_reducible refine x_nil ?_ | with_reducible refine x_c ?_ | with_reducible refine x_set ?_ | with_reducible refine x_ret ?_ | with_reducible refine x_rt ?_ | with_reducible refine x_cb ?_ | with_reducible refine x_call ?_ | with_reducible refine x_test ?_ | with_reducible refine x_B ?_ | with_reducible refine x_ifS ?_ | with_reducible refine x_if ?_ | with_reducible refine x_and ?_ | with_reducible refine x_or ?_ | with_reducible refine x_not ?_ | with_reducible refine x_andV ?_ | with_reducible refine x_orV ?_ | with_reducible refine x_notV ?_ | with_reducible refine x_un ?_ | with_reducible refine x_asgS ?_ | with_reducible refine x_asgT ?_ | with_reducible refine x_asgG ?_ | with_reducible refine x_drop ?_ | with_reducible refine x_next ?_ | with_reducible refine x_par ?_ | with_reducible refine x_par3 ?_ | with_reducible refine x_is2 ?_ | with_reducible refine x_is3 ?_ | with_reducible refine x_sl ?_ | with_reducible refine x_nopart ?_ | with_reducible refine x_part ?_ | with_reducible refine x_isint ?_ | with_reducible refine x_isbl ?_ | with_reducible refine x_addI ?_ | with_reducible refine x_rI0 ?_ | with_reducible refine x_rU ?_ | with_reducible refine x_isNI ?_ | with_reducible refine x_isNS ?_ | with_reducible refine x_isNB ?_ | with_reducible refine x_isNR ?_ | with_reducible refine x_isNN ?_ | with_reducible refine x_isNotNI ?_ | with_reducible refine x_isNotNS ?_ | with_reducible refine x_isNotNB ?_ | with_reducible refine x_isNotNR ?_ | with_reducible refine x_isNotNN ?_ | with_reducible refine x_eqR rfl ?_ | with_reducible refine x_neR rfl ?_ | with_reducible refine x_eqI ?_ | with_reducible refine x_neI ?_ | with_reducible refine x_eqStr ?_ | with_reducible refine x_neStr ?_ | with_reducible refine x_eqB ?_ | with_reducible refine x_neB ?_ | with_reducible refine x_isN ?_ | with_reducible refine x_isNotN ?_ | with_reducible refine x_isB ?_ | with_reducible refine x_isNotB ?_ | with_reducible refine x_minM ?_ | with_reducible refine x_maxM ?_ | with_reducible refine x_ifT ?_ | with_reducible refine x_ifF ?_ | with_reducible refine x_ifnT ?_ | with_reducible refine x_ifnF ?_ | with_reducible refine x_lst ?_ | with_reducible refine x_tup ?_ | with_reducible refine x_abs ?_ | with_reducible refine x_intI ?_ | with_reducible refine x_intB ?_ | with_reducible refine x_callN ?_ | with_reducible refine x_dget ?_ | with_reducible refine x_gName ?_ | with_reducible refine x_gCons ?_ | with_reducible refine x_gNil ?_ | with_reducible refine x_forK ?_ | with_reducible refine x_lc ?_ | with_reducible refine x_yes ?_ | with_reducible refine x_iU ?_ | with_reducible refine x_itS ?_ | with_reducible refine x_iList ?_ | with_reducible refine x_iTup ?_ | with_reducible refine x_iRng1 ?_ | with_reducible refine x_iRng2 ?_ | with_reducible refine x_iEnum ?_ | with_reducible refine x_iZip ?_ | with_reducible refine x_brk ?_ | with_reducible refine x_cont ?_ | with_reducible refine x_ct ?_ | with_reducible refine x_bk ?_ | ((with_reducible refine' x_aug ?zzh ?_); (case zzh => rfl)) | with_reducible refine x_ipI ?_ | ((with_reducible refine x_eqS ?zzh ?_); (case zzh => rfl)) | ((with_reducible refine x_neS ?zzh ?_); (case zzh => rfl)) | ((with_reducible refine x_mulI ?zzh ?_); (case zzh => first | exact .inl ⟨by omega, by omega⟩ | exact .inr ⟨by omega, by omega⟩)) | ((with_reducible refine x_rI ?zzh ?_); (case zzh => first | omega | exact ⟨by omega, by omega⟩ | exact ⟨by omega, by omega, by omega⟩)) | ((with_reducible refine' x_ixL ?zzh ?zze ?_); (case zzh => walk_at "sql"); (case zze => (first | rfl | assumption | exact atI_nat rfl | (simp; done)))) | ((with_reducible refine' x_lenL ?zzh ?_); (case zzh => walk_at "sql")) | ((with_reducible refine' w_setL hw 0 ?zzh ?zze ?_); (case zzh => rfl); (case zze => first | rfl | assumption); intro H hw; walk_at "nm") | ((with_reducible refine' w_setL hw 1 ?zzh ?zze ?_); (case zzh => rfl); (case zze => first | rfl | assumption); intro H hw; walk_at "nm") | ((with_reducible refine' w_setL hw 2 ?zzh ?zze ?_); (case zzh => rfl); (case zze => first | rfl | assumption); intro H hw; walk_at "nm") | ((with_reducible refine' w_setL hw 3 ?zzh ?zze ?_); (case zzh => rfl); (case zze => first | rfl | assumption); intro H hw; walk_at "nm") | ((with_reducible refine' w_setL hw 4 ?zzh ?zze ?_); (case zzh => rfl); (case zze => first | rfl | assumption); intro H hw; walk_at "nm") | ((with_reducible refine' w_setL hw 5 ?zzh ?zze ?_); (case zzh => rfl); (case zze => first | rfl | assumption); intro H hw; walk_at "nm") | ((with_reducible refine w_lst hw (by first | exact szl rfl | assumption) ?_); intro p H hp hw) | ((with_reducible refine w_tupC hw (by first | exact szl rfl | assumption) ?_); intro p H hp hw) | ((with_reducible refine' x_inT ?zzh ?zze ?zze2 ?_); (case zzh => walk_at "sqt"); (case zze => rfl); (case zze2 => rfl)) | ((with_reducible refine' x_inL ?zzh ?zze ?zze2 ?_); (case zzh => walk_at "sql"); (case zze => rfl); (case zze2 => rfl)) | ((with_reducible refine' x_notInT ?zzh ?zze ?zze2 ?_); (case zzh => walk_at "sqt"); (case zze => rfl); (case zze2 => rfl)) | ((with_reducible refine' x_notInL ?zzh ?zze ?zze2 ?_); (case zzh => walk_at "sql"); (case zze => rfl); (case zze2 => rfl)) | ((with_reducible refine' x_ixT ?zzh ?zze ?_); (case zzh => walk_at "sqt"); (case zze => (first | rfl | assumption | exact atI_nat rfl | (simp; done)))) | ((with_reducible refine' w_slL hw ?zzh ?_); (case zzh => walk_at "sql"); intro p H hp hw) | ((with_reducible refine' w_listL hw ?zzh ?_); (case zzh => walk_at "sql"); intro p H hp hw) | ((with_reducible refine' x_itL ?zzh ?_); (case zzh => walk_at "sql")) | ((with_reducible refine' x_itT ?zzh ?_); (case zzh => walk_at "sqt")) | ((with_reducible refine' x_iL ?zzh ?_); (case zzh => walk_at "sql")) | ((with_reducible refine' x_en ?zzh ?_); (case zzh => walk_at "sql")) | ((with_reducible refine x_rng1 ?zzh1 ?zzh2 ?_); (case zzh1 => first | omega | (simp only [List.length_map]; omega)); (case zzh2 => first | omega | (simp only [List.length_map]; omega))) | ((with_reducible refine x_rng2 ?zzh ?_); (case zzh => first | exact ⟨by omega, by omega, by omega, by omega⟩)) | ((with_reducible refine' x_gTup ?zzh ?zze ?_); (case zzh => walk_at "sqt"); (case zze => rfl)) | (with_reducible refine x_wipe rfl ?_) | ((with_reducible refine' w_app hw 0 ?zzh ?zze ?_); (case zzh => rfl); (case zze => first | (refine sz_lt ?_; simp; done) | (refine sz_lt ?_; simp; omega) | assumption); intro H hw; walk_at "nm") | ((with_reducible refine' w_app hw 1 ?zzh ?zze ?_); (case zzh => rfl); (case zze => first | (refine sz_lt ?_; simp; done) | (refine sz_lt ?_; simp; omega) | assumption); intro H hw; walk_at "nm") | ((with_reducible refine' w_app hw 2 ?zzh ?zze ?_); (case zzh => rfl); (case zze => first | (refine sz_lt ?_; simp; done) | (refine sz_lt ?_; simp; omega) | assumption); intro H hw; walk_at "nm") | ((with_reducible refine' w_app hw 3 ?zzh ?zze ?_); (case zzh => rfl); (case zze => first | (refine sz_lt ?_; simp; done) | (refine sz_lt ?_; simp; omega) | assumption); intro H hw; walk_at "nm") | ((with_reducible refine' w_app hw 4 ?zzh ?zze ?_); (case zzh => rfl); (case zze => first | (refine sz_lt ?_; simp; done) | (refine sz_lt ?_; simp; omega) | assumption); intro H hw; walk_at "nm") | ((with_reducible refine' x_callL ?zzh ?_); (case zzh => rfl)) | (with_reducible refine x_lens rfl rfl ?_) | ((with_reducible refine' x_sum ?zzh ?_); (case zzh => walk_at "sql")) | ((with_reducible refine' x_gU2 ?zzh ?_); (case zzh => walk_at "sql")) | ((with_reducible refine' x_gU3 ?zzh ?_); (case zzh => walk_at "sql")) | ((with_reducible refine' x_gStL1 hw ?zzh ?zze ?_); (case zzh => walk_at "sql"); (case zze => simp); intro p H hp hw) | ((with_reducible refine' x_take hw 0 ?zzh ?zzbx ?zze ?zze2 ?zze3 ?_); (case zzh => rfl); (case zzbx => assumption); (case zze => omega); (case zze2 => omega); (case zze3 => omega); intro r a c H hr0 hr1 bx hcc hw; walk_at "nm") | ((with_reducible refine' x_take hw 1 ?zzh ?zzbx ?zze ?zze2 ?zze3 ?_); (case zzh => rfl); (case zzbx => assumption); (case zze => omega); (case zze2 => omega); (case zze3 => omega); intro r a c H hr0 hr1 bx hcc hw; walk_at "nm") | ((with_reducible refine' x_take hw 2 ?zzh ?zzbx ?zze ?zze2 ?zze3 ?_); (case zzh => rfl); (case zzbx => assumption); (case zze => omega); (case zze2 => omega); (case zze3 => omega); intro r a c H hr0 hr1 bx hcc hw; walk_at "nm") | ((with_reducible refine' x_take hw 3 ?zzh ?zzbx ?zze ?zze2 ?zze3 ?_); (case zzh => rfl); (case zzbx => assumption); (case zze => omega); (case zze2 => omega); (case zze3 => omega); intro r a c H hr0 hr1 bx hcc hw; walk_at "nm") | ((with_reducible refine' x_take hw 4 ?zzh ?zzbx ?zze ?zze2 ?zze3 ?_); (case zzh => rfl); (case zzbx => assumption); (case zze => omega); (case zze2 => omega); (case zze3 => omega); intro r a c H hr0 hr1 bx hcc hw; walk_at "nm") | ((with_reducible refine' w_cat hw ?zzh1 ?zzh2 ?zze ?_); (case zzh1 => walk_at "lst"); (case zzh2 => walk_at "lst"); (case zze => first | exact szl rfl | (simp; omega)); intro p H hp hw) | ((with_reducible refine' w_rev hw ?zzh ?_); (case zzh => walk_at "sql"); intro p H hp hw) | ((with_reducible refine' w_disp hw ?_); intro p H hp hw) | ((with_reducible refine w_made hw ?_); intro v H hw) | ((with_reducible refine' w_dispEnd hw 0 ?zzh ?zze ?zze2 ?_); (case zzh => rfl); (case zze => rfl); (case zze2 => exact Nat.le_of_ble_eq_true rfl); intro H hw; walk_at "nm") | ((with_reducible refine' w_dispEnd hw 1 ?zzh ?zze ?zze2 ?_); (case zzh => rfl); (case zze => rfl); (case zze2 => exact Nat.le_of_ble_eq_true rfl); intro H hw; walk_at "nm") | ((with_reducible refine' w_dispEnd hw 2 ?zzh ?zze ?zze2 ?_); (case zzh => rfl); (case zze => rfl); (case zze2 => exact Nat.le_of_ble_eq_true rfl); intro H hw; walk_at "nm") | ((with_reducible refine' w_dispEnd hw 3 ?zzh ?zze ?zze2 ?_); (case zzh => rfl); (case zze => rfl); (case zze2 => exact Nat.le_of_ble_eq_true rfl); intro H hw; walk_at "nm") | ((with_reducible refine' w_update (n := 1) (m := 0) hw ?zzh ?zzh2 (by decide) ?zze ?_); (case zzh => rfl); (case zzh2 => rfl); (case zze => exact Nat.le_of_ble_eq_true rfl); intro H hw; walk_at "nm") | ((with_reducible refine' w_update (n := 0) (m := 1) hw ?zzh ?zzh2 (by decide) ?zze ?_); (case zzh => rfl); (case zzh2 => rfl); (case zze => exact Nat.le_of_ble_eq_true rfl); intro H hw; walk_at "nm") | ((with_reducible refine' w_update (n := 2) (m := 0) hw ?zzh ?zzh2 (by decide) ?zze ?_); (case zzh => rfl); (case zzh2 => rfl); (case zze => exact Nat.le_of_ble_eq_true rfl); intro H hw; walk_at "nm") | (with_reducible refine x_isiI (b := true) (by decide +kernel) ?_) | (with_reducible refine x_isiB (b := true) (by decide +kernel) ?_) | (with_reducible refine x_isiS (b := true) (by decide +kernel) ?_) | (with_reducible refine x_isiN (b := true) (by decide +kernel) ?_) | (with_reducible refine x_isiI (b := false) (by decide +kernel) ?_) | (with_reducible refine x_isiB (b := false) (by decide +kernel) ?_) | (with_reducible refine x_isiS (b := false) (by decide +kernel) ?_) | (with_reducible refine x_isiN (b := false) (by decide +kernel) ?_) | ((with_reducible refine' x_eqIL ?zzh1 ?zzh2 ?_); (case zzh1 => walk_at "lst"); (case zzh2 => walk_at "lst")) | ((with_reducible refine' x_neIL ?zzh1 ?zzh2 ?_); (case zzh1 => walk_at "lst"); (case zzh2 => walk_at "lst")) | ((with_reducible refine' x_tyL ?zzh ?_); (case zzh => walk_at "lst")) | ((with_reducible refine' x_tyD ?zzh ?_); (case zzh => walk_at "lst")) | ((with_reducible refine' w_append (n := 0) hw ?zzh ?zze ?_); (case zzh => rfl); (case zze => first | (refine sz_lt ?_; simp; done) | (refine sz_lt ?_; simp; omega) | assumption); intro H hw; walk_at "nm") | ((with_reducible refine' w_append (n := 1) hw ?zzh ?zze ?_); (case zzh => rfl); (case zze => first | (refine sz_lt ?_; simp; done) | (refine sz_lt ?_; simp; omega) | assumption); intro H hw; walk_at "nm") | ((with_reducible refine' w_append (n := 2) hw ?zzh ?zze ?_); (case zzh => rfl); (case zze => first | (refine sz_lt ?_; simp; done) | (refine sz_lt ?_; simp; omega) | assumption); intro H hw; walk_at "nm") | ((with_reducible refine' w_append (n := 3) hw ?zzh ?zze ?_); (case zzh => rfl); (case zze => first | (refine sz_lt ?_; simp; done) | (refine sz_lt ?_; simp; omega) | assumption); intro H hw; walk_at "nm") | ((with_reducible refine' x_dgetS ?zzh ?zze ?_); (case zzh => walk_at "lst"); (case zze => rfl)) | ((with_reducible refine x_ifP (by first | omega | exact rfl) ?_)) | ((with_reducible refine x_ifN (by omega) ?_)) | ((with_reducible refine x_ifnP (by first | omega | exact rfl) ?_)) | ((with_reducible refine x_ifnN (by omega) ?_)) | (with_reducible refine x_ifbT (by decide +kernel) ?_) | (with_reducible refine x_ifbF (by decide +kernel) ?_))))
local macro_rules | `(tactic| walk_at "sxd") => `(tactic| (repeat (first | ((with_reducible refine' x_var ?zzh ?_); (case zzh => rfl)) | with_reducible refine x_truB ?_ | with_reducible refine x_gSub ?_ | with_reducible refine x_made ?_ | with_reducible refine x_orT ?_ | with_reducible refine x_inSign ?_ | with_reducible refine x_fldOf ?_ | with_reducible refine x_mkO ?_ | with_reducible refine x_callNS ?_ | with_reducible refine x_callS ?_ | with_reducible refine x_bm ?_ | with_reducible refine x_bm0 ?_ | with_reducible refine x_tyS ?_ | with_reducible refine x_pairs ?_ | with_reducible refine x_pairs0 ?_ | with_reducible refine x_rev ?_ | with_reducible refine x_chain ?_ | with_reducible refine x_nx ?_ | with_reducible refine x_seq ?_ | with_reducible refine x_op ?_ | with_reducible refine x_cons ?_ | with_reducible refine x_nil ?_ | with_reducible refine x_c ?_ | with_reducible refine x_set ?_ | with_reducible refine x_ret ?_ | with_reducible refine x_rt ?_ | with_reducible refine x_cb ?_ | with_reducible refine x_call ?_ | with_reducible refine x_test ?_ | with_reducible refine x_B ?_ | with_reducible refine x_ifS ?_ | with_reducible refine x_if ?_ | with_reducible refine x_and ?_ | with_reducible refine x_or ?_ | with_reducible refine x_not ?_ | with_reducible refine x_andV ?_ | with_reducible refine x_orV ?_ | with_reducible refine x_notV ?_ | with_reducible refine x_un ?_ | with_reducible refine x_asgS ?_ | with_reducible refine x_asgT ?_ | with_reducible refine x_asgG ?_ | with_reducible refine x_drop ?_ | with_reducible refine x_next ?_ | with_reducible refine x_par ?_ | with_reducible refine x_par3 ?_ | with_reducible refine x_is2 ?_ | with_reducible refine x_is3 ?_ | with_reducible refine x_sl ?_ | with_reducible refine x_nopart ?_ | with_reducible refine x_part ?_ | with_reducible refine x_isint ?_ | with_reducible refine x_isbl ?_ | with_reducible refine x_addI ?_ | with_reducible refine x_rI0 ?_ | with_reducible refine x_rU ?_ | with_reducible refine x_isNI ?_ | with_reducible refine x_isNS ?_ | with_reducible refine x_isNB ?_ | with_reducible refine x_isNR ?_ | with_reducible refine x_isNN ?_ | with_reducible refine x_isNotNI ?_ | with_reducible refine x_isNotNS ?_ | with_reducible refine x_isNotNB ?_ | with_reducible refine x_isNotNR ?_ | with_reducible refine x_isNotNN ?_ | with_reducible refine x_eqR rfl ?_ | with_reducible refine x_neR rfl ?_ | with_reducible refine x_eqI ?_ | with_reducible refine x_neI ?_ | with_reducible refine x_eqStr ?_ | with_reducible refine x_neStr ?_ | with_reducible refine x_eqB ?_ | with_reducible refine x_neB ?_ | with_reducible refine x_isN ?_ | with_reducible refine x_isNotN ?_ | with_reducible refine x_isB ?_ | with_reducible refine x_isNotB ?_ | with_reducible refine x_minM ?_ | with_reducible refine x_maxM ?_ | with_reducible refine x_ifT ?_ | with_reducible refine x_ifF ?_ | with_reducible refine x_ifnT ?_ | with_reducible refine x_ifnF ?_ | with_reducible refine x_lst ?_ | with_reducible refine x_tup ?_ | with_reducible refine x_abs ?_ | with_reducible refine x_intI ?_ | with_reducible refine x_intB ?_ | with_reducible refine x_callN ?_ | with_reducible refine x_dget ?_ | with_reducible refine x_gName ?_ | with_reducible refine x_gCons ?_ | with_reducible refine x_gNil ?_ | with_reducible refine x_forK ?_ | with_reducible refine x_lc ?_ | with_reducible refine x_yes ?_ | with_reducible refine x_iU ?_ | with_reducible refine x_itS ?_ | with_reducible refine x_iList ?_ | with_reducible refine x_iTup ?_ | with_reducible refine x_iRng1 ?_ | with_reducible refine x_iRng2 ?_ | with_reducible refine x_iEnum ?_ | with_reducible refine x_iZip ?_ | with_reducible refine x_brk ?_ | with_reducible refine x_cont ?_ | with_reducible refine x_ct ?_ | with_reducible refine x_bk ?_ | ((with_reducible refine' x_aug ?zzh ?_); (case zzh => rfl)) | with_reducible refine x_ipI ?_ | ((with_reducible refine x_eqS ?zzh ?_); (case zzh => rfl)) | ((with_reducible refine x_neS ?zzh ?_); (case zzh => rfl)) | ((with_reducible refine x_mulI ?zzh ?_); (case zzh => first | exact .inl ⟨by omega, by omega⟩ | exact .inr ⟨by omega, by omega⟩)) | ((with_reducible refine x_rI ?zzh ?_); (case zzh => first | omega | exact ⟨by omega, by omega⟩ | exact ⟨by omega, by omega, by omega⟩)) | ((with_reducible refine' x_ixL ?zzh ?zze ?_); (case zzh => walk_at "sql"); (case zze => (first | rfl | assumption | exact atI_nat rfl | (simp; done)))) | ((with_reducible refine' x_lenL ?zzh ?_); (case zzh => walk_at "sql")) | ((with_reducible refine' w_setL hw 0 ?zzh ?zze ?_); (case zzh => rfl); (case zze => first | rfl | assumption); intro H hw; walk_at "nm") | ((with_reducible refine' w_setL hw 1 ?zzh ?zze ?_); (case zzh => rfl); (case zze => first | rfl | assumption); intro H hw; walk_at "nm") | ((with_reducible refine' w_setL hw 2 ?zzh ?zze ?_); (case zzh => rfl); (case zze => first | rfl | assumption); intro H hw; walk_at "nm") | ((with_reducible refine' w_setL hw 3 ?zzh ?zze ?_); (case zzh => rfl); (case zze => first | rfl | assumption); intro H hw; walk_at "nm") | ((with_reducible refine' w_setL hw 4 ?zzh ?zze ?_); (case zzh => rfl); (case zze => first | rfl | assumption); intro H hw; walk_at "nm") | ((with_reducible refine' w_setL hw 5 ?zzh ?zze ?_); (case zzh => rfl); (case zze => first | rfl | assumption); intro H hw; walk_at "nm") | ((with_reducible refine' w_lstD hw ?zzd ?zze ?_); (case zzd => walk_at "dd"); (case zze => exact szl rfl); intro p H hp hw) | ((with_reducible refine' w_tupD hw ?zzd ?zze ?_); (case zzd => walk_at "dd"); (case zze => exact szl rfl); intro p H hp hw) | ((with_reducible refine' x_inT ?zzh ?zze ?zze2 ?_); (case zzh => walk_at "sqt"); (case zze => rfl); (case zze2 => rfl)) | ((with_reducible refine' x_inL ?zzh ?zze ?zze2 ?_); (case zzh => walk_at "sql"); (case zze => rfl); (case zze2 => rfl)) | ((with_reducible refine' x_notInT ?zzh ?zze ?zze2 ?_); (case zzh => walk_at "sqt"); (case zze => rfl); (case zze2 => rfl)) | ((with_reducible refine' x_notInL ?zzh ?zze ?zze2 ?_); (case zzh => walk_at "sql"); (case zze => rfl); (case zze2 => rfl)) | ((with_reducible refine' x_ixT ?zzh ?zze ?_); (case zzh => walk_at "sqt"); (case zze => (first | rfl | assumption | exact atI_nat rfl | (simp; done)))) | ((with_reducible refine' w_slL hw ?zzh ?_); (case zzh => walk_at "sql"); intro p H hp hw) | ((with_reducible refine' w_listL hw ?zzh ?_); (case zzh => walk_at "sql"); intro p H hp hw) | ((with_reducible refine' x_itL ?zzh ?_); (case zzh => walk_at "sql")) | ((with_reducible refine' x_itT ?zzh ?_); (case zzh => walk_at "sqt")) | ((with_reducible refine' x_iL ?zzh ?_); (case zzh => walk_at "sql")) | ((with_reducible refine' x_en ?zzh ?_); (case zzh => walk_at "sql")) | ((with_reducible refine x_rng1 ?zzh1 ?zzh2 ?_); (case zzh1 => first | omega | (simp only [List.length_map]; omega)); (case zzh2 => first | omega | (simp only [List.length_map]; omega))) | ((with_reducible refine x_rng2 ?zzh ?_); (case zzh => first | exact ⟨by omega, by omega, by omega, by omega⟩)) | ((with_reducible refine' x_gTup ?zzh ?zze ?_); (case zzh => walk_at "sqt"); (case zze => rfl)) | (with_reducible refine x_wipe rfl ?_) | ((with_reducible refine' w_app hw 0 ?zzh ?zze ?_); (case zzh => rfl); (case zze => first | (refine sz_lt ?_; simp; done) | (refine sz_lt ?_; simp; omega) | assumption); intro H hw; walk_at "nm") | ((with_reducible refine' w_app hw 1 ?zzh ?zze ?_); (case zzh => rfl); (case zze => first | (refine sz_lt ?_; simp; done) | (refine sz_lt ?_; simp; omega) | assumption); intro H hw; walk_at "nm") | ((with_reducible refine' w_app hw 2 ?zzh ?zze ?_); (case zzh => rfl); (case zze => first | (refine sz_lt ?_; simp; done) | (refine sz_lt ?_; simp; omega) | assumption); intro H hw; walk_at "nm") | ((with_reducible refine' w_app hw 3 ?zzh ?zze ?_); (case zzh => rfl); (case zze => first | (refine sz_lt ?_; simp; done) | (refine sz_lt ?_; simp; omega) | assumption); intro H hw; walk_at "nm") | ((with_reducible refine' w_app hw 4 ?zzh ?zze ?_); (case zzh => rfl); (case zze => first | (refine sz_lt ?_; simp; done) | (refine sz_lt ?_; simp; omega) | assumption); intro H hw; walk_at "nm") | ((with_reducible refine' x_callL ?zzh ?_); (case zzh => rfl)) | (with_reducible refine x_lens rfl rfl ?_) | ((with_reducible refine' x_sum ?zzh ?_); (case zzh => walk_at "sql")) | ((with_reducible refine' x_gU2 ?zzh ?_); (case zzh => walk_at "sql")) | ((with_reducible refine' x_gU3 ?zzh ?_); (case zzh => walk_at "sql")) | ((with_reducible refine' x_gStL1 hw ?zzh ?zze ?_); (case zzh => walk_at "sql"); (case zze => simp); intro p H hp hw) | ((with_reducible refine' x_take hw 0 ?zzh ?zzbx ?zze ?zze2 ?zze3 ?_); (case zzh => rfl); (case zzbx => assumption); (case zze => omega); (case zze2 => omega); (case zze3 => omega); intro r a c H hr0 hr1 bx hcc hw; walk_at "nm") | ((with_reducible refine' x_take hw 1 ?zzh ?zzbx ?zze ?zze2 ?zze3 ?_); (case zzh => rfl); (case zzbx => assumption); (case zze => omega); (case zze2 => omega); (case zze3 => omega); intro r a c H hr0 hr1 bx hcc hw; walk_at "nm") | ((with_reducible refine' x_take hw 2 ?zzh ?zzbx ?zze ?zze2 ?zze3 ?_); (case zzh => rfl); (case zzbx => assumption); (case zze => omega); (case zze2 => omega); (case zze3 => omega); intro r a c H hr0 hr1 bx hcc hw; walk_at "nm") | ((with_reducible refine' x_take hw 3 ?zzh ?zzbx ?zze ?zze2 ?zze3 ?_); (case zzh => rfl); (case zzbx => assumption); (case zze => omega); (case zze2 => omega); (case zze3 => omega); intro r a c H hr0 hr1 bx hcc hw; walk_at "nm") | ((with_reducible refine' x_take hw 4 ?zzh ?zzbx ?zze ?zze2 ?zze3 ?_); (case zzh => rfl); (case zzbx => assumption); (case zze => omega); (case zze2 => omega); (case zze3 => omega); intro r a c H hr0 hr1 bx hcc hw; walk_at "nm") | ((with_reducible refine' w_catD hw ?zzh1 ?zzh2 ?zze ?_); (case zzh1 => walk_at "dd"); (case zzh2 => walk_at "dd"); (case zze => exact szl rfl); intro p H hp hw) | ((with_reducible refine' w_cat hw ?zzh1 ?zzh2 ?zze ?_); (case zzh1 => walk_at "lst"); (case zzh2 => walk_at "lst"); (case zze => first | exact szl rfl | (simp; omega)); intro p H hp hw) | ((with_reducible refine' w_rev hw ?zzh ?_); (case zzh => walk_at "sql"); intro p H hp hw) | ((with_reducible refine' w_disp hw ?_); intro p H hp hw) | ((with_reducible refine w_made hw ?_); intro v H hw) | ((with_reducible refine' w_dispEnd hw 0 ?zzh ?zze ?zze2 ?_); (case zzh => rfl); (case zze => rfl); (case zze2 => exact Nat.le_of_ble_eq_true rfl); intro H hw; walk_at "nm") | ((with_reducible refine' w_dispEnd hw 1 ?zzh ?zze ?zze2 ?_); (case zzh => rfl); (case zze => rfl); (case zze2 => exact Nat.le_of_ble_eq_true rfl); intro H hw; walk_at "nm") | ((with_reducible refine' w_dispEnd hw 2 ?zzh ?zze ?zze2 ?_); (case zzh => rfl); (case zze => rfl); (case zze2 => exact Nat.le_of_ble_eq_true rfl); intro H hw; walk_at "nm") | ((with_reducible refine' w_dispEnd hw 3 ?zzh ?zze ?zze2 ?_); (case zzh => rfl); (case zze => rfl); (case zze2 => exact Nat.le_of_ble_eq_true rfl); intro H hw; walk_at "nm") | ((with_reducible refine' w_update (n := 1) (m := 0) hw ?zzh ?zzh2 (by decide) ?zze ?_); (case zzh => rfl); (case zzh2 => rfl); (case zze => exact Nat.le_of_ble_eq_true rfl); intro H hw; walk_at "nm") | ((with_reducible refine' w_update (n := 0) (m := 1) hw ?zzh ?zzh2 (by decide) ?zze ?_); (case zzh => rfl); (case zzh2 => rfl); (case zze => exact Nat.le_of_ble_eq_true rfl); intro H hw; walk_at "nm") | ((with_reducible refine' w_update (n := 2) (m := 0) hw ?zzh ?zzh2 (by decide) ?zze ?_); (case zzh => rfl); (case zzh2 => rfl); (case zze => exact Nat.le_of_ble_eq_true rfl); intro H hw; walk_at "nm") | (with_reducible refine x_isiI (b := true) (by decide +kernel) ?_) | (with_reducible refine x_isiB (b := true) (by decide +kernel) ?_) | (with_reducible refine x_isiS (b := true) (by decide +kernel) ?_) | (with_reducible refine x_isiN (b := true) (by decide +kernel) ?_) | (with_reducible refine x_isiI (b := false) (by decide +kernel) ?_) | (with_reducible refine x_isiB (b := false) (by decide +kernel) ?_) | (with_reducible refine x_isiS (b := false) (by decide +kernel) ?_) | (with_reducible refine x_isiN (b := false) (by decide +kernel) ?_) | ((with_reducible refine' x_eqIL ?zzh1 ?zzh2 ?_); (case zzh1 => walk_at "lst"); (case zzh2 => walk_at "lst")) | ((with_reducible refine' x_neIL ?zzh1 ?zzh2 ?_); (case zzh1 => walk_at "lst"); (case zzh2 => walk_at "lst")) | ((with_reducible refine' x_tyL ?zzh ?_); (case zzh => walk_at "lst")) | ((with_reducible refine' x_tyD ?zzh ?_); (case zzh => walk_at "lst")) | ((with_reducible refine' w_append (n := 0) hw ?zzh ?zze ?_); (case zzh => rfl); (case zze => first | (refine sz_lt ?_; simp; done) | (refine sz_lt ?_; simp; omega) | assumption); intro H hw; walk_at "nm") | ((with_reducible refine' w_append (n := 1) hw ?zzh ?zze ?_); (case zzh => rfl); (case zze => first | (refine sz_lt ?_; simp; done) | (refine sz_lt ?_; simp; omega) | assumption); intro H hw; walk_at "nm") | ((with_reducible refine' w_append (n := 2) hw ?zzh ?zze ?_); (case zzh => rfl); (case zze => first | (refine sz_lt ?_; simp; done) | (refine sz_lt ?_; simp; omega) | assumption); intro H hw; walk_at "nm") | ((with_reducible refine' w_append (n := 3) hw ?zzh ?zze ?_); (case zzh => rfl); (case zze => first | (refine sz_lt ?_; simp; done) | (refine sz_lt ?_; simp; omega) | assumption); intro H hw; walk_at "nm") | ((with_reducible refine' x_dgetS ?zzh ?zze ?_); (case zzh => walk_at "lst"); (case zze => rfl)) | ((with_reducible refine x_ifP (by first | omega | exact rfl) ?_)) | ((with_reducible refine x_ifN (by omega) ?_)) | ((with_reducible refine x_ifnP (by first | omega | exact rfl) ?_)) | ((with_reducible refine x_ifnN (by omega) ?_)) | (with_reducible refine x_ifbT (by decide +kernel) ?_) | (with_reducible refine x_ifbF (by decide +kernel) ?_))))
local macro_rules | `(tactic| walk_at "sxp") => `(tactic| (repeat (first | ((with_reducible refine' x_var ?zzh ?_); (case zzh => rfl)) | with_reducible refine x_truB ?_ | with_reducible refine x_gSub ?_ | with_reducible refine x_made ?_ | with_reducible refine x_orT ?_ | with_reducible refine x_inSign ?_ | with_reducible refine x_fldOf ?_ | with_reducible refine x_mkO ?_ | with_reducible refine x_callNS ?_ | with_reducible refine x_callS ?_ | with_reducible refine x_bm ?_ | with_reducible refine x_bm0 ?_ | with_reducible refine x_tyS ?_ | with_reducible refine x_pairs ?_ | with_reducible refine x_pairs0 ?_ | with_reducible refine x_rev ?_ | with_reducible refine x_chain ?_ | with_reducible refine x_nx ?_ | with_reducible refine x_seq ?_ | with_reducible refine x_op ?_ | with_reducible refine x_cons ?_ | with_reducible refine x_nil ?_ | with_reducible refine x_c ?_ | with_reducible refine x_set ?_ | with_reducible refine x_ret ?_ | with_reducible refine x_rt ?_ | with_reducible refine x_cb ?_ | with_reducible refine x_call ?_ | with_reducible refine x_test ?_ | with_reducible refine x_B ?_ | with_reducible refine x_ifS ?_ | with_reducible refine x_if ?_ | with_reducible refine x_and ?_ | with_reducible refine x_or ?_ | with_reducible refine x_not ?_ | with_reducible refine x_andV ?_ | with_reducible refine x_orV ?_ | with_reducible refine x_notV ?_ | with_reducible refine x_un ?_ | with_reducible refine x_asgS ?_ | with_reducible refine x_asgT ?_ | with_reducible refine x_asgG ?_ | with_reducible refine x_drop ?_ | with_reducible refine x_next ?_ | with_reducible refine x_par ?_ | with_reducible refine x_par3 ?_ | with_reducible refine x_is2 ?_ | with_reducible refine x_is3 ?_ | with_reducible refine x_sl ?_ | with_reducible refine x_nopart ?_ | with_reducible refine x_part ?_ | with_reducible refine x_isint ?_ | with_reducible refine x_isbl ?_ | with_reducible refine x_addI ?_ | with_reducible refine x_rI0 ?_ | with_reducible refine x_rU ?_ | with_reducible refine x_isNI ?_ | with_reducible refine x_isNS ?_ | with_reducible refine x_isNB ?_ | with_reducible refine x_isNR ?_ | with_reducible refine x_isNN ?_ | with_reducible refine x_isNotNI ?_ | with_reducible refine x_isNotNS ?_ | with_reducible refine x_isNotNB ?_ | with_reducible refine x_isNotNR ?_ | with_reducible refine x_isNotNN ?_ | with_reducible refine x_eqR rfl ?_ | with_reducible refine x_neR rfl ?_ | with_reducible refine x_eqI ?_ | with_reducible refine x_neI ?_ | with_reducible refine x_eqStr ?_ | with_reducible refine x_neStr ?_ | with_reducible refine x_eqB ?_ | with_reducible refine x_neB ?_ | with_reducible refine x_isN ?_ | with_reducible refine x_isNotN ?_ | with_reducible refine x_isB ?_ | with_reducible refine x_isNotB ?_ | with_reducible refine x_minM ?_ | with_reducible refine x_maxM ?_ | with_reducible refine x_ifT ?_ | with_reducible refine x_ifF ?_ | with_reducible refine x_ifnT ?_ | with_reducible refine x_ifnF ?_ | with_reducible refine x_lst ?_ | with_reducible refine x_tup ?_ | with_reducible refine x_abs ?_ | with_reducible refine x_intI ?_ | with_reducible refine x_intB ?_ | with_reducible refine x_callN ?_ | with_reducible refine x_dget ?_ | with_reducible refine x_gName ?_ | with_reducible refine x_gCons ?_ | with_reducible refine x_gNil ?_ | with_reducible refine x_forK ?_ | with_reducible refine x_lc ?_ | with_reducible refine x_yes ?_ | with_reducible refine x_iU ?_ | with_reducible refine x_itS ?_ | with_reducible refine x_iList ?_ | with_reducible refine x_iTup ?_ | with_reducible refine x_iRng1 ?_ | with_reducible refine x_iRng2 ?_ | with_reducible refine x_iEnum ?_ | with_reducible refine x_iZip ?_ | with_reducible refine x_brk ?_ | with_reducible refine x_cont ?_ | with_reducible refine x_ct ?_ | with_reducible refine x_bk ?_ | ((with_reducible refine' x_aug ?zzh ?_); (case zzh => rfl)) | with_reducible refine x_ipI ?_ | ((with_reducible refine x_eqS ?zzh ?_); (case zzh => rfl)) | ((with_reducible refine x_neS ?zzh ?_); (case zzh => rfl)) | ((with_reducible refine x_mulI ?zzh ?_); (case zzh => first | exact .inl ⟨by omega, by omega⟩ | exact .inr ⟨by omega, by omega⟩)) | ((with_reducible refine x_rI ?zzh ?_); (case zzh => first | omega | exact ⟨by omega, by omega⟩ | exact ⟨by omega, by omega, by omega⟩)) | ((with_reducible refine' x_ixL ?zzh ?zze ?_); (case zzh => walk_at "sql"); (case zze => (first | rfl | assumption | exact atI_nat rfl | (simp; done)))) | ((with_reducible refine' x_lenL ?zzh ?_); (case zzh => walk_at "sql")) | ((with_reducible refine' w_setL hw 0 ?zzh ?zze ?_); (case zzh => rfl); (case zze => first | rfl | assumption); intro H hw; walk_at "nm") | ((with_reducible refine' w_setL hw 1 ?zzh ?zze ?_); (case zzh => rfl); (case zze => first | rfl | assumption); intro H hw; walk_at "nm") | ((with_reducible refine' w_setL hw 2 ?zzh ?zze ?_); (case zzh => rfl); (case zze => first | rfl | assumption); intro H hw; walk_at "nm") | ((with_reducible refine' w_setL hw 3 ?zzh ?zze ?_); (case zzh => rfl); (case zze => first | rfl | assumption); intro H hw; walk_at "nm") | ((with_reducible refine' w_setL hw 4 ?zzh ?zze ?_); (case zzh => rfl); (case zze => first | rfl | assumption); intro H hw; walk_at "nm") | ((with_reducible refine' w_setL hw 5 ?zzh ?zze ?_); (case zzh => rfl); (case zze => first | rfl | assumption); intro H hw; walk_at "nm") | ((with_reducible refine w_lst hw (by first | exact szl rfl | assumption) ?_); intro p H hp hw) | ((with_reducible refine w_tupC hw (by first | exact szl rfl | assumption) ?_); intro p H hp hw) | ((with_reducible refine' x_inT ?zzh ?zze ?zze2 ?_); (case zzh => walk_at "sqt"); (case zze => rfl); (case zze2 => rfl)) | ((with_reducible refine' x_inL ?zzh ?zze ?zze2 ?_); (case zzh => walk_at "sql"); (case zze => rfl); (case zze2 => rfl)) | ((with_reducible refine' x_notInT ?zzh ?zze ?zze2 ?_); (case zzh => walk_at "sqt"); (case zze => rfl); (case zze2 => rfl)) | ((with_reducible refine' x_notInL ?zzh ?zze ?zze2 ?_); (case zzh => walk_at "sql"); (case zze => rfl); (case zze2 => rfl)) | ((with_reducible refine' x_ixT ?zzh ?zze ?_); (case zzh => walk_at "sqt"); (case zze => (first | rfl | assumption | exact atI_nat rfl | (simp; done)))) | ((with_reducible refine' w_slL hw ?zzh ?_); (case zzh => walk_at "sql"); intro p H hp hw) | ((with_reducible refine' w_listL hw ?zzh ?_); (case zzh => walk_at "sql"); intro p H hp hw) | ((with_reducible refine' x_itL ?zzh ?_); (case zzh => walk_at "sql")) | ((with_reducible refine' x_itT ?zzh ?_); (case zzh => walk_at "sqt")) | ((with_reducible refine' x_iL ?zzh ?_); (case zzh => walk_at "sql")) | ((with_reducible refine' x_en ?zzh ?_); (case zzh => walk_at "sql")) | ((with_reducible refine x_rng1 ?zzh1 ?zzh2 ?_); (case zzh1 => first | omega | (simp only [List.length_map]; omega)); (case zzh2 => first | omega | (simp only [List.length_map]; omega))) | ((with_reducible refine x_rng2 ?zzh ?_); (case zzh => first | exact ⟨by omega, by omega, by omega, by omega⟩)) | ((with_reducible refine' x_gTup ?zzh ?zze ?_); (case zzh => walk_at "sqt"); (case zze => rfl)) | (with_reducible refine x_wipe rfl ?_) | ((with_reducible refine' w_app hw 0 ?zzh ?zze ?_); (case zzh => rfl); (case zze => first | (refine sz_lt ?_; simp; done) | (refine sz_lt ?_; simp; omega) | assumption); intro H hw; walk_at "nm") | ((with_reducible refine' w_app hw 1 ?zzh ?zze ?_); (case zzh => rfl); (case zze => first | (refine sz_lt ?_; simp; done) | (refine sz_lt ?_; simp; omega) | assumption); intro H hw; walk_at "nm") | ((with_reducible refine' w_app hw 2 ?zzh ?zze ?_); (case zzh => rfl); (case zze => first | (refine sz_lt ?_; simp; done) | (refine sz_lt ?_; simp; omega) | assumption); intro H hw; walk_at "nm") | ((with_reducible refine' w_app hw 3 ?zzh ?zze ?_); (case zzh => rfl); (case zze => first | (refine sz_lt ?_; simp; done) | (refine sz_lt ?_; simp; omega) | assumption); intro H hw; walk_at "nm") | ((with_reducible refine' w_app hw 4 ?zzh ?zze ?_); (case zzh => rfl); (case zze => first | (refine sz_lt ?_; simp; done) | (refine sz_lt ?_; simp; omega) | assumption); intro H hw; walk_at "nm") | ((with_reducible refine' x_callL ?zzh ?_); (case zzh => rfl)) | (with_reducible refine x_lens rfl rfl ?_) | ((with_reducible refine' x_sum ?zzh ?_); (case zzh => walk_at "sql")) | ((with_reducible refine' x_gU2 ?zzh ?_); (case zzh => walk_at "sql")) | ((with_reducible refine' x_gU3 ?zzh ?_); (case zzh => walk_at "sql")) | ((with_reducible refine' x_gStL1 hw ?zzh ?zze ?_); (case zzh => walk_at "sql"); (case zze => simp); intro p H hp hw) | ((with_reducible refine' x_take hw 0 ?zzh ?zzbx ?zze ?zze2 ?zze3 ?_); (case zzh => rfl); (case zzbx => assumption); (case zze => omega); (case zze2 => omega); (case zze3 => omega); intro r a c H hr0 hr1 bx hcc hw; walk_at "nm") | ((with_reducible refine' x_take hw 1 ?zzh ?zzbx ?zze ?zze2 ?zze3 ?_); (case zzh => rfl); (case zzbx => assumption); (case zze => omega); (case zze2 => omega); (case zze3 => omega); intro r a c H hr0 hr1 bx hcc hw; walk_at "nm") | ((with_reducible refine' x_take hw 2 ?zzh ?zzbx ?zze ?zze2 ?zze3 ?_); (case zzh => rfl); (case zzbx => assumption); (case zze => omega); (case zze2 => omega); (case zze3 => omega); intro r a c H hr0 hr1 bx hcc hw; walk_at "nm") | ((with_reducible refine' x_take hw 3 ?zzh ?zzbx ?zze ?zze2 ?zze3 ?_); (case zzh => rfl); (case zzbx => assumption); (case zze => omega); (case zze2 => omega); (case zze3 => omega); intro r a c H hr0 hr1 bx hcc hw; walk_at "nm") | ((with_reducible refine' x_take hw 4 ?zzh ?zzbx ?zze ?zze2 ?zze3 ?_); (case zzh => rfl); (case zzbx => assumption); (case zze => omega); (case zze2 => omega); (case zze3 => omega); intro r a c H hr0 hr1 bx hcc hw; walk_at "nm") | ((with_reducible refine' w_cat hw ?zzh1 ?zzh2 ?zze ?_); (case zzh1 => walk_at "lst"); (case zzh2 => walk_at "lst"); (case zze => first | exact szl rfl | (simp; omega)); intro p H hp hw) | ((with_reducible refine' w_rev hw ?zzh ?_); (case zzh => walk_at "sql"); intro p H hp hw) | ((with_reducible refine' w_disp hw ?_); intro p H hp hw) | ((with_reducible refine w_made hw ?_); intro v H hw) | ((with_reducible refine' w_dispEnd hw 0 ?zzh ?zze ?zze2 ?_); (case zzh => rfl); (case zze => rfl); (case zze2 => exact Nat.le_of_ble_eq_true rfl); intro H hw; walk_at "nm") | ((with_reducible refine' w_dispEnd hw 1 ?zzh ?zze ?zze2 ?_); (case zzh => rfl); (case zze => rfl); (case zze2 => exact Nat.le_of_ble_eq_true rfl); intro H hw; walk_at "nm") | ((with_reducible refine' w_dispEnd hw 2 ?zzh ?zze ?zze2 ?_); (case zzh => rfl); (case zze => rfl); (case zze2 => exact Nat.le_of_ble_eq_true rfl); intro H hw; walk_at "nm") | ((with_reducible refine' w_dispEnd hw 3 ?zzh ?zze ?zze2 ?_); (case zzh => rfl); (case zze => rfl); (case zze2 => exact Nat.le_of_ble_eq_true rfl); intro H hw; walk_at "nm") | ((with_reducible refine' w_update (n := 1) (m := 0) hw ?zzh ?zzh2 (by decide) ?zze ?_); (case zzh => rfl); (case zzh2 => rfl); (case zze => exact Nat.le_of_ble_eq_true rfl); intro H hw; walk_at "nm") | ((with_reducible refine' w_update (n := 0) (m := 1) hw ?zzh ?zzh2 (by decide) ?zze ?_); (case zzh => rfl); (case zzh2 => rfl); (case zze => exact Nat.le_of_ble_eq_true rfl); intro H hw; walk_at "nm") | ((with_reducible refine' w_update (n := 2) (m := 0) hw ?zzh ?zzh2 (by decide) ?zze ?_); (case zzh => rfl); (case zzh2 => rfl); (case zze => exact Nat.le_of_ble_eq_true rfl); intro H hw; walk_at "nm") | (with_reducible refine x_isiI (b := true) (by decide +kernel) ?_) | (with_reducible refine x_isiB (b := true) (by decide +kernel) ?_) | (with_reducible refine x_isiS (b := true) (by decide +kernel) ?_) | (with_reducible refine x_isiN (b := true) (by decide +kernel) ?_) | (with_reducible refine x_isiI (b := false) (by decide +kernel) ?_) | (with_reducible refine x_isiB (b := false) (by decide +kernel) ?_) | (with_reducible refine x_isiS (b := false) (by decide +kernel) ?_) | (with_reducible refine x_isiN (b := false) (by decide +kernel) ?_) | ((with_reducible refine' x_eqIL ?zzh1 ?zzh2 ?_); (case zzh1 => walk_at "lst"); (case zzh2 => walk_at "lst")) | ((with_reducible refine' x_neIL ?zzh1 ?zzh2 ?_); (case zzh1 => walk_at "lst"); (case zzh2 => walk_at "lst")) | ((with_reducible refine' x_tyL ?zzh ?_); (case zzh => walk_at "lst")) | ((with_reducible refine' x_tyD ?zzh ?_); (case zzh => walk_at "lst")) | ((with_reducible refine' w_append (n := 0) hw ?zzh ?zze ?_); (case zzh => rfl); (case zze => first | (refine sz_lt ?_; simp; done) | (refine sz_lt ?_; simp; omega) | assumption); intro H hw; walk_at "nm") | ((with_reducible refine' w_append (n := 1) hw ?zzh ?zze ?_); (case zzh => rfl); (case zze => first | (refine sz_lt ?_; simp; done) | (refine sz_lt ?_; simp; omega) | assumption); intro H hw; walk_at "nm") | ((with_reducible refine' w_append (n := 2) hw ?zzh ?zze ?_); (case zzh => rfl); (case zze => first | (refine sz_lt ?_; simp; done) | (refine sz_lt ?_; simp; omega) | assumption); intro H hw; walk_at "nm") | ((with_reducible refine' w_append (n := 3) hw ?zzh ?zze ?_); (case zzh => rfl); (case zze => first | (refine sz_lt ?_; simp; done) | (refine sz_lt ?_; simp; omega) | assumption); intro H hw; walk_at "nm") | ((with_reducible refine' x_dgetS ?zzh ?zze ?_); (case zzh => walk_at "lst"); (case zze => rfl)) | ((with_reducible refine x_ifP (by first | omega | exact rfl) ?_)) | ((with_reducible refine x_ifN (by omega) ?_)) | ((with_reducible refine x_ifnP (by first | omega | exact rfl) ?_)) | ((with_reducible refine x_ifnN (by omega) ?_)) | (with_reducible refine x_ifbT (by decide +kernel) ?_) | (with_reducible refine x_ifbF (by decide +kernel) ?_) | with_reducible refine x_revS ?_ | ((with_reducible refine x_revP ?zzh ?_); (case zzh => omega); intro y hy) | ((with_reducible refine x_slP ?zzh ?_); (case zzh => omega); intro y hy) | ((with_reducible refine x_addP ?zzh ?_); (case zzh => omega); intro y hy) | ((with_reducible refine x_ixP ?zzh ?zzh1 ?zzh2 ?_); (case zzh => omega); (case zzh1 => omega); (case zzh2 => omega); intro y hy) | ((with_reducible refine x_mulP ?zzh ?zzh1 ?zzh2 ?_); (case zzh => omega); (case zzh1 => omega); (case zzh2 => first | omega | decide +kernel); intro y hy; (try simp only [Int.reduceToNat] at hy)) | ((with_reducible refine x_lenS ?zzh ?_); (case zzh => first | (refine sz_of ?_; omega))))))
namespace Fw
open PySem PySem.Spec PyProof.Rows L2

/-! ### callees -/
structure Fn (P : Program) (w : World) (K : PySem.W.Frag) (mg : Str → Option Value) (base : Heap) (CX : CXT) (k : Nat) (x : Str) (ps : List Str) (sp : Sp) : Prop where
  ex : ∃ (f : Addr) (fd : FuncData), mg x = some (.ref f) ∧ PySem.W.keepIn K (.ref f) = true ∧ Binds K fd ps [] ∧ FnOk P w K mg base CX k f fd ps sp
section
variable {X : Cx} {CX : CXT} {k j : Nat} {ps : List Str} {sp : Sp} {E : XK} {x : Str} {p pos : Pos} {e : Expr} {es : List Expr} {t : TA}
theorem pe_fn (F : Fn X.prog X.w X.K X.mg X.base CX k x ps sp) (hr : Room j X.A) (hk : k ≤ j) (hg : Gl X x) (hx : Passes CX X E) (ha : PA X (e :: es) t) (hdb : (x == ("__debug__" : Str)) = false := by decide)
    (he : starEach (e :: es) X.env = (false, eval e X.env) :: starEach es X.env := by rfl) (hpl : (backTo pos (starEach es X.env)).any (·.1) = false := by rfl) : PE X (.Call (.Name x p) (e :: es) [] pos) (tCall sp [] E t) := by
  obtain ⟨f, fd, hm, hkp, hb, F⟩ := F.ex
  exact pe_call F (hr.mono hk) hg hm hkp hb .nil hx ha hdb he hpl
theorem pe_fn0 (F : Fn X.prog X.w X.K X.mg X.base CX k x ps sp) (hr : Room j X.A) (hk : k ≤ j) (hg : Gl X x) (hx : Passes CX X E) (hdb : (x == ("__debug__" : Str)) = false := by decide) : PE X (.Call (.Name x p) [] [] pos) (tCall sp [] E tNil) := by
  obtain ⟨f, fd, hm, hkp, hb, F⟩ := F.ex
  exact pe_call0 F (hr.mono hk) hg hm hkp hb .nil hx hdb
end
theorem Fn.mono {P : Program} {w : World} {K : PySem.W.Frag} {mg : Str → Option Value} {base : Heap} {CX : CXT} {j k : Nat} {x : Str} {ps : List Str} {sp : Sp} (F : Fn P w K mg base CX j x ps sp) (h : j ≤ k) : Fn P w K mg base CX k x ps sp := by
  obtain ⟨f, fd, hm, hkp, hb, F⟩ := F.ex
  exact ⟨f, fd, hm, hkp, hb, F.mono h⟩

/-! ### universal operators -/
section
variable {X : Cx}
def uAdd (K : PySem.W.Frag) : R2 := fun x y H Q => (∃ i j, x = .int i ∧ y = .int j ∧ Q (.int (i + j)) H) ∨ (∃ i j, x = .str i ∧ y = .str j ∧ i.length + j.length ≤ sizeLine ∧ Q (.str (i ++ j)) H) ∨ rCat x y H Q ∨ rCatA K x y H Q
theorem op_addU {K : PySem.W.Frag} (hK : X.K = K := by rfl) : OpR X (binaryOp .Add) (uAdd K) := hK ▸ OpR.or op_add (OpR.or op_add_str (OpR.or op_cat op_catA))
def uMul (K : PySem.W.Frag) : R2 := fun x y H Q => (rI CMul fun i j => .int (i * j)) x y H Q ∨ rRep x y H Q ∨ rRepT K x y H Q
theorem op_mulU {K : PySem.W.Frag} (hK : X.K = K := by rfl) : OpR X (binaryOp .Mult) (uMul K) := hK ▸ OpR.or op_mul (OpR.or op_rep op_repT)
def uEq (K : PySem.W.Frag) : R2 := fun x y H Q => rEq x y H Q ∨ rEqD K x y H Q
def uNe (K : PySem.W.Frag) : R2 := fun x y H Q => rNe x y H Q ∨ rNeD K x y H Q
theorem op_eqU {K : PySem.W.Frag} {k : Nat} (hr : Room k X.A) (hK : X.K = K := by rfl) : OpR X (compareOp .Eq) (uEq K) := hK ▸ OpR.or op_eq (op_eqD hr.units)
theorem op_neU {K : PySem.W.Frag} {k : Nat} (hr : Room k X.A) (hK : X.K = K := by rfl) : OpR X (compareOp .NotEq) (uNe K) := hK ▸ OpR.or op_ne (op_neD hr.units)
def uIs : R2 := fun x y H Q => (y = .non ∧ Q (.bl (decide (x = .non))) H) ∨ rIsB x y H Q
def uIsNot : R2 := fun x y H Q => (y = .non ∧ Q (.bl (!decide (x = .non))) H) ∨ rNotB x y H Q
theorem op_isU : OpR X (compareOp .Is) uIs := OpR.or op_isN op_isBl
theorem op_isNotU : OpR X (compareOp .IsNot) uIsNot := OpR.or op_notN op_notBl
end
section
variable {X : Cx}
theorem pe_powc {i j z : Int} {k1 k2 : Nat} {p1 p2 pos : Pos} (h : CPow i j) (e : i ^ j.toNat = z) : PE X (.BinOp (.Constant (.int i) k1 p1) .Pow (.Constant (.int j) k2 p2) pos) (tC (.int z)) := by
  refine ⟨fun pins s σ H Q I q => (pe_op op_pow pe_int pe_int).run pins s σ H Q I ⟨i, j, rfl, rfl, h, ?_⟩⟩
  show Q (.int (i ^ j.toNat)) H
  rw [e]
  exact q
end
/-! ### a def's body, its slots written out -/
section
variable {P : Program} {w : World} {K : PySem.W.Frag} {mg : Str → Option Value} {base : Heap}
theorem okS {x qual : Str} {st : Stmt} {f : Addr} {fd : FuncData} {N ps : List Str} {k : Nat} {sp : Sp} (F : Fun K x qual st f fd) (S : FnScope N ps (defScope st)) (len : ∀ vs H Q E, sp vs H Q E → vs.length = ps.length)
    (hbody : ∀ (cdv : Value) (A : Around) (outer : List Env) (s : Shared) (H : Hp) (vs : List V) (Q : VK) (E : XK), Room k (A.deeper (envOfC qual (defScope st) s.heap.objs.size f cdv)) → sp vs H Q E →
      ∃ t σ, PSs (cxOf CX0 P w K mg base N qual (defScope st) f cdv A outer s H E).nox (defBody st) t ∧ L2.start N vs = σ ∧ t { nx := fun _ H' => Q .non H', rt := Q } σ H) : FnOk P w K mg base CX0 (k + 1) f fd ps sp := by
  refine F.ok S len fun cdv A outer s H vs Q E hr h => ?_
  obtain ⟨t, σ, h1, rfl, h2⟩ := hbody cdv A outer s H vs Q E hr h
  exact ⟨t, h1, h2⟩
end
end Fw
namespace Fw
open PySem PySem.Spec PyProof.Rows L2

/-! ### heaps: what is seen without some addresses -/
def del (H : Hp) (M : List Addr) : Hp := fun a => if a ∈ M then none else H a
theorem del_in {H : Hp} {M : List Addr} {a : Addr} (h : a ∈ M) : del H M a = none := by unfold del; rw [if_pos h]
theorem del_out {H : Hp} {M : List Addr} {a : Addr} (h : a ∉ M) : del H M a = H a := by unfold del; rw [if_neg h]
theorem del_some {H : Hp} {M : List Addr} {a : Addr} {o : HO} (h : del H M a = some o) : a ∉ M ∧ H a = some o := by
  unfold del at h
  split at h
  · cases h
  · rename_i q; exact ⟨q, h⟩
def Ext (H H' : Hp) : Prop := ∀ a o, H a = some o → H' a = some o
def Ex (M : List Addr) (H H' : Hp) : Prop := ∀ a o, a ∉ M → H a = some o → H' a = some o
theorem Ex.refl {M : List Addr} {H : Hp} : Ex M H H := fun _ _ _ h => h
theorem Ex.trans {M : List Addr} {H H1 H2 : Hp} (a : Ex M H H1) (b : Ex M H1 H2) : Ex M H H2 := fun c o n h => b c o n (a c o n h)
theorem Ex.sub {M M' : List Addr} {H H1 : Hp} (a : Ex M H H1) (s : ∀ x ∈ M, x ∈ M') : Ex M' H H1 := fun c o n h => a c o (fun z => n (s c z)) h
theorem Ex.new {M : List Addr} {H : Hp} {p : Addr} {o : HO} (h : H p = none) : Ex M H (upd H p o) := fun a u _ e => by rw [upd_ne (ne_of_none e h)]; exact e
theorem Ex.upd {M : List Addr} {H : Hp} {p : Addr} {o : HO} (h : p ∈ M) : Ex M H (upd H p o) := fun a u n e => by
  rw [upd_ne (fun z => n (by rw [z]; exact h))]; exact e
theorem Ex.ext {H H' : Hp} (h : Ex [] H H') : Ext H H' := fun a o e => h a o (fun z => nomatch z) e
theorem Ext.sqL {K : PySem.W.Frag} {H H' : Hp} {a : Addr} {xs : List V} (e : Ext H H') (h : SqL K H a xs) : SqL K H' a xs := by
  rcases h with (h | ⟨o, h⟩) | h
  · exact .inl (.inl (e _ _ h))
  · exact .inl (.inr ⟨o, e _ _ h⟩)
  · exact .inr h
theorem Ext.sqT {K : PySem.W.Frag} {H H' : Hp} {a : Addr} {xs : List V} (e : Ext H H') (h : SqT K H a xs) : SqT K H' a xs := by
  rcases h with (h | ⟨o, h⟩) | h
  · exact .inl (.inl (e _ _ h))
  · exact .inl (.inr ⟨o, e _ _ h⟩)
  · exact .inr h
/-! ### data as a whole: lists are tracked, tuples tracked or written -/
mutual
inductive Dd (K : PySem.W.Frag) (H : Hp) : V → PyData → Prop
  | non : Dd K H .non .none
  | bl (b : Bool) : Dd K H (.bl b) (.bool b)
  | int (i : Int) : Dd K H (.int i) (.int i)
  | str (x : Str) : Dd K H (.str x) (.str x)
  | lst {a : Addr} {xs : List V} {ds : List PyData} : H a = some (.lst xs) → DdAll K H xs ds → Dd K H (.ref a) (.list ds)
  | tup {a : Addr} {xs : List V} {ds : List PyData} : SqT K H a xs → DdAll K H xs ds → Dd K H (.ref a) (.tuple ds)
inductive DdAll (K : PySem.W.Frag) (H : Hp) : List V → List PyData → Prop
  | nil : DdAll K H [] []
  | cons {v : V} {vs : List V} {d : PyData} {ds : List PyData} : Dd K H v d → DdAll K H vs ds → DdAll K H (v :: vs) (d :: ds)
end
mutual
theorem Dd.ext {K : PySem.W.Frag} {H H' : Hp} (e : Ext H H') : ∀ {d : PyData} {v : V}, Dd K H v d → Dd K H' v d
  | _, _, .non => .non
  | _, _, .bl b => .bl b
  | _, _, .int i => .int i
  | _, _, .str x => .str x
  | _, _, .lst q r => .lst (e _ _ q) (DdAll.ext e r)
  | _, _, .tup q r => .tup (e.sqT q) (DdAll.ext e r)
theorem DdAll.ext {K : PySem.W.Frag} {H H' : Hp} (e : Ext H H') : ∀ {ds : List PyData} {vs : List V}, DdAll K H vs ds → DdAll K H' vs ds
  | _, _, .nil => .nil
  | _, _, .cons a b => .cons (Dd.ext e a) (DdAll.ext e b)
end
mutual
theorem Dd.dp {K : PySem.W.Frag} {H : Hp} : ∀ {d : PyData} {v : V}, Dd K H v d → Dp K H v d
  | _, _, .non => .non
  | _, _, .bl b => .bl b
  | _, _, .int i => .int i
  | _, _, .str x => .str x
  | _, _, .lst q r => .lst (SqL.of q) (DdAll.dp r)
  | _, _, .tup q r => .tup q (DdAll.dp r)
theorem DdAll.dp {K : PySem.W.Frag} {H : Hp} : ∀ {ds : List PyData} {vs : List V}, DdAll K H vs ds → DpAll K H vs ds
  | _, _, .nil => .nil
  | _, _, .cons a b => .cons (Dd.dp a) (DdAll.dp b)
end
theorem DdAll.length {K : PySem.W.Frag} {H : Hp} : ∀ {vs : List V} {ds : List PyData}, DdAll K H vs ds → vs.length = ds.length
  | _, _, .nil => rfl
  | _, _, .cons _ b => congrArg Nat.succ (DdAll.length b)
theorem DdAll.get {K : PySem.W.Frag} {H : Hp} : ∀ {vs : List V} {ds : List PyData} {i : Nat} {d : PyData}, DdAll K H vs ds → ds[i]? = some d → ∃ v, vs[i]? = some v ∧ Dd K H v d
  | _, _, _, _, .nil, e => by simp at e
  | _, _, 0, _, .cons a _, e => by simp at e; subst e; exact ⟨_, rfl, a⟩
  | _, _, i + 1, _, .cons _ b, e => by
    obtain ⟨v, h1, h2⟩ := DdAll.get (i := i) b (by simpa using e)
    exact ⟨v, by simpa using h1, h2⟩
theorem DdAll.append {K : PySem.W.Frag} {H : Hp} : ∀ {vs : List V} {ds : List PyData} {ws : List V} {es : List PyData}, DdAll K H vs ds → DdAll K H ws es → DdAll K H (vs ++ ws) (ds ++ es)
  | _, _, _, _, .nil, q => q
  | _, _, _, _, .cons a b, q => .cons a (DdAll.append b q)
theorem DdAll.drop {K : PySem.W.Frag} {H : Hp} : ∀ (n : Nat) {vs : List V} {ds : List PyData}, DdAll K H vs ds → DdAll K H (vs.drop n) (ds.drop n)
  | 0, _, _, q => q
  | _ + 1, _, _, .nil => .nil
  | n + 1, _, _, .cons _ b => DdAll.drop n b
theorem DdAll.take {K : PySem.W.Frag} {H : Hp} : ∀ (n : Nat) {vs : List V} {ds : List PyData}, DdAll K H vs ds → DdAll K H (vs.take n) (ds.take n)
  | 0, _, _, _ => .nil
  | _ + 1, _, _, .nil => .nil
  | n + 1, _, _, .cons a b => .cons a (DdAll.take n b)
theorem DdAll.ints {K : PySem.W.Frag} {H : Hp} : ∀ (ns : List Int), DdAll K H (ns.map V.int) (ns.map PyData.int)
  | [] => .nil
  | i :: r => .cons (.int i) (DdAll.ints r)

abbrev Rp (K : PySem.W.Frag) (M : List Addr) (H : Hp) (v : V) (d : PyData) : Prop := Dd K (del H M) v d
abbrev RpAll (K : PySem.W.Frag) (M : List Addr) (H : Hp) (v : List V) (d : List PyData) : Prop := DdAll K (del H M) v d
theorem del_ext {M M' Mc : List Addr} {H H' : Hp} (e : Ex Mc H H') (h1 : ∀ x ∈ Mc, x ∈ M) (h2 : ∀ x ∈ M', x ∉ M → H x = none) : Ext (del H M) (del H' M') := fun a o h => by
  obtain ⟨n, q⟩ := del_some h
  have n' : a ∉ M' := fun z => by have := h2 a z n; rw [q] at this; cases this
  rw [del_out n']
  exact e a o (fun z => n (h1 a z)) q
theorem del_sub {M M' : List Addr} {H : Hp} (h : ∀ x ∈ M', x ∈ M) : Ext (del H M) (del H M') := fun a o q => by
  obtain ⟨n, q⟩ := del_some q
  rw [del_out (fun z => n (h a z))]
  exact q
theorem del_all {M : List Addr} {H : Hp} : Ext (del H M) H := fun a o q => (del_some q).2
theorem Rp.dd {K : PySem.W.Frag} {M : List Addr} {H : Hp} {v : V} {d : PyData} (h : Rp K M H v d) : Dd K H v d := Dd.ext del_all h
theorem Rp.dp {K : PySem.W.Frag} {M : List Addr} {H : Hp} {v : V} {d : PyData} (h : Rp K M H v d) : Dp K H v d := (Dd.ext del_all h).dp
theorem Rp.less {K : PySem.W.Frag} {M M' : List Addr} {H : Hp} {v : V} {d : PyData} (h : Rp K M H v d) (s : ∀ x ∈ M', x ∈ M) : Rp K M' H v d := Dd.ext (del_sub s) h
theorem Rp.call {K : PySem.W.Frag} {M : List Addr} {H H' : Hp} {v : V} {d : PyData} {Mc : List Addr} (h : Rp K M H v d) (e : Ex Mc H H') (h1 : ∀ x ∈ Mc, x ∈ M) : Rp K M H' v d := Dd.ext (del_ext e h1 fun _ a b => absurd a b) h

theorem Rp.unL {K : PySem.W.Frag} {M : List Addr} {H : Hp} {a : Addr} {ds : List PyData} (h : Rp K M H (.ref a) (.list ds)) : ∃ xs, H a = some (.lst xs) ∧ RpAll K M H xs ds := by
  cases h with
  | lst q r => exact ⟨_, del_all _ _ q, r⟩
theorem Rp.unT {K : PySem.W.Frag} {M : List Addr} {H : Hp} {a : Addr} {ds : List PyData} (h : Rp K M H (.ref a) (.tuple ds)) : ∃ xs, SqT K H a xs ∧ RpAll K M H xs ds := by
  cases h with
  | tup q r => exact ⟨_, del_all.sqT q, r⟩
theorem DdAll.ints_inv {K : PySem.W.Frag} {H : Hp} : ∀ {ns : List Int} {xs : List V}, DdAll K H xs (ns.map PyData.int) → xs = ns.map V.int
  | [], _, .nil => rfl
  | _ :: _, _, .cons a b => by
    cases a
    rw [DdAll.ints_inv b]; rfl
theorem DdAll.strs_inv {K : PySem.W.Frag} {H : Hp} : ∀ {ns : List Str} {xs : List V}, DdAll K H xs (ns.map PyData.str) → xs = ns.map V.str
  | [], _, .nil => rfl
  | _ :: _, _, .cons a b => by
    cases a
    rw [DdAll.strs_inv b]; rfl
theorem DdAll.strs {K : PySem.W.Frag} {H : Hp} : ∀ (ns : List Str), DdAll K H (ns.map V.str) (ns.map PyData.str)
  | [] => .nil
  | i :: r => .cons (.str i) (DdAll.strs r)
theorem Rp.ints {K : PySem.W.Frag} {M : List Addr} {H : Hp} {a : Addr} {ns : List Int} (h : Rp K M H (.ref a) (.list (ns.map PyData.int))) : H a = some (.lst (ns.map V.int)) := by
  obtain ⟨xs, q, r⟩ := Rp.unL h
  rw [DdAll.ints_inv r] at q
  exact q
theorem Rp.strs {K : PySem.W.Frag} {M : List Addr} {H : Hp} {a : Addr} {ns : List Str} (h : Rp K M H (.ref a) (.list (ns.map PyData.str))) : H a = some (.lst (ns.map V.str)) := by
  obtain ⟨xs, q, r⟩ := Rp.unL h
  rw [DdAll.strs_inv r] at q
  exact q
theorem Rp.ints_of {K : PySem.W.Frag} {M : List Addr} {H : Hp} {a : Addr} {ns : List Int} (h : del H M a = some (.lst (ns.map V.int))) : Rp K M H (.ref a) (.list (ns.map PyData.int)) := .lst h (DdAll.ints ns)
theorem del_nil {H : Hp} : del H [] = H := by funext a; exact del_out (fun z => nomatch z)
abbrev Al (M : List Addr) (H : Hp) : Prop := ∀ a ∈ M, H a ≠ none
/-! ### facts that stand: data, a thing's content, a tuple's -/
inductive Fa where
  | rp (v : V) (d : PyData)
  | kn (p : Addr) (o : HO)
  | tp (p : Addr) (xs : List V)
  | al (vs : List V) (ds : List PyData)
  | px (p : Hp → Prop) (m : ∀ {H H' : Hp}, Ext H H' → p H → p H')
def Fa.ok (K : PySem.W.Frag) (H : Hp) : Fa → Prop
  | .rp v d => Dd K H v d
  | .kn p o => H p = some o
  | .tp p xs => SqT K H p xs
  | .al vs ds => DdAll K H vs ds
  | .px p _ => p H
theorem Fa.ext {K : PySem.W.Frag} {H H' : Hp} (e : Ext H H') : ∀ {r : Fa}, r.ok K H → r.ok K H'
  | .rp _ _, h => Dd.ext e h
  | .kn _ _, h => e _ _ h
  | .tp _ _, h => e.sqT h
  | .al _ _, h => DdAll.ext e h
  | .px _ m, h => m e h
/-! ### the state: owned cells L, facts R -/
abbrev av (L : List (Addr × HO)) (M0 : List Addr) : List Addr := L.map (·.1) ++ M0
structure W (K : PySem.W.Frag) (H0 : Hp) (Ms M0 : List Addr) (H : Hp) (L : List (Addr × HO)) (R : List Fa) : Prop where
  ex : Ex Ms H0 H
  al : ∀ a ∈ M0, H a ≠ none
  nd : (L.map (·.1)).Nodup
  cell : ∀ p ∈ L, H p.1 = some p.2
  own : ∀ p ∈ L, p.1 ∈ Ms ∨ (H0 p.1 = none ∧ p.1 ∉ M0)
  rep : ∀ r ∈ R, r.ok K (del H (av L M0))
section
variable {K : PySem.W.Frag} {H0 H H' : Hp} {Ms M0 : List Addr} {L : List (Addr × HO)} {R : List Fa} {p b : Addr} {o o' : HO} {i : Nat} {v : V} {d : PyData}
theorem W.at (w : W K H0 Ms M0 H L R) (i : Nat) (h : L[i]? = some (p, o)) : H p = some o := w.cell _ (List.mem_of_getElem? h)
theorem W.rp (w : W K H0 Ms M0 H L R) (i : Nat) (h : R[i]? = some (.rp v d)) : Rp K (av L M0) H v d := w.rep _ (List.mem_of_getElem? h)
theorem W.kn (w : W K H0 Ms M0 H L R) (i : Nat) (h : R[i]? = some (.kn p o)) : H p = some o := del_all _ _ (w.rep _ (List.mem_of_getElem? h))
theorem W.tp {xs : List V} (w : W K H0 Ms M0 H L R) (i : Nat) (h : R[i]? = some (.tp p xs)) : SqT K H p xs := del_all.sqT (w.rep _ (List.mem_of_getElem? h))
theorem W.all {vs : List V} {ds : List PyData} (w : W K H0 Ms M0 H L R) (i : Nat) (h : R[i]? = some (.al vs ds)) : RpAll K (av L M0) H vs ds := w.rep _ (List.mem_of_getElem? h)
theorem W.px {q : Hp → Prop} {m : ∀ {H H' : Hp}, Ext H H' → q H → q H'} (w : W K H0 Ms M0 H L R) (i : Nat) (h : R[i]? = some (.px q m)) : q (del H (av L M0)) := w.rep _ (List.mem_of_getElem? h)
theorem W.alloc' (w : W K H0 Ms M0 H L R) : ∀ a ∈ av L M0, H a ≠ none := fun a ha => by
  rcases List.mem_append.mp ha with h | h
  · obtain ⟨q, hq, e⟩ := List.mem_map.mp h
    rw [← e, w.cell q hq]; exact fun z => nomatch z
  · exact w.al a h
theorem W.new (w : W K H0 Ms M0 H L R) (h : H p = none) (o : HO) : W K H0 Ms M0 (upd H p o) ((p, o) :: L) R where
  ex := w.ex.trans (Ex.new h)
  al := fun a ha => by
    have := w.al a ha
    cases q : H a with
    | none => exact absurd q this
    | some u => rw [upd_ne (ne_of_none q h), q]; exact fun z => nomatch z
  nd := by
    refine List.nodup_cons.mpr ⟨fun z => ?_, w.nd⟩
    obtain ⟨q, hq, e⟩ := List.mem_map.mp z
    have := w.cell q hq
    rw [e, h] at this; cases this
  cell := fun q hq => by
    rcases List.mem_cons.mp hq with rfl | hq
    · exact upd_same
    · have := w.cell q hq
      rw [upd_ne (ne_of_none this h)]; exact this
  own := fun q hq => by
    rcases List.mem_cons.mp hq with rfl | hq
    · by_cases hm : p ∈ Ms
      · exact .inl hm
      · refine .inr ⟨?_, fun z => w.al p z h⟩
        cases e : H0 p with
        | none => rfl
        | some u =>
          have := w.ex _ _ hm e
          rw [h] at this; cases this
    · exact w.own q hq
  rep := fun r hr => Fa.ext (del_ext (Mc := []) (Ex.new h) (fun x z => nomatch z) fun x hx hn => by
    rcases List.mem_cons.mp hx with rfl | hx
    · exact h
    · exact absurd hx hn) (w.rep r hr)
theorem W.set (w : W K H0 Ms M0 H L R) (i : Nat) (hi : L[i]? = some (p, o)) (o' : HO) : W K H0 Ms M0 (upd H p o') (L.set i (p, o')) R := by
  have hm : (L.set i (p, o')).map (·.1) = L.map (·.1) := by
    rw [List.map_set]
    apply List.ext_getElem?
    intro n
    rw [List.getElem?_set]
    split
    · rename_i e; subst e
      rw [List.getElem?_map, hi]
      split
      · rfl
      · rename_i h; exact absurd (by rw [List.length_map]; exact (List.getElem?_eq_some_iff.mp hi).1) h
    · rfl
  have hpL : (p, o) ∈ L := List.mem_of_getElem? hi
  have hpa : p ∈ L.map (·.1) := List.mem_map.mpr ⟨_, hpL, rfl⟩
  have uniq : ∀ q ∈ L.set i (p, o'), q = (p, o') ∨ (q ∈ L ∧ q.1 ≠ p) := fun q hq => by
    obtain ⟨n, hn⟩ := List.mem_iff_getElem?.mp hq
    rw [List.getElem?_set] at hn
    split at hn
    · split at hn
      · left; exact (Option.some.inj hn).symm
      · cases hn
    · rename_i hne
      right
      refine ⟨List.mem_of_getElem? hn, fun e => hne ?_⟩
      have h1 : (L.map (·.1))[i]? = some p := by rw [List.getElem?_map, hi]; rfl
      have h2 : (L.map (·.1))[n]? = some p := by rw [List.getElem?_map, hn]; exact congrArg some e
      exact nd_ix w.nd h1 h2
  refine ⟨fun a u n e => ?_, fun a ha => ?_, by rw [hm]; exact w.nd, fun q hq => ?_, fun q hq => ?_, fun r hr => ?_⟩
  · by_cases ea : a = p
    · subst ea
      rcases w.own _ hpL with h | h
      · exact absurd h n
      · have h := h.1; rw [e] at h; cases h
    · rw [upd_ne ea]; exact w.ex a u n e
  · by_cases ea : a = p
    · subst ea; rw [upd_same]; exact fun z => nomatch z
    · rw [upd_ne ea]; exact w.al a ha
  · rcases uniq q hq with rfl | ⟨h1, h2⟩
    · exact upd_same
    · rw [upd_ne h2]; exact w.cell q h1
  · rcases uniq q hq with rfl | ⟨h1, _⟩
    · exact w.own (p, o) hpL
    · exact w.own q h1
  · show Fa.ok K (del _ ((L.set i (p, o')).map (·.1) ++ M0)) _
    rw [hm]
    exact Fa.ext (del_ext (Mc := [p]) (Ex.upd (List.mem_singleton.mpr rfl)) (fun x z => by rw [List.mem_singleton.mp z]; exact List.mem_append_left _ hpa) fun x a b => absurd a b) (w.rep r hr)
/-- a call that changes one cell -/
theorem W.call (w : W K H0 Ms M0 H L R) (i : Nat) (hi : L[i]? = some (p, o)) (e : Ex [p] H H') (h' : H' p = some o') : W K H0 Ms M0 H' (L.set i (p, o')) R := by
  have hm : (L.set i (p, o')).map (·.1) = L.map (·.1) := by
    rw [List.map_set]
    apply List.ext_getElem?
    intro n
    rw [List.getElem?_set]
    split
    · rename_i e; subst e
      rw [List.getElem?_map, hi]
      split
      · rfl
      · rename_i h; exact absurd (by rw [List.length_map]; exact (List.getElem?_eq_some_iff.mp hi).1) h
    · rfl
  have hpL : (p, o) ∈ L := List.mem_of_getElem? hi
  have hpa : p ∈ L.map (·.1) := List.mem_map.mpr ⟨_, hpL, rfl⟩
  have kp : ∀ a u, a ≠ p → H a = some u → H' a = some u := fun a u n q => e a u (fun z => n (List.mem_singleton.mp z)) q
  have uniq : ∀ q ∈ L.set i (p, o'), q = (p, o') ∨ (q ∈ L ∧ q.1 ≠ p) := fun q hq => by
    obtain ⟨n, hn⟩ := List.mem_iff_getElem?.mp hq
    rw [List.getElem?_set] at hn
    split at hn
    · split at hn
      · left; exact (Option.some.inj hn).symm
      · cases hn
    · rename_i hne
      right
      refine ⟨List.mem_of_getElem? hn, fun e => hne ?_⟩
      have h1 : (L.map (·.1))[i]? = some p := by rw [List.getElem?_map, hi]; rfl
      have h2 : (L.map (·.1))[n]? = some p := by rw [List.getElem?_map, hn]; exact congrArg some e
      exact nd_ix w.nd h1 h2
  refine ⟨fun a u n e0 => ?_, fun a ha => ?_, by rw [hm]; exact w.nd, fun q hq => ?_, fun q hq => ?_, fun r hr => ?_⟩
  · by_cases ea : a = p
    · subst ea
      rcases w.own _ hpL with h | h
      · exact absurd h n
      · have h := h.1; rw [show H0 a = some u from e0] at h; cases h
    · exact kp a u ea (w.ex a u n e0)
  · by_cases ea : a = p
    · subst ea; rw [h']; exact fun z => nomatch z
    · have := w.al a ha
      cases q : H a with
      | none => exact absurd q this
      | some u => rw [kp a u ea q]; exact fun z => nomatch z
  · rcases uniq q hq with rfl | ⟨h1, h2⟩
    · exact h'
    · exact kp _ _ h2 (w.cell q h1)
  · rcases uniq q hq with rfl | ⟨h1, _⟩
    · exact w.own (p, o) hpL
    · exact w.own q h1
  · show Fa.ok K (del _ ((L.set i (p, o')).map (·.1) ++ M0)) _
    rw [hm]
    exact Fa.ext (del_ext (Mc := [p]) e (fun x z => by rw [List.mem_singleton.mp z]; exact List.mem_append_left _ hpa) fun x a b => absurd a b) (w.rep r hr)
/-- a call that changes nothing -/
theorem W.pure (w : W K H0 Ms M0 H L R) (e : Ex [] H H') : W K H0 Ms M0 H' L R where
  ex := w.ex.trans (e.sub fun x z => nomatch z)
  al := fun a ha => by
    have := w.al a ha
    cases q : H a with
    | none => exact absurd q this
    | some u => rw [e.ext a u q]; exact fun z => nomatch z
  nd := w.nd
  cell := fun q hq => e.ext _ _ (w.cell q hq)
  own := w.own
  rep := fun r hr => Fa.ext (del_ext e (fun x z => nomatch z) fun x a b => absurd a b) (w.rep r hr)
theorem W.addF {r : Fa} (w : W K H0 Ms M0 H L R) (h : r.ok K (del H (av L M0))) : W K H0 Ms M0 H L (r :: R) :=
  ⟨w.ex, w.al, w.nd, w.cell, w.own, fun r hr => by
    rcases List.mem_cons.mp hr with rfl | hr
    · exact h
    · exact w.rep r hr⟩
theorem W.add (w : W K H0 Ms M0 H L R) (h : Rp K (av L M0) H v d) : W K H0 Ms M0 H L (.rp v d :: R) := w.addF h
theorem W.newTup (w : W K H0 Ms M0 H L R) (h : H p = none) {xs : List V} {ds : List PyData} (hd : RpAll K (av L M0) H xs ds) : W K H0 Ms M0 (upd H p (.tup xs)) L (.rp (.ref p) (.tuple ds) :: R) := by
  have w1 := w.pure (Ex.new (o := .tup xs) h)
  refine w1.add (Dd.tup ?_ (DdAll.ext (del_ext (Mc := []) (Ex.new h) (fun x z => nomatch z) fun x a b => absurd a b) hd))
  refine .inl (.inl ?_)
  rw [del_out (fun z => w.alloc' p z h)]
  exact upd_same
theorem W.newLst (w : W K H0 Ms M0 H L R) (h : H p = none) {xs : List V} {ds : List PyData} (hd : RpAll K (av L M0) H xs ds) : W K H0 Ms M0 (upd H p (.lst xs)) L (.rp (.ref p) (.list ds) :: R) := by
  have w1 := w.pure (Ex.new (o := .lst xs) h)
  refine w1.add (Dd.lst ?_ (DdAll.ext (del_ext (Mc := []) (Ex.new h) (fun x z => nomatch z) fun x a b => absurd a b) hd))
  rw [del_out (fun z => w.alloc' p z h)]
  exact upd_same
/-- the first cell, a list of data, becomes data -/
theorem W.freeze {xs : List V} {ds : List PyData} (w : W K H0 Ms M0 H ((p, .lst xs) :: L) R) (hp : p ∉ M0) (hd : RpAll K (av ((p, .lst xs) :: L) M0) H xs ds) : W K H0 Ms M0 H L (.rp (.ref p) (.list ds) :: R) := by
  have nd := List.nodup_cons.mp w.nd
  have s : ∀ x ∈ av L M0, x ∈ av ((p, HO.lst xs) :: L) M0 := fun x hx => List.mem_cons_of_mem _ hx
  refine ⟨w.ex, w.al, nd.2, fun q hq => w.cell q (List.mem_cons_of_mem _ hq), fun q hq => w.own q (List.mem_cons_of_mem _ hq), fun r hr => ?_⟩
  rcases List.mem_cons.mp hr with rfl | hr
  · refine Dd.lst ?_ (DdAll.ext (del_sub s) hd)
    rw [del_out (fun z => (List.mem_append.mp z).elim nd.1 hp)]
    exact w.cell _ (List.mem_cons_self ..)
  · exact Fa.ext (del_sub s) (w.rep r hr)
theorem W.ne (w : W K H0 Ms M0 H L R) {i j : Nat} {p q : Addr} {o u : HO} (hi : L[i]? = some (p, o)) (hj : L[j]? = some (q, u)) (h : i ≠ j) : p ≠ q := fun e => h (by
  have h1 : (L.map (·.1))[i]? = some p := by rw [List.getElem?_map, hi]; rfl
  have h2 : (L.map (·.1))[j]? = some p := by rw [List.getElem?_map, hj, e]; rfl
  exact nd_ix w.nd h1 h2)
theorem W.freeze0 {xs : List V} {ds : List PyData} (w : W K H0 [] M0 H ((p, .lst xs) :: L) R) (hd : RpAll K (av ((p, .lst xs) :: L) M0) H xs ds) : W K H0 [] M0 H L (.rp (.ref p) (.list ds) :: R) :=
  w.freeze ((w.own _ (List.mem_cons_self ..)).elim (fun z => nomatch z) fun z => z.2) hd
theorem W.freeze1 {xs : List V} {ds : List PyData} (w : W K H0 [b] M0 H ((p, .lst xs) :: L) R) (j : Nat) (hj : L[j]? = some (b, o)) (hd : RpAll K (av ((p, .lst xs) :: L) M0) H xs ds) : W K H0 [b] M0 H L (.rp (.ref p) (.list ds) :: R) :=
  w.freeze ((w.own _ (List.mem_cons_self ..)).elim (fun z => absurd (List.mem_singleton.mp z) (w.ne (i := 0) (j := j + 1) rfl hj (Nat.succ_ne_zero j).symm)) fun z => z.2) hd
theorem W.freezeT {xs : List V} {ds : List PyData} (w : W K H0 Ms M0 H ((p, .tup xs) :: L) R) (hp : p ∉ M0) (hd : RpAll K (av ((p, .tup xs) :: L) M0) H xs ds) : W K H0 Ms M0 H L (.rp (.ref p) (.tuple ds) :: R) := by
  have nd := List.nodup_cons.mp w.nd
  have s : ∀ x ∈ av L M0, x ∈ av ((p, HO.tup xs) :: L) M0 := fun x hx => List.mem_cons_of_mem _ hx
  refine ⟨w.ex, w.al, nd.2, fun q hq => w.cell q (List.mem_cons_of_mem _ hq), fun q hq => w.own q (List.mem_cons_of_mem _ hq), fun r hr => ?_⟩
  rcases List.mem_cons.mp hr with rfl | hr
  · refine Dd.tup (SqT.of ?_) (DdAll.ext (del_sub s) hd)
    rw [del_out (fun z => (List.mem_append.mp z).elim nd.1 hp)]
    exact w.cell _ (List.mem_cons_self ..)
  · exact Fa.ext (del_sub s) (w.rep r hr)
theorem W.freezeT0 {xs : List V} {ds : List PyData} (w : W K H0 [] M0 H ((p, .tup xs) :: L) R) (hd : RpAll K (av ((p, .tup xs) :: L) M0) H xs ds) : W K H0 [] M0 H L (.rp (.ref p) (.tuple ds) :: R) :=
  w.freezeT ((w.own _ (List.mem_cons_self ..)).elim (fun z => nomatch z) fun z => z.2) hd
theorem W.freezeT1 {xs : List V} {ds : List PyData} (w : W K H0 [b] M0 H ((p, .tup xs) :: L) R) (j : Nat) (hj : L[j]? = some (b, o)) (hd : RpAll K (av ((p, .tup xs) :: L) M0) H xs ds) : W K H0 [b] M0 H L (.rp (.ref p) (.tuple ds) :: R) :=
  w.freezeT ((w.own _ (List.mem_cons_self ..)).elim (fun z => absurd (List.mem_singleton.mp z) (w.ne (i := 0) (j := j + 1) rfl hj (Nat.succ_ne_zero j).symm)) fun z => z.2) hd
/-- forget cells, data -/
theorem W.drop1 {c : Addr × HO} (w : W K H0 Ms M0 H (c :: L) R) : W K H0 Ms M0 H L R :=
  ⟨w.ex, w.al, (List.nodup_cons.mp w.nd).2, fun q hq => w.cell q (List.mem_cons_of_mem _ hq), fun q hq => w.own q (List.mem_cons_of_mem _ hq), fun r hr => Fa.ext (del_sub fun x hx => List.mem_cons_of_mem _ hx) (w.rep r hr)⟩
theorem W.sub {R' : List Fa} (w : W K H0 Ms M0 H L R) (h : ∀ r ∈ R', r ∈ R) : W K H0 Ms M0 H L R' := ⟨w.ex, w.al, w.nd, w.cell, w.own, fun r hr => w.rep r (h r hr)⟩
/-- a list of data: its items, and that it stays so -/
theorem W.open {ds : List PyData} (w : W K H0 Ms M0 H L R) (h : Rp K (av L M0) H (.ref p) (.list ds)) : ∃ xs, RpAll K (av L M0) H xs ds ∧ W K H0 Ms M0 H L (.kn p (.lst xs) :: R) := by
  cases h with
  | lst q r => exact ⟨_, r, w.addF q⟩
theorem W.openT {ds : List PyData} (w : W K H0 Ms M0 H L R) (h : Rp K (av L M0) H (.ref p) (.tuple ds)) : ∃ xs, RpAll K (av L M0) H xs ds ∧ W K H0 Ms M0 H L (.tp p xs :: R) := by
  cases h with
  | tup q r => exact ⟨_, r, w.addF (r := .tp p _) q⟩
/-- a cell that is changed no more: its content is a fact -/
theorem W.keep (w : W K H0 Ms M0 H ((p, o) :: L) R) (hp : p ∉ M0) : W K H0 Ms M0 H L (.kn p o :: R) := by
  have nd := List.nodup_cons.mp w.nd
  have s : ∀ x ∈ av L M0, x ∈ av ((p, o) :: L) M0 := fun x hx => List.mem_cons_of_mem _ hx
  refine ⟨w.ex, w.al, nd.2, fun q hq => w.cell q (List.mem_cons_of_mem _ hq), fun q hq => w.own q (List.mem_cons_of_mem _ hq), fun r hr => ?_⟩
  rcases List.mem_cons.mp hr with rfl | hr
  · show del H (av L M0) p = some o
    rw [del_out (fun z => (List.mem_append.mp z).elim nd.1 hp)]
    exact w.cell _ (List.mem_cons_self ..)
  · exact Fa.ext (del_sub s) (w.rep r hr)
theorem W.keep0 (w : W K H0 [] M0 H ((p, o) :: L) R) : W K H0 [] M0 H L (.kn p o :: R) := w.keep ((w.own _ (List.mem_cons_self ..)).elim (fun z => nomatch z) fun z => z.2)
theorem W.keep1 (w : W K H0 [b] M0 H ((p, o) :: L) R) (j : Nat) (hj : L[j]? = some (b, o')) : W K H0 [b] M0 H L (.kn p o :: R) :=
  w.keep ((w.own _ (List.mem_cons_self ..)).elim (fun z => absurd (List.mem_singleton.mp z) (w.ne (i := 0) (j := j + 1) rfl hj (Nat.succ_ne_zero j).symm)) fun z => z.2)
theorem W.fresh (w : W K H0 Ms M0 H L R) (h : H p = none) (hM : p ∉ Ms) : H0 p = none := by
  cases e : H0 p with
  | none => rfl
  | some u =>
    have := w.ex _ _ hM e
    rw [h] at this; cases this
theorem W.fresh0 (w : W K H0 [] M0 H L R) (i : Nat) (h : L[i]? = some (p, o)) : H0 p = none := (w.own _ (List.mem_of_getElem? h)).elim (fun z => nomatch z) fun z => z.1
theorem W.fresh1 (w : W K H0 [b] M0 H L R) (i j : Nat) (h : L[i]? = some (p, o)) (hj : L[j]? = some (b, o')) (hij : i ≠ j) : H0 p = none := (w.own _ (List.mem_of_getElem? h)).elim (fun z => absurd (List.mem_singleton.mp z) (w.ne h hj hij)) fun z => z.1
theorem W.sq0 {a : Addr} {xs : List V} (w : W K H0 [] M0 H L R) (h : SqL K H0 a xs) : SqL K H a xs := w.ex.ext.sqL h
/-- the start -/
theorem W.start1 (hb : H b = some o) (hM : ∀ a ∈ M0, H a ≠ none) (hR : ∀ r ∈ R, r.ok K (del H (b :: M0))) : W K H [b] M0 H [(b, o)] R :=
  ⟨Ex.refl, hM, by simp, fun p hp => by rw [List.mem_singleton.mp hp]; exact hb, fun p hp => .inl (by rw [List.mem_singleton.mp hp]; exact List.mem_singleton.mpr rfl), hR⟩
theorem W.start0 (hM : ∀ a ∈ M0, H a ≠ none) (hR : ∀ r ∈ R, r.ok K (del H M0)) : W K H [] M0 H [] R :=
  ⟨Ex.refl, hM, by simp, fun p hp => (nomatch hp), fun p hp => (nomatch hp), hR⟩
end
end Fw
namespace Fw
open PySem PySem.Spec PyProof.Rows L2

/-! ### further universal rules -/
section
variable {X : Cx}
theorem CallR.or {f : Value} {r r' : List V → Hp → VK → Prop} (h : CallR X f r) (h' : CallR X f r') : CallR X f (fun xs H Q => r xs H Q ∨ r' xs H Q) := by
  intro pins s σ H xs us Q I rx q
  rcases q with q | q
  · exact h pins s σ H xs us Q I rx q
  · exact h' pins s σ H xs us Q I rx q
theorem SlR.or {r r' : V → Option Int → Option Int → Hp → VK → Prop} (h : L2.SlR X r) (h' : L2.SlR X r') : L2.SlR X (fun x lo hi H Q => r x lo hi H Q ∨ r' x lo hi H Q) := by
  intro pins s σ H x v vl vu lo hi sl Q I rx hs pl pu q
  rcases q with q | q
  · exact h pins s σ H x v vl vu lo hi sl Q I rx hs pl pu q
  · exact h' pins s σ H x v vl vu lo hi sl Q I rx hs pl pu q
def uSl (K : PySem.W.Frag) : V → Option Int → Option Int → Hp → VK → Prop := fun x lo hi H Q => rSlL K x lo hi H Q ∨ rSlS x lo hi H Q ∨ rSlA K x lo hi H Q
theorem sl_U {K : PySem.W.Frag} (hK : X.K = K := by rfl) : L2.SlR X (uSl K) := hK ▸ SlR.or sl_list (SlR.or sl_str sl_tupA)
def uIx (K : PySem.W.Frag) : R2 := rIx K
theorem ix_U {K : PySem.W.Frag} (hK : X.K = K := by rfl) : IxR X (uIx K) := hK ▸ ix_seq
def uLen (K : PySem.W.Frag) : List V → Hp → VK → Prop := fun xs H Q => ∃ x n, xs = [x] ∧ LenV K x H n ∧ Q (.int n) H
theorem call_lenU {K : PySem.W.Frag} (hK : X.K = K := by rfl) : CallR X (.builtin "len") (uLen K) := hK ▸ call_len
def uAbs : List V → Hp → VK → Prop := fun xs H Q => ∃ i, xs = [.int i] ∧ Q (.int (if i < 0 then -i else i)) H
theorem call_absU : CallR X (.builtin "abs") uAbs := call_abs
def uInt : List V → Hp → VK → Prop := fun xs H Q => (∃ i, xs = [.int i] ∧ Q (.int i) H) ∨ ∃ k, xs = [.bl k] ∧ Q (.int (if k then 1 else 0)) H
theorem call_intU : CallR X (.type "int") uInt := call_int1
def uList (K : PySem.W.Frag) : List V → Hp → VK → Prop := fun xs H Q => ∃ p ys, xs = [.ref p] ∧ (SqL K H p ys ∨ SqT K H p ys) ∧ ∀ l, H l = none → Q (.ref l) (upd H l (.lst ys))
theorem call_listU {K : PySem.W.Frag} (hK : X.K = K := by rfl) : CallR X (.type "list") (uList K) := hK ▸ call_list_of
def uTuple (K : PySem.W.Frag) : List V → Hp → VK → Prop := fun xs H Q => ∃ p ys, xs = [.ref p] ∧ ((SqL K H p ys ∧ ∀ l, H l = none → Q (.ref l) (upd H l (.tup ys))) ∨ (SqT K H p ys ∧ Q (.ref p) H))
theorem call_tupleU {K : PySem.W.Frag} (hK : X.K = K := by rfl) : CallR X (.type "tuple") (uTuple K) := hK ▸ call_tuple_of
theorem call_sumU {K : PySem.W.Frag} (hc : X.calm = true) (hK : X.K = K := by rfl) : CallR X (.builtin "sum") (rSum K) := hK ▸ cr_sum hc
theorem call_allU {K : PySem.W.Frag} (hc : X.calm = true) (hK : X.K = K := by rfl) : CallR X (.builtin "all") (rAll K) := hK ▸ cr_all hc
theorem call_sortedU {K : PySem.W.Frag} (hK : X.K = K := by rfl) : CallR X (.builtin "sorted") (rSorted K) := hK ▸ cr_sorted
def uMin (K : PySem.W.Frag) : List V → Hp → VK → Prop := fun xs H Q => (∃ i j, xs = [.int i, .int j] ∧ Q (.int (if j < i then j else i)) H) ∨ rMin K xs H Q
def uMax (K : PySem.W.Frag) : List V → Hp → VK → Prop := fun xs H Q => (∃ i j, xs = [.int i, .int j] ∧ Q (.int (if j > i then j else i)) H) ∨ rMax K xs H Q
theorem call_minU {K : PySem.W.Frag} (hc : X.calm = true) (hK : X.K = K := by rfl) : CallR X (.builtin "min") (uMin K) := hK ▸ CallR.or (call_min2 hc) (cr_min hc)
theorem call_maxU {K : PySem.W.Frag} (hc : X.calm = true) (hK : X.K = K := by rfl) : CallR X (.builtin "max") (uMax K) := hK ▸ CallR.or (call_max2 hc) (cr_max hc)
end

section
variable {X : Cx} {tg : Expr}
theorem pi_L {K : PySem.W.Frag} {l : Expr} {tl : TE} (hl : PE X l tl) (hK : X.K = K := by rfl) : PI X tg l (iList K tl) := hK ▸ pi_list hl
theorem pi_T {K : PySem.W.Frag} {l : Expr} {tl : TE} (hl : PE X l tl) (hK : X.K = K := by rfl) : PI X tg l (iTup K tl) := hK ▸ pi_tup hl
theorem pi_En {K : PySem.W.Frag} {e : Expr} {ta : TA} {p pos tpos : Pos} {elts : List Expr} {kk : Nat} (hg : Gl X "enumerate") (hm : X.mg "enumerate" = none) (ha : PA X [e] ta) (hs : starEach [e] X.env = [(false, eval e X.env)] := by rfl) (hK : X.K = K := by rfl) :
    PI X (.Tuple elts kk tpos) (.Call (.Name "enumerate" p) [e] [] pos) (iEnum K ta) := hK ▸ pi_enum hg hm ha hs
theorem pg_T {K : PySem.W.Frag} {es : List Expr} {k : Nat} {t : TGs} {n : Nat} {pos : Pos} (hc : X.calm = true) (h : PGs X es t)
    (hn : (assignEach es X.env).length = n := by rfl) (hst : (assignEach es X.env).findIdx? (·.1) = none := by rfl) (hK : X.K = K := by rfl) : PG X (.Tuple es k pos) (gTup K n t) := hK ▸ pg_tup hc h hn hst
end
/-! ### steps -/
theorem szl {n : Nat} (h : Nat.ble n 100000 = true) : n ≤ sizeLine := Nat.le_trans (Nat.le_of_ble_eq_true h) (by decide)
theorem sz_of {n : Nat} (h : n ≤ 100000) : n ≤ sizeLine := Nat.le_trans h (by decide)
theorem sz_lt {n : Nat} (h : n < 100000) : n < sizeLine := Nat.lt_of_lt_of_le h (by decide)
section
variable {σ : L2.St} {H H' H0 : Hp} {i j : Nat} {v x y z : V} {ta tb te tv : TE} {tr t' : TA} {Q : VK} {QA : List V → Hp → Prop} {QB : Bool → Hp → Prop} {b : Bool} {K : PySem.W.Frag} {p q a : Addr} {c tc tu : TT} {D : Ends} {t1 t2 : TS} {xs ys vs : List V} {m n : Int} {r : R2} {A B : Prop}
theorem x_var (h : σ[i]? = some (some v)) (q : Q v H) : tVar i σ H Q := ⟨v, h, q⟩
theorem x_c (q : Q v H) : tC v σ H Q := q
theorem x_op (q : ta σ H fun x H1 => tb σ H1 fun y H2 => r x y H2 Q) : tOp r ta tb σ H Q := q
theorem x_un {r : V → Hp → VK → Prop} (q : ta σ H fun x H1 => r x H1 Q) : tUn r ta σ H Q := q
theorem x_cb {r : List V → Hp → VK → Prop} (q : t' σ H fun vs H1 => r vs H1 Q) : tCB r t' σ H Q := q
theorem x_call {sp : Sp} {dvs : List V} {E : XK} (q : t' σ H fun vs H1 => sp (vs ++ dvs) H1 Q E) : tCall sp dvs E t' σ H Q := q
theorem x_nil (q : QA [] H) : tNil σ H QA := q
theorem x_cons (q : ta σ H fun x H1 => tr σ H1 fun xs H2 => QA (x :: xs) H2) : tCons ta tr σ H QA := q
theorem x_sl {r : V → Option Int → Option Int → Hp → VK → Prop} {tl th : TO} (q : te σ H fun x H1 => tl σ H1 fun l H2 => th σ H2 fun u H3 => r x l u H3 Q) : tSl r te tl th σ H Q := q
theorem x_nopart {QO : Option Int → Hp → Prop} (q : QO none H) : tNoPart σ H QO := q
theorem x_part {QO : Option Int → Hp → Prop} (q : te σ H fun x H1 => ∃ i, x = .int i ∧ QO (some i) H1) : tPart te σ H QO := q
theorem x_isint {F : Int → Prop} (q : F n) : ∃ i, V.int n = .int i ∧ F i := ⟨n, rfl, q⟩
theorem x_isbl {F : Bool → Prop} (q : F b) : ∃ k, V.bl b = .bl k ∧ F k := ⟨b, rfl, q⟩
theorem x_test (q : te σ H fun x H' => ∃ k, x = .bl k ∧ QB k H') : tTest te σ H QB := q
theorem x_B (q : te σ H fun x H' => ∃ k, x = .bl k ∧ QB k H') : tB te σ H QB := q
theorem x_and (q : c σ H fun b H1 => if b = true then tu σ H1 QB else QB false H1) : tAnd c tu σ H QB := q
theorem x_or (q : c σ H fun b H1 => if b = true then QB true H1 else tu σ H1 QB) : tOr c tu σ H QB := q
theorem x_not (q : c σ H fun b H1 => QB (!b) H1) : tNot c σ H QB := q
theorem x_andV (q : ta σ H fun x H1 => ∃ c, x = .bl c ∧ if c = true then tb σ H1 Q else Q (.bl false) H1) : tAndV ta tb σ H Q := q
theorem x_orV (q : ta σ H fun x H1 => ∃ c, x = .bl c ∧ if c = true then Q (.bl true) H1 else tb σ H1 Q) : tOrV ta tb σ H Q := q
theorem x_notV (q : ta σ H fun x H1 => ∃ c, x = .bl c ∧ Q (.bl (!c)) H1) : tNotV ta σ H Q := q
theorem x_if (q : c σ H fun b H1 => if b = true then ta σ H1 Q else tb σ H1 Q) : tIf c ta tb σ H Q := q
theorem x_seq (q : t1 { D with nx := t2 D } σ H) : tSeq t1 t2 D σ H := q
theorem x_next (q : D.nx σ H) : tNext D σ H := q
theorem x_set (q : te σ H fun x H1 => D.nx (σ.set i (some x)) H1) : tAsg te (gName i) D σ H := q
theorem x_asgS {to ti : TE} {t : TSet} (q : te σ H fun x H1 => to σ H1 fun o H2 => ti σ H2 fun k H3 => t o k x H3 fun H4 => D.nx σ H4) : tAsg te (gSub to ti t) D σ H := q
theorem x_asgT {n : Nat} {g : TGs} (q : te σ H fun x H1 => gTup K n g x σ H1 D.nx) : tAsg te (gTup K n g) D σ H := q
theorem x_ret (q : te σ H D.rt) : tRet te D σ H := q
theorem x_drop (q : te σ H fun _ H1 => D.nx σ H1) : tDrop te D σ H := q
theorem x_ifS (q : c σ H fun b H1 => if b = true then t1 D σ H1 else t2 D σ H1) : tIfS c t1 t2 D σ H := q
theorem x_par (q : t' σ H fun vs H1 => ∃ v w, vs = [v, w] ∧ D.nx ((σ.set i (some v)).set j (some w)) H1) : tPar i j t' D σ H := q
theorem x_par3 {l : Nat} (q : t' σ H fun vs H1 => ∃ u v w, vs = [u, v, w] ∧ D.nx (((σ.set i (some u)).set j (some v)).set l (some w)) H1) : tPar3 i j l t' D σ H := q
theorem x_is2 {F : V → V → Prop} (q : F x y) : ∃ v w, [x, y] = [v, w] ∧ F v w := ⟨x, y, rfl, q⟩
theorem x_is3 {F : V → V → V → Prop} (q : F x y z) : ∃ u v w, [x, y, z] = [u, v, w] ∧ F u v w := ⟨x, y, z, rfl, q⟩
/-! values -/
theorem x_rI0 {g : Int → Int → V} (q : Q (g m n) H) : rI0 g (.int m) (.int n) H Q := ⟨m, n, rfl, rfl, q⟩
theorem x_rI {C : Int → Int → Prop} {g : Int → Int → V} (h : C m n) (q : Q (g m n) H) : rI C g (.int m) (.int n) H Q := ⟨m, n, rfl, rfl, h, q⟩
theorem x_rU {g : Int → V} (q : Q (g m) H) : rU g (.int m) H Q := ⟨m, rfl, q⟩
theorem x_addI (q : Q (.int (m + n)) H) : uAdd K (.int m) (.int n) H Q := .inl ⟨m, n, rfl, rfl, q⟩
theorem x_addS {u w : Str} (h : u.length + w.length ≤ sizeLine) (q : Q (.str (u ++ w)) H) : uAdd K (.str u) (.str w) H Q := .inr (.inl ⟨u, w, rfl, rfl, h, q⟩)
theorem x_mulI (h : CMul m n) (q : Q (.int (m * n)) H) : uMul K (.int m) (.int n) H Q := .inl ⟨m, n, rfl, rfl, h, q⟩
theorem x_eqS (h : scal x y = true) (q : Q (.bl (decide (x = y))) H) : uEq K x y H Q := .inl ⟨h, q⟩
theorem x_neS (h : scal x y = true) (q : Q (.bl (!decide (x = y))) H) : uNe K x y H Q := .inl ⟨h, q⟩
theorem dI : decide (V.int m = V.int n) = decide (m = n) := by simp
theorem dS {u w : Str} : decide (V.str u = V.str w) = decide (u = w) := by simp
theorem dB {u w : Bool} : decide (V.bl u = V.bl w) = decide (u = w) := by simp
theorem x_eqI (q : Q (.bl (decide (m = n))) H) : uEq K (.int m) (.int n) H Q := .inl ⟨rfl, by rw [dI]; exact q⟩
theorem x_neI (q : Q (.bl (!decide (m = n))) H) : uNe K (.int m) (.int n) H Q := .inl ⟨rfl, by rw [dI]; exact q⟩
theorem x_eqStr {u w : Str} (q : Q (.bl (decide (u = w))) H) : uEq K (.str u) (.str w) H Q := .inl ⟨rfl, by rw [dS]; exact q⟩
theorem x_neStr {u w : Str} (q : Q (.bl (!decide (u = w))) H) : uNe K (.str u) (.str w) H Q := .inl ⟨rfl, by rw [dS]; exact q⟩
theorem x_eqB {u w : Bool} (q : Q (.bl (decide (u = w))) H) : uEq K (.bl u) (.bl w) H Q := .inl ⟨rfl, by rw [dB]; exact q⟩
theorem x_neB {u w : Bool} (q : Q (.bl (!decide (u = w))) H) : uNe K (.bl u) (.bl w) H Q := .inl ⟨rfl, by rw [dB]; exact q⟩
theorem x_isNI (q : Q (.bl false) H) : uIs (.int m) .non H Q := .inl ⟨rfl, by rw [decide_eq_false (fun z => nomatch z)]; exact q⟩
theorem x_isNotNI (q : Q (.bl true) H) : uIsNot (.int m) .non H Q := .inl ⟨rfl, by rw [decide_eq_false (fun z => nomatch z)]; exact q⟩
theorem x_isNS {u : Str} (q : Q (.bl false) H) : uIs (.str u) .non H Q := .inl ⟨rfl, by rw [decide_eq_false (fun z => nomatch z)]; exact q⟩
theorem x_isNotNS {u : Str} (q : Q (.bl true) H) : uIsNot (.str u) .non H Q := .inl ⟨rfl, by rw [decide_eq_false (fun z => nomatch z)]; exact q⟩
theorem x_isNB (q : Q (.bl false) H) : uIs (.bl b) .non H Q := .inl ⟨rfl, by rw [decide_eq_false (fun z => nomatch z)]; exact q⟩
theorem x_isNotNB (q : Q (.bl true) H) : uIsNot (.bl b) .non H Q := .inl ⟨rfl, by rw [decide_eq_false (fun z => nomatch z)]; exact q⟩
theorem x_isNR (q : Q (.bl false) H) : uIs (.ref p) .non H Q := .inl ⟨rfl, by rw [decide_eq_false (fun z => nomatch z)]; exact q⟩
theorem x_isNotNR (q : Q (.bl true) H) : uIsNot (.ref p) .non H Q := .inl ⟨rfl, by rw [decide_eq_false (fun z => nomatch z)]; exact q⟩
theorem x_isNN (q : Q (.bl true) H) : uIs .non .non H Q := .inl ⟨rfl, by rw [decide_eq_true rfl]; exact q⟩
theorem x_isNotNN (q : Q (.bl false) H) : uIsNot .non .non H Q := .inl ⟨rfl, by rw [decide_eq_true rfl]; exact q⟩
theorem x_eqR (h : scal x x = true) (q : Q (.bl true) H) : uEq K x x H Q := .inl ⟨h, by rw [decide_eq_true rfl]; exact q⟩
theorem x_neR (h : scal x x = true) (q : Q (.bl false) H) : uNe K x x H Q := .inl ⟨h, by rw [decide_eq_true rfl]; exact q⟩
theorem x_isN (q : Q (.bl (decide (x = .non))) H) : uIs x .non H Q := .inl ⟨rfl, q⟩
theorem x_isNotN (q : Q (.bl (!decide (x = .non))) H) : uIsNot x .non H Q := .inl ⟨rfl, q⟩
theorem x_isB {a b : Bool} (q : Q (.bl (decide (a = b))) H) : uIs (.bl a) (.bl b) H Q := .inr ⟨a, b, rfl, rfl, q⟩
theorem x_isNotB {a b : Bool} (q : Q (.bl (!decide (a = b))) H) : uIsNot (.bl a) (.bl b) H Q := .inr ⟨a, b, rfl, rfl, q⟩
theorem x_ixL (h : SqL K H p xs) (e : atI xs m = some v) (q : Q v H) : uIx K (.ref p) (.int m) H Q := .inl ⟨p, xs, m, v, rfl, rfl, h, e, q⟩
theorem x_ixT (h : SqT K H p xs) (e : atI xs m = some v) (q : Q v H) : uIx K (.ref p) (.int m) H Q := .inr (.inl ⟨p, xs, m, v, rfl, rfl, h, e, q⟩)
theorem x_ixS {u : Str} {c : Nat} (h : u.length ≤ sizeLine) (e : atI u.cps.toList m = some c) (q : Q (.str ⟨#[c]⟩) H) : uIx K (.str u) (.int m) H Q := .inr (.inr ⟨u, m, c, rfl, rfl, h, e, q⟩)
theorem x_setL {QH : Hp → Prop} (h : H p = some (.lst xs)) (e : ixN xs.length m = some j) (q : QH (upd H p (.lst (xs.set j v)))) : rSetL (.ref p) (.int m) v H QH := ⟨p, xs, m, j, rfl, rfl, h, e, q⟩
theorem x_lenL (h : SqL K H p xs) (q : Q (.int xs.length) H) : uLen K [.ref p] H Q := ⟨_, xs.length, rfl, .inl ⟨xs, h, rfl⟩, q⟩
theorem x_lenT (h : SqT K H p xs) (q : Q (.int xs.length) H) : uLen K [.ref p] H Q := ⟨_, xs.length, rfl, .inr ⟨xs, h, rfl⟩, q⟩
theorem x_lenS {u : Str} (h : u.length ≤ sizeLine) (q : Q (.int u.length) H) : uLen K [.str u] H Q := ⟨_, u.length, rfl, ⟨h, rfl⟩, q⟩
theorem x_abs (q : Q (.int (if m < 0 then -m else m)) H) : uAbs [.int m] H Q := ⟨m, rfl, q⟩
theorem x_intI (q : Q (.int m) H) : uInt [.int m] H Q := .inl ⟨m, rfl, q⟩
theorem x_intB (q : Q (.int (if b then 1 else 0)) H) : uInt [.bl b] H Q := .inr ⟨b, rfl, q⟩
theorem x_sum {ns : List Int} (h : SqL K H p (ns.map V.int)) (q : Q (.int ns.sum) H) : rSum K [.ref p] H Q := ⟨p, ns, rfl, h, q⟩
theorem x_all {bs : List Bool} (h : SqL K H p (bs.map V.bl)) (q : Q (.bl (bs.all id)) H) : rAll K [.ref p] H Q := ⟨p, bs, rfl, h, q⟩
theorem x_min2 (q : Q (.int (if n < m then n else m)) H) : uMin K [.int m, .int n] H Q := .inl ⟨m, n, rfl, q⟩
theorem x_max2 (q : Q (.int (if n > m then n else m)) H) : uMax K [.int m, .int n] H Q := .inl ⟨m, n, rfl, q⟩
/-! targets -/
theorem x_gName {QS : L2.St → Hp → Prop} (q : QS (σ.set i (some v)) H) : gName i v σ H QS := q
theorem x_gTup {QS : L2.St → Hp → Prop} {n : Nat} {t : TGs} (h : SqT K H p xs) (e : xs.length = n) (q : t xs σ H QS) : gTup K n t (.ref p) σ H QS := ⟨p, xs, rfl, h, e, q⟩
theorem x_gCons {QS : L2.St → Hp → Prop} {t : TG} {u : TGs} (q : t v σ H fun σ' H' => u xs σ' H' QS) : gCons t u (v :: xs) σ H QS := ⟨v, xs, rfl, q⟩
theorem x_gNil {QS : L2.St → Hp → Prop} (q : QS σ H) : gNil [] σ H QS := ⟨rfl, q⟩
theorem x_for {wi : TI} {g : TG} {tb : TS} (q : wi σ H fun J H1 => ∃ W : Nat → Nat → L2.St → Hp → Prop, (∃ m, W 0 m σ H1) ∧ ∀ i m σ H, W i m σ H →
      (J.stop i H ∧ D.nx σ H) ∨ (J.go i H ∧ ∃ N : L2.St → Hp → Prop, (∀ σ' H', N σ' H' → ∃ m', m' < m ∧ W (i + 1) m' σ' H') ∧ ∀ x H', J.yld i H x H' → g x σ H' fun σ2 H2 => tb { D with nx := N, ct := N, bk := D.nx } σ2 H2)) : tFor wi g tb D σ H := q
theorem x_iList {R : It → Hp → Prop} (q : te σ H fun x H1 => ∃ a, x = .ref a ∧ (∃ xs, SqL K H1 a xs) ∧ R (Itl K a) H1) : iList K te σ H R := q
theorem x_iTup {R : It → Hp → Prop} (q : te σ H fun x H1 => ∃ a, x = .ref a ∧ (∃ xs, SqT K H1 a xs) ∧ R (Itt K a) H1) : iTup K te σ H R := q
theorem x_iL {R : Addr → Prop} (h : SqL K H p xs) (q : R p) : ∃ a, V.ref p = .ref a ∧ (∃ xs, SqL K H a xs) ∧ R a := ⟨p, rfl, ⟨xs, h⟩, q⟩
theorem x_iT {R : Addr → Prop} (h : SqT K H p xs) (q : R p) : ∃ a, V.ref p = .ref a ∧ (∃ xs, SqT K H a xs) ∧ R a := ⟨p, rfl, ⟨xs, h⟩, q⟩
theorem x_iRng1 {R : It → Hp → Prop} (q : t' σ H fun vs H1 => ∃ j : Int, vs = [.int j] ∧ -(2 ^ 62) ≤ j ∧ j < 2 ^ 62 ∧ R (Itr 0 j.toNat) H1) : iRng1 t' σ H R := q
theorem x_rng1 {R : Int → Prop} (h1 : -(2 ^ 62) ≤ m) (h2 : m < 2 ^ 62) (q : R m) : ∃ j : Int, [V.int m] = [.int j] ∧ -(2 ^ 62) ≤ j ∧ j < 2 ^ 62 ∧ R j := ⟨m, rfl, h1, h2, q⟩
theorem x_iRng2 {R : It → Hp → Prop} (q : t' σ H fun vs H1 => ∃ i j : Int, vs = [.int i, .int j] ∧ (-(2 ^ 62) ≤ i ∧ i < 2 ^ 62 ∧ -(2 ^ 62) ≤ j ∧ j < 2 ^ 62) ∧ R (Itr i (j - i).toNat) H1) : iRng2 t' σ H R := q
theorem x_rng2 {R : Int → Int → Prop} (h1 : -(2 ^ 62) ≤ m ∧ m < 2 ^ 62 ∧ -(2 ^ 62) ≤ n ∧ n < 2 ^ 62) (q : R m n) : ∃ i j : Int, [V.int m, V.int n] = [.int i, .int j] ∧ (-(2 ^ 62) ≤ i ∧ i < 2 ^ 62 ∧ -(2 ^ 62) ≤ j ∧ j < 2 ^ 62) ∧ R i j := ⟨m, n, rfl, h1, q⟩
theorem x_iEnum {R : It → Hp → Prop} (q : t' σ H fun vs H1 => ∃ a xs, vs = [.ref a] ∧ SqL K H1 a xs ∧ R (Ite K a) H1) : iEnum K t' σ H R := q
theorem x_en {R : Addr → Prop} (h : SqL K H p xs) (q : R p) : ∃ a xs, [V.ref p] = [.ref a] ∧ SqL K H a xs ∧ R a := ⟨p, xs, rfl, h, q⟩
theorem x_iZip {R : It → Hp → Prop} (q : t' σ H fun vs H1 => ∃ a b xs ys, vs = [.ref a, .ref b] ∧ SqL K H1 a xs ∧ SqL K H1 b ys ∧ R (Itz K a b) H1) : iZip K t' σ H R := q
def LstK (xs : List V) (H : Hp) (Q : VK) : Prop := xs.length ≤ sizeLine ∧ ∀ p, H p = none → Q (.ref p) (upd H p (.lst xs))
def TupK (xs : List V) (H : Hp) (Q : VK) : Prop := xs.length ≤ sizeLine ∧ ∀ p, H p = none → Q (.ref p) (upd H p (.tup xs))
/-! with the state -/
section
variable {Ms M0 : List Addr} {L : List (Addr × HO)} {R : List Fa} {QH : Hp → Prop} {u : V}
theorem w_setL (hw : W K H0 Ms M0 H L R) (k : Nat) (hL : L[k]? = some (p, .lst xs)) (e : ixN xs.length m = some j) (q : ∀ H', W K H0 Ms M0 H' (L.set k (p, .lst (xs.set j v))) R → QH H') : rSetL (.ref p) (.int m) v H QH :=
  x_setL (hw.at k hL) e (q _ (hw.set k hL _))
theorem w_lst (hw : W K H0 Ms M0 H L R) (h : xs.length ≤ sizeLine) (q : ∀ p H', H p = none → W K H0 Ms M0 H' ((p, .lst xs) :: L) R → Q (.ref p) H') : LstK xs H Q :=
  ⟨h, fun p hp => q p _ hp (hw.new hp _)⟩
theorem x_lst (q : t' σ H fun xs H1 => LstK xs H1 Q) : tLst t' σ H Q := q
theorem x_tup (q : t' σ H fun xs H1 => TupK xs H1 Q) : tTup t' σ H Q := q
theorem w_tup {ds : List PyData} (hw : W K H0 Ms M0 H L R) (hd : RpAll K (av L M0) H xs ds) (h : xs.length ≤ sizeLine) (q : ∀ p H', H p = none → W K H0 Ms M0 H' L (.rp (.ref p) (.tuple ds) :: R) → Q (.ref p) H') : TupK xs H Q :=
  ⟨h, fun p hp => q p _ hp (hw.newTup hp hd)⟩
theorem w_tupC (hw : W K H0 Ms M0 H L R) (h : xs.length ≤ sizeLine) (q : ∀ p H', H p = none → W K H0 Ms M0 H' ((p, .tup xs) :: L) R → Q (.ref p) H') : TupK xs H Q :=
  ⟨h, fun p hp => q p _ hp (hw.new hp _)⟩
theorem w_slL (hw : W K H0 Ms M0 H L R) {lo hi : Option Int} (h : SqL K H p xs) (q : ∀ p H', H p = none → W K H0 Ms M0 H' ((p, .lst (cutV xs lo hi)) :: L) R → Q (.ref p) H') : uSl K (.ref p) lo hi H Q :=
  .inl ⟨p, xs, rfl, h, fun p hp => q p _ hp (hw.new hp _)⟩
theorem w_listL (hw : W K H0 Ms M0 H L R) (h : SqL K H p xs) (q : ∀ p H', H p = none → W K H0 Ms M0 H' ((p, .lst xs) :: L) R → Q (.ref p) H') : uList K [V.ref p] H Q := ⟨p, xs, rfl, .inl h, fun l hl => q l _ hl (hw.new hl _)⟩
theorem w_listT (hw : W K H0 Ms M0 H L R) (h : SqT K H p xs) (q : ∀ p H', H p = none → W K H0 Ms M0 H' ((p, .lst xs) :: L) R → Q (.ref p) H') : uList K [V.ref p] H Q := ⟨p, xs, rfl, .inr h, fun l hl => q l _ hl (hw.new hl _)⟩
end
/-! branches -/
theorem x_ifT (h : A) : if true = true then A else B := iteT h
theorem x_ifF (h : B) : if false = true then A else B := iteF h
theorem x_ifd {P : Prop} [Decidable P] (h1 : P → A) (h2 : ¬ P → B) : if decide P = true then A else B := by
  by_cases h : P
  · rw [decide_eq_true h]; exact iteT (h1 h)
  · rw [decide_eq_false h]; exact iteF (h2 h)
theorem x_ifn {P : Prop} [Decidable P] (h1 : ¬ P → A) (h2 : P → B) : if (!decide P) = true then A else B := by
  by_cases h : P
  · rw [decide_eq_true h]; exact iteF (h2 h)
  · rw [decide_eq_false h]; exact iteT (h1 h)
theorem x_ifP {P : Prop} [Decidable P] (h : P) (q : A) : if decide P = true then A else B := by rw [decide_eq_true h]; exact iteT q
theorem x_ifN {P : Prop} [Decidable P] (h : ¬ P) (q : B) : if decide P = true then A else B := by rw [decide_eq_false h]; exact iteF q
theorem x_ifnP {P : Prop} [Decidable P] (h : P) (q : B) : if (!decide P) = true then A else B := by rw [decide_eq_true h]; exact iteF q
theorem x_ifnN {P : Prop} [Decidable P] (h : ¬ P) (q : A) : if (!decide P) = true then A else B := by rw [decide_eq_false h]; exact iteT q
theorem x_ifnT (h : B) : if (!true) = true then A else B := iteF h
theorem x_ifnF (h : A) : if (!false) = true then A else B := iteT h
theorem x_nx {n bk ct : L2.St → Hp → Prop} {r : VK} (q : n σ H) : Ends.nx (Ends.mk n r bk ct) σ H := q
theorem x_rt {n bk ct : L2.St → Hp → Prop} {r : VK} (q : r v H) : Ends.rt (Ends.mk n r bk ct) v H := q
theorem x_bk {n bk ct : L2.St → Hp → Prop} {r : VK} (q : bk σ H) : Ends.bk (Ends.mk n r bk ct) σ H := q
theorem x_ct {n bk ct : L2.St → Hp → Prop} {r : VK} (q : ct σ H) : Ends.ct (Ends.mk n r bk ct) σ H := q
theorem x_brk (q : D.bk σ H) : tBreak D σ H := q
theorem x_cont (q : D.ct σ H) : tCont D σ H := q
theorem x_ifbT (h : b = true) (q : A) : if b = true then A else B := by rw [h]; exact iteT q
theorem x_ifbF (h : b = false) (q : B) : if b = true then A else B := by rw [h]; exact iteF q
theorem x_ifb (h1 : b = true → A) (h2 : b = false → B) : if b = true then A else B := by
  cases b
  · exact iteF (h2 rfl)
  · exact iteT (h1 rfl)
end
end Fw
namespace Fw
open PySem PySem.Spec PyProof.Rows L2
/-! ### calls with keywords, defaults -/
structure FnN (P : Program) (w : World) (K : PySem.W.Frag) (mg : Str → Option Value) (base : Heap) (CX : CXT) (k : Nat) (x : Str) (n : Nat) (ks : List Str) (gV : List V → List V → List V) (sp : Sp) : Prop where
  ex : ∃ (f : Addr) (fd : FuncData) (ps : List Str) (g : List Value → List Value → List Value), mg x = some (.ref f) ∧ PySem.W.keepIn K (.ref f) = true ∧ KBn K fd ps n ks g gV ∧ FnOk P w K mg base CX k f fd ps sp
section
variable {X : Cx} {CX : CXT} {k j n : Nat} {ks : List Str} {gV : List V → List V → List V} {sp : Sp} {E : XK} {x : Str} {p pos : Pos} {e : Expr} {es : List Expr} {kws : List Keyword} {t tk : TA}
theorem pe_fnN (F : FnN X.prog X.w X.K X.mg X.base CX k x n ks gV sp) (hr : Room j X.A) (hk : k ≤ j) (hg : Gl X x) (hx : Passes CX X E) (ha : PA X (e :: es) t) (hkw : PK X kws tk) (hall : (backToKw pos (keywordEach kws X.env)).all (·.1.isSome) = true := by rfl) (hks : (backToKw pos (keywordEach kws X.env)).filterMap (·.1) = ks := by rfl)
    (hdb : (x == ("__debug__" : Str)) = false := by decide) (he : starEach (e :: es) X.env = (false, eval e X.env) :: starEach es X.env := by rfl)
    (hpl : ((backTo pos (starEach (e :: es) X.env)).any (·.1) || (backToKw pos (keywordEach kws X.env)).any (·.1.isNone)) = false := by rfl) :
    PE X (.Call (.Name x p) (e :: es) kws pos) (tCallN n ks.length sp gV E t tk) := by
  obtain ⟨f, fd, ps, g, hm, hkp, hb, F⟩ := F.ex
  exact pe_callN F (hr.mono hk) hg hm hkp hb hx ha hkw hall hks hdb he hpl
theorem pe_fnN0 (F : FnN X.prog X.w X.K X.mg X.base CX k x n ks gV sp) (hr : Room j X.A) (hk : k ≤ j) (hg : Gl X x) (hx : Passes CX X E) (hkw : PK X kws tk) (hall : (backToKw pos (keywordEach kws X.env)).all (·.1.isSome) = true := by rfl) (hks : (backToKw pos (keywordEach kws X.env)).filterMap (·.1) = ks := by rfl)
    (hdb : (x == ("__debug__" : Str)) = false := by decide)
    (hpl : ((backTo pos (starEach [] X.env)).any (·.1) || (backToKw pos (keywordEach kws X.env)).any (·.1.isNone)) = false := by rfl) :
    PE X (.Call (.Name x p) [] kws pos) (tCallN n ks.length sp gV E tNil tk) := by
  obtain ⟨f, fd, ps, g, hm, hkp, hb, F⟩ := F.ex
  refine ⟨fun pins s σ H Q I h => ?_⟩
  refine wpAny_Call_Name_kw (ld_glob I hg hm ?_ hdb)
  refine PySem.W.callWith_KW0 (h₀ := X.base) I.ok.mod.kin hkp hall ?_ hpl
  refine thn (hkw.run pos pins s σ H _ I h) fun ws s2 ⟨zs, H2, I2, rz, l1, l2, q2⟩ => ⟨I2.kIn, ?_⟩
  rw [hks]
  exact run_fnN F (hr.mono hk) hb hx I2 .nil rz l1 l2 q2
theorem x_callN {m : Nat} {σ : L2.St} {H : Hp} {Q : VK} (q : t σ H fun vs H1 => tk σ H1 fun zs H2 => vs.length = n ∧ zs.length = m ∧ sp (gV vs zs) H2 Q E) : tCallN n m sp gV E t tk σ H Q := q
theorem x_lens {n m n' m' : Nat} {P : Prop} (h1 : n = n') (h2 : m = m') (q : P) : n = n' ∧ m = m' ∧ P := ⟨h1, h2, q⟩
end
/-- all parameters are written -/
theorem kbn_all {K : PySem.W.Frag} {x qual : Str} {params : Arguments} {body : List Stmt} {scope : Scope} {kws : List (Str × V)} {f : Addr} {fd : FuncData} {ps : List Str} (F : FunD K x qual params body scope [] kws f fd) (n : Nat) (ks : List Str) (g : {α : Type} → List α → List α → List α)
    (hrel : ∀ {vs zs : List V} {us ws : List Value}, Vals vs us → Vals zs ws → Vals (g vs zs) (g us ws))
    (h : ∀ (kV doc pm : Value) (an : Option Addr) (cdv ct : Value) (us ws : List Value), us.length = n → ws.length = ks.length → bindArgs (PySem.W.fnOf x qual params body scope .none kV doc pm an cdv ct) ⟨us, ks.zip ws⟩ = pure (ps.zip (g us ws))) : KBn K fd ps n ks (fun us ws => g us ws) (fun vs zs => g vs zs) := by
  obtain ⟨oc, od, dV, kV, doc, pm, an, cdv, ct, osl, rfl, lk, hcd, hD, hK⟩ := F.ex
  rcases hD with ⟨_, rfl⟩ | ⟨e, _⟩
  · exact ⟨fun s us ws X l1 l2 => .of_eq (h kV doc pm an cdv ct us ws l1 l2), fun r1 r2 => hrel r1 r2⟩
  · exact absurd rfl e
/-! ### a def's body with its slots written out, from FunD -/
section
variable {P : Program} {w : World} {K : PySem.W.Frag} {mg : Str → Option Value} {base : Heap}
theorem okD {x qual : Str} {st : Stmt} {dvs : List V} {kws : List (Str × V)} {f : Addr} {fd : FuncData} {N ps : List Str} {k : Nat} {sp : Sp} (F : FunD K x qual (defArgs st) (defBody st) (defScope st) dvs kws f fd) (S : FnScope N ps (defScope st)) (len : ∀ vs H Q E, sp vs H Q E → vs.length = ps.length)
    (hbody : ∀ (cdv : Value) (A : Around) (outer : List Env) (s : Shared) (H : Hp) (vs : List V) (Q : VK) (E : XK), Room k (A.deeper (envOfC qual (defScope st) s.heap.objs.size f cdv)) → sp vs H Q E →
      ∃ t σ, PSs (cxOf CX0 P w K mg base N qual (defScope st) f cdv A outer s H E).nox (defBody st) t ∧ L2.start N vs = σ ∧ t { nx := fun _ H' => Q .non H', rt := Q } σ H) : FnOk P w K mg base CX0 (k + 1) f fd ps sp := by
  refine F.ok S len fun cdv A outer s H vs Q E hr h => ?_
  obtain ⟨t, σ, h1, rfl, h2⟩ := hbody cdv A outer s H vs Q E hr h
  exact ⟨t, h1.nox, h2⟩
end
end Fw
namespace Fw
open PySem PySem.Spec PyProof.Rows L2
/-! ### a, .., *rest = a list -/
section
variable {X : Cx} {pos : Pos}
theorem pgs_star {e : Expr} {es : List Expr} {t : TG} {u : TGs} {sp : Pos} (h1 : PG X e t) (h2 : PGs X es u)
    (hs : (assignEach (.Starred e sp :: es) X.env).map (·.2) = assign e X.env :: (assignEach es X.env).map (·.2) := by rfl) : PGs X (.Starred e sp :: es) (gCons t u) := by
  refine ⟨fun pins s σ H vs us Q I r h => ?_⟩
  obtain ⟨v, vr, e1, h⟩ := h
  subst e1
  cases r with
  | cons r rr =>
    rw [hs]
    refine assignInOrder_cons (thn (h1.run pins s σ H _ _ _ I r h) fun _ s1 ⟨σ1, H1, I1, q1⟩ => ?_)
    exact h2.run pins s1 σ1 H1 _ _ Q I1 rr q1
def gStL (K : PySem.W.Frag) (i : Nat) (t : TGs) : TG := fun v σ H Q => ∃ a xs, v = .ref a ∧ SqL K H a xs ∧ i ≤ xs.length ∧ xs.length ≤ 16384 ∧ ∀ D, H D = none → t (xs.take i ++ [.ref D]) σ (upd H D (.lst (xs.drop i))) Q
theorem pg_stL {K : PySem.W.Frag} {es : List Expr} {k i : Nat} {t : TGs} (hc : X.calm = true) (h : PGs X es t)
    (hn : (assignEach es X.env).length = i + 1 := by rfl) (hst : (assignEach es X.env).findIdx? (·.1) = some i := by rfl) (hK : X.K = K := by rfl) : PG X (.Tuple es k pos) (gStL K i t) := by
  subst hK
  refine ⟨fun pins s σ H v u Q I r hw => ?_⟩
  obtain ⟨a, xs, e1, hq, hl, hz4, hw⟩ := hw
  subst e1
  cases r
  obtain ⟨its, rv, pl, hz⟩ := I.list hq
  have hl' : s.heap.IsList a its.toArray := by
    obtain ⟨o, m, e, c, d, q⟩ := pl
    exact ⟨o, e, c, m, q⟩
  have hlen : its.length = xs.length := rv.length.symm
  have hh := I.ok.hd hc
  have hlt : a ≠ s.heap.objs.size := by obtain ⟨o, ho, _⟩ := hl'; exact Nat.ne_of_lt (Heap.lt_size ho)
  rw [PyProof.Rows.assign_Tuple]
  refine wpAny_bind (wpAny_standAt ?_)
  unfold unpack
  rw [hn, hst]
  refine wpAny_bind (wpAny_holding ?_)
  unfold unpackItems
  refine wpAny_bind ?_
  unfold notIterableAtAll
  refine wpAny_bind (wpAny_specialOf hl'.typeIs slot_list_iter.lookup ?_)
  refine wpAny_pure ?_
  simp only [Bool.false_eq_true, if_false]
  refine wpAny_bind (wpAny_holding (wpAny_pyIter_list hl' ?_))
  refine wpAny_bind (wpAny_holding (PySem.W.kun_draw hlt i 0 _ _ ⟨_, Heap.get?_push_size _ rfl, rfl, rfl⟩ (hl'.push _) (by rw [List.size_toArray]; omega) fun h₁ hit₁ hs₁ => ?_))
  have hl₁ : h₁.IsList a its.toArray := (hl'.push _).extBut hs₁.extBut hlt
  rw [Nat.zero_add] at hit₁
  have hit₁' := hit₁
  obtain ⟨oi, hoi, _⟩ := hit₁'
  have hl₁' := hl₁
  obtain ⟨ol, hol, _⟩ := hl₁'
  rw [List.drop_zero]
  have hfl : (its.take i).length = i := by rw [List.length_take]; omega
  rw [if_neg (show ¬ ((its.toArray.toList.take i).length < i) by show ¬ (its.take i).length < i; rw [hfl]; omega)]
  refine wpAny_bind (wpAny_holding (PySem.W.kun_collect (s := { s with heap := h₁ }) (T := "list_iterator") (.inr (.inr (.inl rfl))) (Walks.list (A := X.A.in1) hh s.heap.objs.size a hlt its.toArray) (fun j u st => st.1.typeIs) (k := i) (by rw [List.size_toArray]; omega) ⟨hit₁, hl₁⟩ (Heap.lt_size hoi) (Heap.lt_size hol) (fun h₂ tk hk => ?_) (by rw [List.size_toArray]; omega)))
  show wpAny _ _ (if (its.drop i).length < i + 1 - 1 - i then _ else _) _ _ _
  rw [if_neg (by omega)]
  have he : ∀ b o, s.heap.get? b = some o → h₂.get? b = some o := fun b o e => hk b o (Nat.ne_of_lt (Heap.lt_size e)) (hs₁.extBut b o (Nat.ne_of_lt (Heap.lt_size e)) (Heap.get?_push_of_some _ e))
  have I2 : Inv X pins σ H { s with heap := h₂, toks := tk } := I.kept (t' := tk) he
  have hmid : (its.drop i).length - (i + 1 - 1 - i) = (its.drop i).length := by omega
  show wpAny _ _ (newList ((its.drop i).take ((its.drop i).length - (i + 1 - 1 - i))) >>= fun d => pure (its.take i ++ [d] ++ (its.drop i).drop ((its.drop i).length - (i + 1 - 1 - i)))) _ _ _
  rw [hmid, List.take_length, List.drop_length]
  have hrl : (its.drop i).length ≤ sizeLine := by rw [List.length_drop, sizeLine_eq]; omega
  refine wpAny_bind (wpAny_newList ?_ hrl)
  refine wpAny_pure ?_
  rw [List.append_nil]
  have hf : H h₂.objs.size = none := I2.hok.fresh (Nat.le_refl _)
  have I3 := I2.laid (a := h₂.objs.size) (o := .lst (xs.drop i)) (h' := h₂.push { cls := .type "list", data := .seq (its.drop i).toArray 0 }) (t' := tk) (fun b u e => Heap.get?_push_of_some _ e) (Nat.le_refl _) ⟨by rw [List.length_drop]; omega, its.drop i, 0, rv.drop i, Heap.get?_push_size _ rfl⟩
  exact h.run pins _ σ _ (xs.take i ++ [.ref h₂.objs.size]) _ Q I3 ((rv.take i).append (.cons (show RelV (.ref h₂.objs.size) (.ref h₂.objs.size) from rfl) .nil)) (hw _ hf)
def gU (K : PySem.W.Frag) (n : Nat) (t : TGs) : TG := gUnl K n t
theorem pg_uL {K : PySem.W.Frag} {es : List Expr} {k : Nat} {t : TGs} {n : Nat} (hc : X.calm = true) (h : PGs X es t)
    (hn : (assignEach es X.env).length = n := by rfl) (hst : (assignEach es X.env).findIdx? (·.1) = none := by rfl) (hK : X.K = K := by rfl) : PG X (.Tuple es k pos) (gU K n t) := hK ▸ pg_unl hc h hn hst
theorem x_gStL {K : PySem.W.Frag} {i : Nat} {t : TGs} {σ : L2.St} {H H0 : Hp} {QS : L2.St → Hp → Prop} {p : Addr} {xs : List V} {Ms M0 : List Addr} {L : List (Addr × HO)} {R : List Fa} (hw : W K H0 Ms M0 H L R) (h : SqL K H p xs) (h1 : i ≤ xs.length) (h2 : xs.length ≤ 16384)
    (q : ∀ D H', H D = none → W K H0 Ms M0 H' ((D, .lst (xs.drop i)) :: L) R → t (xs.take i ++ [.ref D]) σ H' QS) : gStL K i t (.ref p) σ H QS := ⟨p, xs, rfl, h, h1, h2, fun D hD => q D _ hD (hw.new hD _)⟩
theorem x_gStL1 {K : PySem.W.Frag} {t : TGs} {σ : L2.St} {H H0 : Hp} {QS : L2.St → Hp → Prop} {p : Addr} {x : V} {xs : List V} {Ms M0 : List Addr} {L : List (Addr × HO)} {R : List Fa} (hw : W K H0 Ms M0 H L R) (h : SqL K H p (x :: xs)) (h2 : xs.length ≤ 16383)
    (q : ∀ D H', H D = none → W K H0 Ms M0 H' ((D, .lst xs) :: L) R → t [x, .ref D] σ H' QS) : gStL K 1 t (.ref p) σ H QS := x_gStL hw h (Nat.succ_le_succ (Nat.zero_le _)) (by rw [List.length_cons]; omega) q
theorem x_gU {K : PySem.W.Frag} {n : Nat} {t : TGs} {σ : L2.St} {H : Hp} {QS : L2.St → Hp → Prop} {p : Addr} {xs : List V} (h : SqL K H p xs) (h1 : xs.length = n) (q : t xs σ H QS) : gU K n t (.ref p) σ H QS := ⟨p, xs, rfl, h, h1, q⟩
theorem x_gU2 {K : PySem.W.Frag} {t : TGs} {σ : L2.St} {H : Hp} {QS : L2.St → Hp → Prop} {p : Addr} {x y : V} (h : SqL K H p [x, y]) (q : t [x, y] σ H QS) : gU K 2 t (.ref p) σ H QS := x_gU h rfl q
theorem x_gU3 {K : PySem.W.Frag} {t : TGs} {σ : L2.St} {H : Hp} {QS : L2.St → Hp → Prop} {p : Addr} {x y z : V} (h : SqL K H p [x, y, z]) (q : t [x, y, z] σ H QS) : gU K 3 t (.ref p) σ H QS := x_gU h rfl q
theorem x_asgG {te : TE} {g : TG} {D : Ends} {σ : L2.St} {H : Hp} (q : te σ H fun x H1 => g x σ H1 D.nx) : tAsg te g D σ H := q
end
end Fw
namespace Fw
open PySem PySem.Spec PyProof.Rows L2
/-! ### d.update(e) -/
section
variable {X : Cx} {σ : L2.St} {H H0 : Hp}
def rUpdate : V → List V → Hp → VK → Prop := fun x vs H Q => ∃ a b kvs more, x = .ref a ∧ vs = [.ref b] ∧ H a = some (.dK kvs) ∧ H b = some (.dK more) ∧ a ≠ b ∧ kvs.length + more.length ≤ 1000 ∧ Q .non (upd H a (.dK (mergeK kvs more)))
theorem length_putK {κ : Type} [DecidableEq κ] (kvs : List (κ × V)) (k : κ) (v : V) : (putK kvs k v).length ≤ kvs.length + 1 := by
  unfold putK
  split
  · rw [List.length_map]; omega
  · rw [List.length_append]; exact Nat.le_refl _
theorem length_mergeK : ∀ (more kvs : List (Key × V)), (mergeK kvs more).length ≤ kvs.length + more.length
  | [], kvs => Nat.le_refl _
  | m :: r, kvs => by
    show (mergeK (putK kvs m.1 m.2) r).length ≤ _
    have h1 := length_mergeK r (putK kvs m.1 m.2)
    have h2 := length_putK kvs m.1 m.2
    rw [List.length_cons]
    omega
theorem mt_update : MtR X "dict.update" rUpdate := by
  intro pins s σ H x vs v us Q I rx rv h
  obtain ⟨a, b, kvs, more, rfl, rfl, ha, hb, hne, hz, q⟩ := h
  cases rx
  obtain ⟨u, rfl, ru⟩ := vals1 rv
  cases ru
  obtain ⟨z, hd, ws, rel, dd⟩ := dk_of I.hok ha
  obtain ⟨z2, hd2, ws2, rel2, dd2⟩ := dk_of I.hok hb
  have l1 := rel.length
  have l2 := rel2.length
  refine call_meetsIn PySem.F.slot_dict_update dd.typeIs PySem.F.entry_dict_update (PySem.F.args_dict_update_2 _ _) (meets_dict_update (mixKind X.prog X.w) a b hne hd2) ⟨ws, ws2, dd, dd2, by rw [sizeLine_eq]; omega, fun h' dd' _ hs => ?_⟩
  have he : ∃ q, h'.get? a = some q := let ⟨q, _, _, hq, _⟩ := dd'; ⟨q, hq⟩
  have hl := length_mergeK more kvs
  exact ⟨.non, _, d_write (t' := s.toks) I (by rw [ha]; exact True.intro) hs he (dk_new (by rw [sizeLine_eq]; omega) hd (KV.merge rel2 rel) dd'), rfl, q⟩
theorem pe_gI {x : Str} {i : Int} {pos : Pos} (hg : Gl X x) (hm : ∃ t, X.mg x = some (.int i t)) (hd : (x == ("__debug__" : Str)) = false := by decide) : PE X (.Name x pos) (tC (.int i)) := by
  obtain ⟨t, hm⟩ := hm
  exact pe_glob hg hm ⟨t, rfl⟩ hd
theorem pe_gS {x z : Str} {pos : Pos} (hg : Gl X x) (hm : ∃ t, X.mg x = some (.str z t)) (hd : (x == ("__debug__" : Str)) = false := by decide) : PE X (.Name x pos) (tC (.str z)) := by
  obtain ⟨t, hm⟩ := hm
  exact pe_glob hg hm ⟨t, rfl⟩ hd
theorem pe_gR {x : Str} {a : Addr} {pos : Pos} (hg : Gl X x) (hm : X.mg x = some (.ref a)) (hd : (x == ("__debug__" : Str)) = false := by decide) : PE X (.Name x pos) (tC (.ref a)) := pe_glob hg hm rfl hd
/-! ### steps for dicts -/
theorem x_dget {td ty : TE} {Q : VK} (q : td σ H fun x H1 => ty σ H1 fun y H2 => ∃ a v, x = .ref a ∧ DGet H2 a y (some v) ∧ Q v H2) : tDGet td ty σ H Q := q
theorem x_dgetS {p : Addr} {kvs : List (Key × V)} {x : Str} {v : V} {F : V → Prop} (h : H p = some (.dK kvs)) (e : valV kvs (.inr x) = some v) (q : F v) : ∃ a v, V.ref p = .ref a ∧ DGet H a (.str x) (some v) ∧ F v :=
  ⟨p, v, rfl, .inl ⟨kvs, .inr x, .inl h, rfl, e.symm⟩, q⟩
def uIxD (K : PySem.W.Frag) (w : World) : R2 := rIxD K w
theorem ix_D {K : PySem.W.Frag} {w : World} (hK : X.K = K := by rfl) (hw : X.w = w := by rfl) : IxR X (uIxD K w) := hK ▸ hw ▸ ix_kdict
theorem x_ixD {K : PySem.W.Frag} {w : World} {p : Addr} {z : Str} {v : V} {Q : VK} (h : KDct K w p z v) (q : Q v H) : uIxD K w (.ref p) (.str z) H Q := ⟨p, z, v, rfl, rfl, h, q⟩
theorem x_callL {i : Nat} {f : Addr} {sp : Sp} {dvs : List V} {E : XK} {t : TA} {Q : VK} (h : σ[i]? = some (some (.ref f))) (q : t σ H fun vs H1 => sp (vs ++ dvs) H1 Q E) : tCallL i f sp dvs E t σ H Q := ⟨h, q⟩
end
end Fw
namespace Fw
open PySem PySem.Spec PyProof.Rows L2
section
variable {X : Cx} {σ : L2.St} {H H0 : Hp} {K : PySem.W.Frag} {Q : VK} {p : Addr} {xs : List V} {x : V}
/-! ### in, not in -/
def uIn (K : PySem.W.Frag) : R2 := fun x y H Q => rIn K false x y H Q ∨ (∃ (c : Nat) (z : Str), x = .str ⟨#[c]⟩ ∧ y = .str z ∧ Q (.bl (decide (c ∈ z.cps.toList))) H) ∨ rInD K x y H Q
def uNotIn (K : PySem.W.Frag) : R2 := fun x y H Q => rIn K true x y H Q ∨ (∃ (c : Nat) (z : Str), x = .str ⟨#[c]⟩ ∧ y = .str z ∧ Q (.bl (!decide (c ∈ z.cps.toList))) H) ∨ rNotInD K x y H Q
theorem Room.un65 {k : Nat} {A : Around} (r : Room k A) : A.units + 65 < cLine := by have := r.un; omega
theorem op_inU {k : Nat} (hr : Room k X.A) (hK : X.K = K := by rfl) : OpR X (compareOp .In) (uIn K) := hK ▸ OpR.or op_in_seq (OpR.or op_in_sign (op_inD (Room.un65 hr)))
theorem op_notInU {k : Nat} (hr : Room k X.A) (hK : X.K = K := by rfl) : OpR X (compareOp .NotIn) (uNotIn K) := hK ▸ OpR.or op_notIn_seq (OpR.or op_notIn_sign (op_notInD (Room.un65 hr)))
theorem x_inL (h : SqL K H p xs) (h1 : flatV x = true) (h2 : xs.all flatV = true) (q : Q (.bl (inV x xs)) H) : uIn K x (.ref p) H Q := .inl ⟨p, xs, rfl, .inl h, h1, h2, q⟩
theorem x_inT (h : SqT K H p xs) (h1 : flatV x = true) (h2 : xs.all flatV = true) (q : Q (.bl (inV x xs)) H) : uIn K x (.ref p) H Q := .inl ⟨p, xs, rfl, .inr h, h1, h2, q⟩
theorem x_notInL (h : SqL K H p xs) (h1 : flatV x = true) (h2 : xs.all flatV = true) (q : Q (.bl (!inV x xs)) H) : uNotIn K x (.ref p) H Q := .inl ⟨p, xs, rfl, .inl h, h1, h2, q⟩
theorem x_notInT (h : SqT K H p xs) (h1 : flatV x = true) (h2 : xs.all flatV = true) (q : Q (.bl (!inV x xs)) H) : uNotIn K x (.ref p) H Q := .inl ⟨p, xs, rfl, .inr h, h1, h2, q⟩
theorem x_inSign {c : Nat} {z : Str} (q : Q (.bl (decide (c ∈ z.cps.toList))) H) : uIn K (.str ⟨#[c]⟩) (.str z) H Q := .inr (.inl ⟨c, z, rfl, rfl, q⟩)
/-! ### lists: +, dict displays, reversed slices -/
variable {Ms M0 : List Addr} {L : List (Addr × HO)} {R : List Fa} {q : Addr} {ys : List V}
theorem w_cat (hw : W K H0 Ms M0 H L R) (h1 : H p = some (.lst xs)) (h2 : H q = some (.lst ys)) (hz : xs.length + ys.length ≤ sizeLine) (k : ∀ p H', H p = none → W K H0 Ms M0 H' ((p, .lst (xs ++ ys)) :: L) R → Q (.ref p) H') : uAdd K (.ref p) (.ref q) H Q :=
  .inr (.inr (.inl ⟨p, q, xs, ys, rfl, rfl, h1, h2, hz, fun l hl => k l _ hl (hw.new hl _)⟩))
theorem w_rep (hw : W K H0 Ms M0 H L R) {k : Int} (h1 : H p = some (.lst xs)) (h2 : -(2 ^ 63) ≤ k) (h3 : k < 2 ^ 63) (hz : xs.length * k.toNat ≤ sizeLine) (c : ∀ p H', H p = none → W K H0 Ms M0 H' ((p, .lst (List.replicate k.toNat xs).flatten) :: L) R → Q (.ref p) H') : uMul K (.ref p) (.int k) H Q :=
  .inr (.inl ⟨p, k, xs, rfl, rfl, h1, h2, h3, hz, fun l hl => c l _ hl (hw.new hl _)⟩)
def toKey : V → Key
  | .str x => .inr x
  | .int i => .inl i
  | _ => .inl 0
def DispK (p : Addr) (ps : List (V × V)) (H : Hp) (Q : VK) : Prop := H p = some (.dK []) ∧ ∃ kvs : List (Key × V), ps = kvs.map (fun kv => (kV kv.1, kv.2)) ∧ kvs.length ≤ 15 ∧ Q (.ref p) (upd H p (.dK (mergeK [] kvs)))
def RevK (K : PySem.W.Frag) (x : V) (H : Hp) (Q : VK) : Prop := ∃ a xs, x = .ref a ∧ SqL K H a xs ∧ ∀ p, H p = none → Q (.ref p) (upd H p (.lst xs.reverse))
theorem w_disp {trs : List (TE × TE)} (hw : W K H0 Ms M0 H L R) (k : ∀ p H', H p = none → W K H0 Ms M0 H' ((p, .dK []) :: L) R → tPairs trs σ H' fun ps H2 => DispK p ps H2 Q) : tDisp trs σ H Q :=
  fun p hp => k p _ hp (hw.new hp _)
theorem x_pairs {tk tv : TE} {r : List (TE × TE)} {QP : List (V × V) → Hp → Prop} (k : tk σ H fun x H1 => tv σ H1 fun y H2 => tPairs r σ H2 fun ps H3 => QP ((x, y) :: ps) H3) : tPairs ((tk, tv) :: r) σ H QP := k
theorem x_pairs0 {QP : List (V × V) → Hp → Prop} (k : QP [] H) : tPairs [] σ H QP := k
theorem w_dispEnd {ps : List (V × V)} (hw : W K H0 Ms M0 H L R) (n : Nat) (hL : L[n]? = some (p, .dK [])) (e : ps = (ps.map fun p => (toKey p.1, p.2)).map fun kv => (kV kv.1, kv.2)) (hl : ps.length ≤ 15)
    (k : ∀ H', W K H0 Ms M0 H' (L.set n (p, .dK (mergeK [] (ps.map fun p => (toKey p.1, p.2))))) R → Q (.ref p) H') : DispK p ps H Q :=
  ⟨hw.at n hL, _, e, by rw [List.length_map]; exact hl, k _ (hw.set n hL _)⟩
theorem w_update {n m : Nat} {kvs more : List (Key × V)} (hw : W K H0 Ms M0 H L R) (h1 : L[n]? = some (p, .dK kvs)) (h2 : L[m]? = some (q, .dK more)) (hnm : n ≠ m) (hz : kvs.length + more.length ≤ 1000)
    (k : ∀ H', W K H0 Ms M0 H' (L.set n (p, .dK (mergeK kvs more))) R → Q .non H') : rUpdate (.ref p) [.ref q] H Q := ⟨p, q, kvs, more, rfl, rfl, hw.at n h1, hw.at m h2, hw.ne h1 h2 hnm, hz, k _ (hw.set n h1 _)⟩
theorem x_bm {T : String} {r : V → List V → Hp → VK → Prop} {to : TE} {t : TA} (k : to σ H fun x H1 => tyV K T x H1 ∧ t σ H1 fun xs H2 => r x xs H2 Q) : tBM K T r to t σ H Q := k
theorem x_bm0 {T : String} {r : V → List V → Hp → VK → Prop} {to : TE} (k : to σ H fun x H1 => tyV K T x H1 ∧ r x [] H1 Q) : tBM0 K T r to σ H Q := k
theorem x_tyL {B : Prop} (h : H p = some (.lst xs)) (k : B) : tyV K "list" (.ref p) H ∧ B := ⟨.inl ⟨rfl, _, SqL.of h⟩, k⟩
theorem x_tyD {B : Prop} {kvs : List (Key × V)} (h : H p = some (.dK kvs)) (k : B) : tyV K "dict" (.ref p) H ∧ B := ⟨.inr (.inr (.inl ⟨rfl, .inl ⟨_, h⟩⟩)), k⟩
theorem x_tyS {B : Prop} {z : Str} (k : B) : tyV K "str" (.str z) H ∧ B := ⟨rfl, k⟩
theorem w_append {n : Nat} (hw : W K H0 Ms M0 H L R) (h1 : L[n]? = some (p, .lst xs)) (hz : xs.length < sizeLine) (k : ∀ H', W K H0 Ms M0 H' (L.set n (p, .lst (xs ++ [x]))) R → Q .non H') : rAppend (.ref p) [x] H Q := ⟨p, xs, x, rfl, rfl, hw.at n h1, hz, k _ (hw.set n h1 _)⟩
section
variable {o e : Expr} {es : List Expr} {to : TE} {t : TA} {name : Str} {apos cpos : Pos} {T id : String} {r : V → List V → Hp → VK → Prop}
theorem pe_m0 (pa : PlainAttrs T) (slot : Slot T name id) (hty : typeOf (.builtin id) = pure (.type "method_descriptor")) (hm : MtR X id r) (ho : PE X o to)
    (hbase : attributeBase o name X.env (eval o X.env) = eval o X.env := by rfl) (hline : (apos.endLine == cpos.line) = true := by rfl) (hK : X.K = K := by rfl) : PE X (.Call (.Attribute o name apos) [] [] cpos) (tBM0 K T r to) := hK ▸ pe_bm0 pa slot hty hm ho hbase hline
theorem pe_m1 (pa : PlainAttrs T) (slot : Slot T name id) (hty : typeOf (.builtin id) = pure (.type "method_descriptor")) (hm : MtR X id r) (ho : PE X o to) (ha : PA X (e :: es) t)
    (hbase : attributeBase o name X.env (eval o X.env) = eval o X.env := by rfl)
    (hfew : ((backTo cpos (starEach (e :: es) X.env)).all (fun x => !x.1) && (backToKw cpos (keywordEach [] X.env)).all (fun x => x.1.isSome)
      && decide ((e :: es).length + ([] : List Keyword).length + (if ([] : List Keyword).isEmpty then 0 else 1) < 30)) = true := by rfl)
    (hline : (apos.endLine == cpos.line) = true := by rfl) (hs : starEach (e :: es) X.env = (false, eval e X.env) :: starEach es X.env := by rfl) (hplain : (backTo cpos (starEach es X.env)).any (·.1) = false := by rfl) (hK : X.K = K := by rfl) :
    PE X (.Call (.Attribute o name apos) (e :: es) [] cpos) (tBM K T r to t) := hK ▸ pe_bm pa slot hty hm ho ha hbase hfew hline hs hplain
end
theorem pe_revU {e : Expr} {te : TE} {k : Nat} {p1 p2 p3 pos : Pos} (he : PE X e te) (hK : X.K = K := by rfl) : PE X (.Subscript e (.Slice none none (some (.UnaryOp .USub (.Constant (.int 1) k p1) p2)) p3) pos) (tRevL K te) := hK ▸ pe_revL he
theorem x_rev {te : TE} (k : te σ H fun x H1 => RevK K x H1 Q) : tRevL K te σ H Q := k
theorem w_rev (hw : W K H0 Ms M0 H L R) (h : SqL K H p xs) (k : ∀ p H', H p = none → W K H0 Ms M0 H' ((p, .lst xs.reverse) :: L) R → Q (.ref p) H') : RevK K (.ref p) H Q :=
  ⟨p, xs, rfl, h, fun l hl => k l _ hl (hw.new hl _)⟩
end
end Fw
namespace Fw
open PySem PySem.Spec PyProof.Rows L2
section
variable {X : Cx} {σ : L2.St} {H H0 : Hp} {K : PySem.W.Frag} {Q : VK} {p q : Addr} {xs : List V} {x : V} {m : Int} {b : Bool} {T n : String}
/-! ### isinstance -/
def uIsi (K : PySem.W.Frag) : List V → Hp → VK → Prop := fun xs H Q => rIsi K xs H Q ∨ rIsiT K xs H Q
theorem call_isiU (hK : X.K = K := by rfl) : CallR X (.builtin "isinstance") (uIsi K) := hK ▸ CallR.or call_isi call_isiT
theorem x_isi (ht : TyX K H x (.type T)) (e : kitB T n = some b) (k : Q (.bl b) H) : uIsi K [x, .ty n] H Q := .inl ⟨x, .ty n, .type T, .type n, b, rfl, .ty n, ht, kit_ty e, k⟩
theorem x_isiI {i : Int} (e : kitB "int" n = some b) (k : Q (.bl b) H) : uIsi K [.int i, .ty n] H Q := x_isi (.base (.int _)) e k
theorem x_isiB {c : Bool} (e : kitB "bool" n = some b) (k : Q (.bl b) H) : uIsi K [.bl c, .ty n] H Q := x_isi (.base (.bl _)) e k
theorem x_isiS {z : Str} (e : kitB "str" n = some b) (k : Q (.bl b) H) : uIsi K [.str z, .ty n] H Q := x_isi (.base (.str _)) e k
theorem x_isiN (e : kitB "NoneType" n = some b) (k : Q (.bl b) H) : uIsi K [.non, .ty n] H Q := x_isi (.base .non) e k
theorem x_isiL (h : H p = some (.lst xs)) (e : kitB "list" n = some b) (k : Q (.bl b) H) : uIsi K [.ref p, .ty n] H Q := x_isi (.base (.lst h)) e k
theorem x_isiT (h : H p = some (.tup xs)) (e : kitB "tuple" n = some b) (k : Q (.bl b) H) : uIsi K [.ref p, .ty n] H Q := x_isi (.base (.tup h)) e k
/-! ### an item at a drawn place -/
theorem x_ixAny (h : SqL K H p xs) (h0 : 0 ≤ m) (h1 : m < xs.length) (k : ∀ v ∈ xs, Q v H) : uIx K (.ref p) (.int m) H Q := by
  have hm : m.toNat < xs.length := by omega
  have e : m = ((m.toNat : Nat) : Int) := by omega
  have q : atI xs ((m.toNat : Nat) : Int) = some xs[m.toNat] := atI_nat (List.getElem?_eq_getElem hm)
  rw [← e] at q
  exact x_ixL h q (k _ (List.getElem_mem hm))
theorem at_get {α : Type} {xs : List α} (h0 : 0 ≤ m) (h1 : m < xs.length) : atI xs m = some (xs[m.toNat]'(by omega)) := by
  have hm : m.toNat < xs.length := by omega
  have e : m = ((m.toNat : Nat) : Int) := by omega
  have q : atI xs ((m.toNat : Nat) : Int) = some xs[m.toNat] := atI_nat (List.getElem?_eq_getElem hm)
  rw [← e] at q
  exact q
theorem x_chain {r r' : R2} {ta tb tc : TE} (k : ta σ H fun x H1 => tb σ H1 fun y H2 => r x y H2 fun z H3 => ∃ k, z = .bl k ∧ (if k = true then tc σ H3 fun w' H4 => r' y w' H4 Q else Q (.bl false) H3)) : tChain r r' ta tb tc σ H Q := k
end
end Fw
namespace Fw
open PySem PySem.Spec PyProof.Rows L2
section
variable {X : Cx} {σ : L2.St} {H H0 : Hp} {K : PySem.W.Frag} {Q : VK} {p q : Addr} {xs : List V} {x : V} {m : Int} {b : Bool} {n : Nat} {Ms M0 : List Addr} {L : List (Addr × HO)} {R : List Fa}
variable {J : It} {G : Hp → Prop} {Y : Nat → Hp → V → Hp → Prop} {wi : TI} {g : TG} {tt : TT} {te : TE} {vs : List Nat} {D : Ends} {tb : TS}
/-! ### comprehensions, loops over any walk, with the state -/
def LcK (J : It) (g : TG) (tt : TT) (te : TE) (vs : List Nat) (σ : L2.St) (H1 : Hp) (Q : VK) : Prop := ∀ D, H1 D = none → ∃ W : Nat → Nat → Hp → Prop, (∃ m, W 0 m (upd H1 D (.lst []))) ∧ ∀ i m H, W i m H →
  (J.stop i H ∧ Q (.ref D) H) ∨ (J.go i H ∧ ∃ Nx : Hp → Prop, (∀ H', Nx H' → ∃ m', m' < m ∧ W (i + 1) m' H') ∧ ∀ x H', J.yld i H x H' → g x (wipe σ vs) H' fun σ2 H2 => wipe σ2 vs = wipe σ vs ∧ tt σ2 H2 fun b H3 =>
    if b = true then te σ2 H3 fun y H4 => ∃ acc, H4 D = some (.lst acc) ∧ acc.length < sizeLine ∧ Nx (upd H4 D (.lst (acc ++ [y]))) else Nx H3)
def AppK (D : Addr) (N : Hp → Prop) (y : V) (H : Hp) : Prop := ∃ acc, H D = some (.lst acc) ∧ acc.length < sizeLine ∧ N (upd H D (.lst (acc ++ [y])))
theorem x_lc (k : wi σ H fun J H1 => LcK J g tt te vs σ H1 Q) : tLc wi g tt te vs σ H Q := k
theorem w_lcK (hw : W K H0 Ms M0 H L R) (wk : Walk J n G Y) (Pv : Addr → Nat → Hp → Prop) (h0 : ∀ D H', H D = none → W K H0 Ms M0 H' ((D, .lst []) :: L) R → Pv D 0 H') (hG : ∀ D i H, i ≤ n → Pv D i H → G H)
    (hs : ∀ D i x H H', i < n → Pv D i H → Y i H x H' → g x (wipe σ vs) H' fun σ2 H2 => wipe σ2 vs = wipe σ vs ∧ tt σ2 H2 fun b H3 => if b = true then te σ2 H3 fun y H4 => AppK D (Pv D (i + 1)) y H4 else Pv D (i + 1) H3)
    (hd : ∀ D H, Pv D n H → Q (.ref D) H) : LcK J g tt te vs σ H Q := fun D hD =>
  lc_it wk (Pv D) (h0 D _ hD (hw.new hD _)) (hG D) (hs D) (hd D)
theorem w_app {N : Hp → Prop} (hw : W K H0 Ms M0 H L R) (k : Nat) (hL : L[k]? = some (p, .lst xs)) (hz : xs.length < sizeLine) (c : ∀ H', W K H0 Ms M0 H' (L.set k (p, .lst (xs ++ [x]))) R → N H') : AppK p N x H :=
  ⟨xs, hw.at k hL, hz, c _ (hw.set k hL _)⟩
theorem x_yes {QB : Bool → Hp → Prop} (k : QB true H) : tYes σ H QB := k
theorem x_wipe {B : Prop} {σ2 : L2.St} (h : wipe σ2 vs = wipe σ vs) (k : B) : wipe σ2 vs = wipe σ vs ∧ B := ⟨h, k⟩
def ForK (J : It) (g : TG) (tb : TS) (D : Ends) (σ : L2.St) (H1 : Hp) : Prop := ∃ W : Nat → Nat → L2.St → Hp → Prop, (∃ m, W 0 m σ H1) ∧ ∀ i m σ H, W i m σ H →
      (J.stop i H ∧ D.nx σ H) ∨ (J.go i H ∧ ∃ N : L2.St → Hp → Prop, (∀ σ' H', N σ' H' → ∃ m', m' < m ∧ W (i + 1) m' σ' H') ∧ ∀ x H', J.yld i H x H' → g x σ H' fun σ2 H2 => tb { D with nx := N, ct := N, bk := D.nx } σ2 H2)
theorem x_forK (k : wi σ H fun J H1 => ForK J g tb D σ H1) : tFor wi g tb D σ H := k
theorem w_for (wk : Walk J n G Y) (Pv : Nat → L2.St → Hp → Prop) (h0 : Pv 0 σ H) (hG : ∀ i σ H, i ≤ n → Pv i σ H → G H)
    (hs : ∀ i x σ H H', i < n → Pv i σ H → Y i H x H' → g x σ H' fun σ2 H2 => tb (Ends.mk (Pv (i + 1)) D.rt D.nx (Pv (i + 1))) σ2 H2) (hd : ∀ σ H, Pv n σ H → D.nx σ H) : ForK J g tb D σ H := for_it wk Pv h0 hG hs hd
theorem W.abs {F : Prop} (hw : W K H0 Ms M0 H L R) (k : ∀ L' R', L' = L → R' = R → W K H0 Ms M0 H L' R' → F) : F := k L R rfl rfl hw
/-! ### what is walked: a list, a tuple, a text -/
def ItV (K : PySem.W.Frag) (x : V) (H : Hp) (R : It → Hp → Prop) : Prop := (∃ a xs, x = .ref a ∧ SqL K H a xs ∧ R (Itl K a) H) ∨ (∃ a xs, x = .ref a ∧ SqT K H a xs ∧ R (Itt K a) H) ∨ ∃ z, x = .str z ∧ R (Its z) H
def iU (K : PySem.W.Frag) (te : TE) : TI := fun σ H R => te σ H fun x H1 => ItV K x H1 R
theorem pi_U {tg l : Expr} {tl : TE} (hl : PE X l tl) (hK : X.K = K := by rfl) : PI X tg l (iU K tl) := by
  subst hK
  refine ⟨fun pins s σ H R I h => ?_⟩
  refine thn (hl.run pins s σ H _ I h) fun v s1 ⟨x, H1, I1, r1, q1⟩ => ?_
  rcases q1 with ⟨a, xs, e, hq, q⟩ | ⟨a, xs, e, hq, q⟩ | ⟨z, e, q⟩
  · subst e
    cases r1
    obtain ⟨its, rv, p, hz⟩ := I1.list hq
    refine wpAny_pyIter_list p.isList ?_
    refine ⟨s1.heap.objs.size, [s1.heap.objs.size], _, _, H1, rfl, I1.kept (t' := s1.toks) fun b o e => Heap.get?_push_of_some _ e, turn_list a _, ⟨_, Heap.get?_push_size _ rfl, rfl, rfl⟩, fun b hb => ?_, q⟩
    have e : b = s1.heap.objs.size := by simpa using hb
    subst e
    exact I1.fpOk (Nat.le_refl _) (I1.hok.fresh (Nat.le_refl _))
  · subst e
    cases r1
    obtain ⟨its, rv, p, hz⟩ := I1.tuple hq
    refine wpAny_pyIter_tuple (show s1.heap.IsTuple a its.toArray from p) ?_
    refine ⟨s1.heap.objs.size, [s1.heap.objs.size], _, _, H1, rfl, I1.kept (t' := s1.toks) fun b o e => Heap.get?_push_of_some _ e, turn_tuple a _, ⟨_, Heap.get?_push_size _ rfl, rfl, rfl⟩, fun b hb => ?_, q⟩
    have e : b = s1.heap.objs.size := by simpa using hb
    subst e
    exact I1.fpOk (Nat.le_refl _) (I1.hok.fresh (Nat.le_refl _))
  · subst e
    obtain ⟨t, rfl⟩ := r1
    cases ha : z.cps.all (· < 128)
    · exact wpAny_pyIter_wide ha (pi_one (tk := s1.toks) I1 _ (turn_str _ z t "str_iterator" (.inr rfl)) ⟨_, Heap.get?_push_size _ rfl, rfl, rfl⟩ q)
    · exact wpAny_pyIter_ascii ha (pi_one (tk := s1.toks) I1 _ (turn_str _ z t "str_ascii_iterator" (.inl rfl)) ⟨_, Heap.get?_push_size _ rfl, rfl, rfl⟩ q)
theorem x_iU {R : It → Hp → Prop} {te : TE} (k : te σ H fun x H1 => ItV K x H1 R) : iU K te σ H R := k
theorem x_itL {R : It → Hp → Prop} (h : SqL K H p xs) (k : R (Itl K p) H) : ItV K (.ref p) H R := .inl ⟨p, xs, rfl, h, k⟩
theorem x_itT {R : It → Hp → Prop} (h : SqT K H p xs) (k : R (Itt K p) H) : ItV K (.ref p) H R := .inr (.inl ⟨p, xs, rfl, h, k⟩)
theorem x_itS {R : It → Hp → Prop} {z : Str} (k : R (Its z) H) : ItV K (.str z) H R := .inr (.inr ⟨z, rfl, k⟩)
/-! ### all of truths -/
theorem rep_bl (n : Nat) : List.replicate n (V.bl true) = (List.replicate n true).map V.bl := by rw [List.map_replicate]
theorem all_rep (n : Nat) : (List.replicate n true).all id = true := by simp
theorem x_allT (h : H p = some (.lst (List.replicate n (.bl true)))) (k : Q (.bl true) H) : rAll K [.ref p] H Q := ⟨p, List.replicate n true, rfl, by rw [← rep_bl]; exact SqL.of h, by rw [all_rep]; exact k⟩
theorem rep_snoc {α : Type} (n : Nat) (v : α) : List.replicate n v ++ [v] = List.replicate (n + 1) v := by rw [List.replicate_succ']
end
end Fw
namespace Fw
open PySem PySem.Spec PyProof.Rows L2
/-! ### == of data -/
theorem lay_ints : ∀ ns : List Int, PyData.canLayAll0 (ns.map PyData.int) = true
  | [] => by simp [PyData.canLayAll0]
  | n :: r => by simp [PyData.canLayAll0, PyData.canLay0, lay_ints r]
theorem depth_ints : ∀ ns : List Int, PyData.depthAll (ns.map PyData.int) ≤ 1
  | [] => by simp [PyData.depthAll]
  | n :: r => by have := depth_ints r; simp [PyData.depthAll, PyData.depth]; omega
theorem shaped_ints (ns : List Int) : SeqAt.shaped (.list (ns.map .int)) = true := by
  unfold SeqAt.shaped
  have h := depth_ints ns
  simp [PyData.canLay0, PyData.depth, lay_ints ns]
  omega
theorem eqv_ints : ∀ ns ms : List Int, PyData.eqvAll (ns.map PyData.int) (ms.map PyData.int) = decide (ns = ms)
  | [], [] => by simp [PyData.eqvAll]
  | [], _ :: _ => by simp [PyData.eqvAll]
  | _ :: _, [] => by simp [PyData.eqvAll]
  | n :: r, m :: t => by
    simp [PyData.eqvAll, PyData.eqv, eqv_ints r t]
    congr 1

section
variable {H : Hp} {K : PySem.W.Frag} {Q : VK} {p q : Addr} {ns ms : List Int}
theorem dp_ints (h : H p = some (.lst (ns.map V.int))) : Dp K H (.ref p) (.list (ns.map .int)) := .lst (SqL.of h) (DdAll.dp (DdAll.ints ns))
theorem x_eqIL (h1 : H p = some (.lst (ns.map V.int))) (h2 : H q = some (.lst (ms.map V.int))) (k : Q (.bl (decide (ns = ms))) H) : uEq K (.ref p) (.ref q) H Q :=
  .inr ⟨_, _, dp_ints h1, dp_ints h2, shaped_ints ns, shaped_ints ms, by rw [PyData.eqv, eqv_ints]; exact k⟩
theorem x_neIL (h1 : H p = some (.lst (ns.map V.int))) (h2 : H q = some (.lst (ms.map V.int))) (k : Q (.bl (!decide (ns = ms))) H) : uNe K (.ref p) (.ref q) H Q :=
  .inr ⟨_, _, dp_ints h1, dp_ints h2, shaped_ints ns, shaped_ints ms, by rw [PyData.eqv, eqv_ints]; exact k⟩
theorem w_sorted {H0 : Hp} {Ms M0 : List Addr} {L : List (Addr × HO)} {R : List Fa} (hw : W K H0 Ms M0 H L R) (ns : List Int) (h : SqL K H p (ns.map V.int)) (h64 : ns.length < 64) (k : ∀ (ns' : List Int) p H', ns'.Perm ns → ns'.Pairwise (· ≤ ·) → H p = none → W K H0 Ms M0 H' ((p, .lst (ns'.map V.int)) :: L) R → Q (.ref p) H') : rSorted K [.ref p] H Q :=
  ⟨p, ns, rfl, h, h64, fun ns' l h1 h2 h3 => k ns' l _ h1 h2 h3 (hw.new h3 _)⟩
end
end Fw
namespace Fw
open PySem PySem.Spec PyProof.Rows L2
section
variable {σ : L2.St} {H H0 : Hp} {K : PySem.W.Frag} {Q : VK} {p q : Addr} {xs : List V} {x : V} {Ms M0 : List Addr} {L : List (Addr × HO)} {R : List Fa} {ds es : List PyData}
/-- a new thing that a call made -/
theorem W.adopt {H' : Hp} {o : HO} (w : W K H0 Ms M0 H L R) (e : Ex [] H H') (h : H p = none) (h' : H' p = some o) : W K H0 Ms M0 H' ((p, o) :: L) R where
  ex := w.ex.trans (e.sub fun x z => nomatch z)
  al := (w.pure e).al
  nd := by
    refine List.nodup_cons.mpr ⟨fun z => ?_, w.nd⟩
    obtain ⟨q, hq, e⟩ := List.mem_map.mp z
    have := w.cell q hq
    rw [e, h] at this; cases this
  cell := fun q hq => by
    rcases List.mem_cons.mp hq with rfl | hq
    · exact h'
    · exact e.ext _ _ (w.cell q hq)
  own := fun q hq => by
    rcases List.mem_cons.mp hq with rfl | hq
    · by_cases hm : p ∈ Ms
      · exact .inl hm
      · refine .inr ⟨?_, fun z => w.al p z h⟩
        cases e : H0 p with
        | none => rfl
        | some u =>
          have := w.ex _ _ hm e
          rw [h] at this; cases this
    · exact w.own q hq
  rep := fun r hr => Fa.ext (del_ext (Mc := []) e (fun x z => nomatch z) fun x hx hn => by
    rcases List.mem_cons.mp hx with rfl | hx
    · exact h
    · exact absurd hx hn) (w.rep r hr)
/-- keep some of the facts, by their places -/
theorem W.pick {R' : List Fa} (hw : W K H0 Ms M0 H L R) (is : List Nat) (h : (is.map fun i => R[i]?) = R'.map some) : W K H0 Ms M0 H L R' := hw.sub fun r hr => by
  have h1 : some r ∈ R'.map some := List.mem_map.mpr ⟨r, hr, rfl⟩
  rw [← h] at h1
  obtain ⟨i, _, e⟩ := List.mem_map.mp h1
  exact List.mem_of_getElem? e
/-- keep some of the cells, by their places -/
theorem W.cells {L' : List (Addr × HO)} (hw : W K H0 Ms M0 H L R) (is : List Nat) (h : (is.map fun i => L[i]?) = L'.map some) (hn : is.Nodup) : W K H0 Ms M0 H L' R := by
  have hm : ∀ r ∈ L', r ∈ L := fun r hr => by
    have h1 : some r ∈ L'.map some := List.mem_map.mpr ⟨r, hr, rfl⟩
    rw [← h] at h1
    obtain ⟨i, _, e⟩ := List.mem_map.mp h1
    exact List.mem_of_getElem? e
  have hl : L'.length = is.length := by have := congrArg List.length h; simpa using this.symm
  refine ⟨hw.ex, hw.al, ?_, fun q hq => hw.cell q (hm q hq), fun q hq => hw.own q (hm q hq), fun r hr => Fa.ext (del_sub fun x hx => ?_) (hw.rep r hr)⟩
  · rw [List.nodup_iff_pairwise_ne, List.pairwise_iff_getElem]
    intro i j hi hj hij e
    rw [List.length_map] at hi hj
    have g : ∀ (k : Nat) (hk : k < L'.length), L[is[k]'(by omega)]? = some L'[k] := fun k hk => by
      have := congrArg (fun l => l[k]?) h
      simp only [List.getElem?_map, List.getElem?_eq_getElem hk, List.getElem?_eq_getElem (show k < is.length by omega), Option.map_some] at this
      exact Option.some.inj this
    have h1 : (L.map (·.1))[is[i]'(by omega)]? = some L'[i].1 := by rw [List.getElem?_map, g i hi]; rfl
    have h2 : (L.map (·.1))[is[j]'(by omega)]? = some L'[i].1 := by
      rw [List.getElem?_map, g j hj]
      rw [List.getElem_map, List.getElem_map] at e
      exact congrArg some e.symm
    have h3 := nd_ix hw.nd h1 h2
    exact absurd ((List.getElem_inj hn).mp h3) (Nat.ne_of_lt hij)
  · rcases List.mem_append.mp hx with hx | hx
    · obtain ⟨q, hq, e⟩ := List.mem_map.mp hx
      exact List.mem_append_left _ (List.mem_map.mpr ⟨q, hm q hq, e⟩)
    · exact List.mem_append_right _ hx
/-! ### displays as data -/
theorem w_lstD (hw : W K H0 Ms M0 H L R) (hd : RpAll K (av L M0) H xs ds) (h : xs.length ≤ sizeLine) (k : ∀ p H', H p = none → W K H0 Ms M0 H' L (.rp (.ref p) (.list ds) :: R) → Q (.ref p) H') : LstK xs H Q :=
  ⟨h, fun p hp => k p _ hp (hw.newLst hp hd)⟩
theorem w_tupD (hw : W K H0 Ms M0 H L R) (hd : RpAll K (av L M0) H xs ds) (h : xs.length ≤ sizeLine) (k : ∀ p H', H p = none → W K H0 Ms M0 H' L (.rp (.ref p) (.tuple ds) :: R) → Q (.ref p) H') : TupK xs H Q :=
  ⟨h, fun p hp => k p _ hp (hw.newTup hp hd)⟩
theorem w_catD (hw : W K H0 Ms M0 H L R) (h1 : Rp K (av L M0) H (.ref p) (.list ds)) (h2 : Rp K (av L M0) H (.ref q) (.list es)) (hz : ds.length + es.length ≤ sizeLine) (k : ∀ p H', H p = none → W K H0 Ms M0 H' L (.rp (.ref p) (.list (ds ++ es)) :: R) → Q (.ref p) H') : uAdd K (.ref p) (.ref q) H Q := by
  obtain ⟨xs, hx, rx⟩ := Rp.unL h1
  obtain ⟨ys, hy, ry⟩ := Rp.unL h2
  exact .inr (.inr (.inl ⟨p, q, xs, ys, rfl, rfl, hx, hy, by rw [rx.length, ry.length]; exact hz, fun l hl => k l _ hl (hw.newLst hl (rx.append ry))⟩))
/-- a list of data walked: the i-th item -/
theorem Rp.walk (h : Rp K M0 H (.ref p) (.list ds)) : ∃ xs, H p = some (.lst xs) ∧ xs.length = ds.length ∧ ∀ (i : Nat) x, xs[i]? = some x → ∃ d, ds[i]? = some d ∧ Rp K M0 H x d := by
  obtain ⟨xs, hx, rx⟩ := Rp.unL h
  refine ⟨xs, hx, rx.length, fun i x hi => ?_⟩
  have hlt : i < ds.length := by rw [← rx.length]; exact (List.getElem?_eq_some_iff.mp hi).1
  obtain ⟨v, h1, h2⟩ := rx.get (List.getElem?_eq_getElem hlt)
  rw [hi] at h1
  cases h1
  exact ⟨_, List.getElem?_eq_getElem hlt, h2⟩
theorem Rp.walkT (h : Rp K M0 H (.ref p) (.tuple ds)) : ∃ xs, SqT K H p xs ∧ xs.length = ds.length ∧ ∀ (i : Nat) x, xs[i]? = some x → ∃ d, ds[i]? = some d ∧ Rp K M0 H x d := by
  obtain ⟨xs, hx, rx⟩ := Rp.unT h
  refine ⟨xs, hx, rx.length, fun i x hi => ?_⟩
  have hlt : i < ds.length := by rw [← rx.length]; exact (List.getElem?_eq_some_iff.mp hi).1
  obtain ⟨v, h1, h2⟩ := rx.get (List.getElem?_eq_getElem hlt)
  rw [hi] at h1
  cases h1
  exact ⟨_, List.getElem?_eq_getElem hlt, h2⟩
theorem Rp.item {i : Nat} (h : Rp K M0 H (.ref p) (.list ds)) (hk : H p = some (.lst xs)) (hi : xs[i]? = some x) : ∃ d, ds[i]? = some d ∧ Rp K M0 H x d := by
  obtain ⟨ys, hy, _, hw⟩ := Rp.walk h
  rw [hk] at hy
  cases hy
  exact hw i x hi
theorem Rp.ref {ds : List PyData} (h : Rp K M0 H x (.tuple ds)) : ∃ t xs, x = .ref t ∧ SqT K H t xs ∧ RpAll K M0 H xs ds := by
  cases h with
  | tup q r => exact ⟨_, _, rfl, del_all.sqT q, r⟩
theorem RpAll.cons_inv {d : PyData} (h : RpAll K M0 H xs (d :: ds)) : ∃ v vs, xs = v :: vs ∧ Rp K M0 H v d ∧ RpAll K M0 H vs ds := by
  cases h with
  | cons a b => exact ⟨_, _, rfl, a, b⟩
theorem RpAll.nil_inv (h : RpAll K M0 H xs []) : xs = [] := by
  cases h
  rfl
theorem Rp.str_inv {z : Str} (h : Rp K M0 H x (.str z)) : x = .str z := by
  cases h
  rfl
theorem Rp.int_inv {z : Int} (h : Rp K M0 H x (.int z)) : x = .int z := by
  cases h
  rfl
theorem Rp.bool_inv {z : Bool} (h : Rp K M0 H x (.bool z)) : x = .bl z := by
  cases h
  rfl
theorem Rp.tup2 {d e : PyData} (h : Rp K M0 H x (.tuple [d, e])) : ∃ t v w, x = .ref t ∧ SqT K H t [v, w] ∧ Rp K M0 H v d ∧ Rp K M0 H w e := by
  obtain ⟨t, xs, rfl, hq, h1⟩ := Rp.ref h
  obtain ⟨v, vs, rfl, hv, h2⟩ := RpAll.cons_inv h1
  obtain ⟨w, ws, rfl, hw, h3⟩ := RpAll.cons_inv h2
  cases RpAll.nil_inv h3
  exact ⟨t, v, w, rfl, hq, hv, hw⟩
theorem Rp.tup3 {d e f : PyData} (h : Rp K M0 H x (.tuple [d, e, f])) : ∃ t v w u, x = .ref t ∧ SqT K H t [v, w, u] ∧ Rp K M0 H v d ∧ Rp K M0 H w e ∧ Rp K M0 H u f := by
  obtain ⟨t, xs, rfl, hq, h1⟩ := Rp.ref h
  obtain ⟨v, vs, rfl, hv, h2⟩ := RpAll.cons_inv h1
  obtain ⟨w, ws, rfl, hw, h3⟩ := RpAll.cons_inv h2
  obtain ⟨u, us, rfl, hu, h4⟩ := RpAll.cons_inv h3
  cases RpAll.nil_inv h4
  exact ⟨t, v, w, u, rfl, hq, hv, hw, hu⟩
end
end Fw
namespace Fw
open PySem PySem.Spec PyProof.Rows L2
section
variable {P : Program} {w : World} {K : PySem.W.Frag} {mg : Str → Option Value} {base : Heap} {CX : CXT} {k : Nat} {x qual : Str} {st : Stmt} {kws : List (Str × V)} {f : Addr} {fd : FuncData} {ps : List Str} {sp : Sp}
theorem ofD (F : FunD K x qual (defArgs st) (defBody st) (defScope st) [] kws f fd) : Fun K x qual st f fd := by
  obtain ⟨oc, od, dV, kV, doc, pm, an, cdv, ct, osl, e, lk, hcd, hD, hK⟩ := F.ex
  rcases hD with ⟨_, rfl⟩ | ⟨e, _⟩
  · exact ⟨⟨oc, od, kV, doc, pm, an, cdv, ct, osl, e, lk, hcd⟩, F.kp⟩
  · exact absurd rfl e
theorem mkFn (F : FunD K x qual (defArgs st) (defBody st) (defScope st) [] kws f fd) (gm : mg x = some (.ref f))
    (h : ∀ (kV doc pm : Value) (an : Option Addr) (cdv ct : Value) (us : List Value), us.length = ps.length → bindArgs (PySem.W.fnOf x qual (defArgs st) (defBody st) (defScope st) .none kV doc pm an cdv ct) ⟨us, []⟩ = pure (ps.zip us))
    (G : FnOk P w K mg base CX k f fd ps sp) : Fn P w K mg base CX k x ps sp := ⟨f, fd, gm, F.kp, F.bindsN h, G⟩
end
end Fw
namespace Fw
open PySem PySem.Spec PyProof.Rows L2
/-! ### own exception classes, straight under one of Python's -/
/-- Python's class B, its mro tl -/
structure Bs (x : Str) (B nI iI : String) (tl : List Value) : Prop where
  new : ∃ (N iN : String) (tN : List Value), ExcBaseFacts N nI iN tN ∧ tl.contains (.type N) = true
  noA : tl.contains (.type "AttributeError") = false
  noN : tl.contains (.type "NameError") = false
  hasB : tl.contains (.type B) = true
  ini : Slot B "__init__" iI
  iEntry : entryFor table iI = some Builtin.«BaseException.__init__»
  iSplit : splitId iI = some (B, "__init__")
  iKind : builtinKind iI = some .slot
  iRow : Manifest.signature? iI = some ⟨.positional, "*", B, .self, [⟨"args", .varPos, false⟩]⟩
  noStar : (B != "*") = true
  store : StoreFacts B tl "object.__setattr__" "object"
  ty : typeOf (.type B) = pure (.type "type")
  stub : Manifest.isStub B = false
  boot : bootBuiltins x = some (.type B)
  fi : ∀ K, PySem.W.findCls K (.type B) (.type "type") "__init__" = some (.val (.builtin iI))
  hi : PySem.W.handedIn (.builtin iI) = true
  nn : x ≠ "__name__"
  nd : (x == ("__debug__" : Str)) = false
/-- an own class at C, its instances' own dict and all -/
structure Own (K : PySem.W.Frag) (C : Addr) (nI : String) (tl : List Value) : Prop where
  inn : PySem.W.excInitIn K C tl nI = true
  over : PySem.W.excOver K C tl = true
  hd : PySem.W.hasDictIn K C = true
  sa : PySem.W.findIn K (.ref C) "__setattr__" = some (some (.builtin "object.__setattr__"))
  sub : PySem.W.subIn K (.ref C) (.type "BaseException") = some true
  ty : PySem.W.typeIn K (.ref C) = some (.type "type")
  kp : PySem.W.keepIn K (.ref C) = true
  ga : PySem.W.findIn K (.ref C) "__getattribute__" = some (some (.builtin "BaseException.__getattribute__"))
  gg : PySem.W.findIn K (.ref C) "__getattr__" = some none
  cl : PySem.W.findIn K (.ref C) "__class__" = some (some (.builtin "object.__class__"))
  cg : PySem.W.specialIn K (.builtin "object.__class__") "__get__" = some (some (.builtin "getset_descriptor.__get__"))
  ct : PySem.W.takesIn K (.builtin "object.__class__") = some true
  mo : PySem.W.mroIn K C (.type "object") = some true
def ownB (K : PySem.W.Frag) (C : Addr) (nI : String) (tl : List Value) : Bool :=
  PySem.W.excInitIn K C tl nI && PySem.W.excOver K C tl && PySem.W.hasDictIn K C && decide (PySem.W.findIn K (.ref C) "__setattr__" = some (some (.builtin "object.__setattr__"))) && decide (PySem.W.subIn K (.ref C) (.type "BaseException") = some true) &&
  decide (PySem.W.typeIn K (.ref C) = some (.type "type")) && PySem.W.keepIn K (.ref C) && decide (PySem.W.findIn K (.ref C) "__getattribute__" = some (some (.builtin "BaseException.__getattribute__"))) && decide (PySem.W.findIn K (.ref C) "__getattr__" = some none) &&
  decide (PySem.W.findIn K (.ref C) "__class__" = some (some (.builtin "object.__class__"))) && decide (PySem.W.specialIn K (.builtin "object.__class__") "__get__" = some (some (.builtin "getset_descriptor.__get__"))) &&
  decide (PySem.W.takesIn K (.builtin "object.__class__") = some true) && decide (PySem.W.mroIn K C (.type "object") = some true)
theorem own_of {K : PySem.W.Frag} {C : Addr} {nI : String} {tl : List Value} (h : ownB K C nI tl = true) : Own K C nI tl := by
  unfold ownB at h
  simp only [Bool.and_eq_true, decide_eq_true_eq] at h
  obtain ⟨⟨⟨⟨⟨⟨⟨⟨⟨⟨⟨⟨h1, h2⟩, h3⟩, h4⟩, h5⟩, h6⟩, h7⟩, h8⟩, h9⟩, h10⟩, h11⟩, h12⟩, h13⟩ := h
  exact ⟨h1, h2, h3, h4, h5, h6, h7, h8, h9, h10, h11, h12, h13⟩
/-! the class called: its __new__ is that of a class N above, its __init__ its own -/
section
variable {M : Model} {A : Around} {E : Value → Shared → Prop} {h : Heap} {g : Array GenState} {d : Drawn} {t : Nat} {os : OsState} {nm q : Str} {C N0 : Addr} {bs bm tN : List Value} {hdct : Bool} {sn : List Str} {sub : List Value} {ab : Bool} {col : Option Bool} {dd : Option Addr} {k0 k1 k2 k3 k5 : Option Value} {x : Str} {B N nI iI iN : String} {tl : List Value}
theorem ask_new (F : ExcBaseFacts N nI iN tN) (hN : bm.contains (.type N) = true) {rest : List Value} {Q : Unit → Shared → Prop} (hC : h.get? C = some (excClassObj nm q C N0 bs bm hdct sn sub ab col dd k0 k1 k2 k3 k5 nI)) (hq : Q () ⟨h, g, d, t, os⟩) :
    wpAny M A (checkBuiltinCall nI ⟨.ref C :: rest, []⟩) Q E ⟨h, g, d, t, os⟩ := by
  have has : (Value.ref C :: bm).contains (.type N) = true := by rw [List.contains_cons, hN, Bool.or_true]
  have star := F.noStar
  simp only [checkBuiltinCall, F.newKind, F.newSplit, F.newRow]
  repeat (first | refine wpAny_loadPart_at hC ?_ | (refine wpAny_isSubtype_exc hC ?_; rw [has]) | refine wpAny_staticBase_exc hC ?_ | refine wpAny_madeBy_exc hC ?_ | simp only [bne_self_eq_false, Bool.false_eq_true, if_false] | wp_step)
  exact hq
theorem ask_init (F : Bs x B nI iI tl) (hT : ∀ X : String, bm.contains (.type X) = tl.contains (.type X)) {e : Addr} {oe : Obj} {rest : List Value} {Q : Unit → Shared → Prop} (hC : h.get? C = some (excClassObj nm q C N0 bs bm hdct sn sub ab col dd k0 k1 k2 k3 k5 nI)) (he : h.get? e = some oe)
    (hc : oe.cls = .ref C) (hq : Q () ⟨h, g, d, t, os⟩) : wpAny M A (checkBuiltinCall iI ⟨.ref e :: rest, []⟩) Q E ⟨h, g, d, t, os⟩ := by
  have has : (Value.ref C :: bm).contains (.type B) = true := by rw [List.contains_cons, hT, F.hasB, Bool.or_true]
  have short := F.noStar
  simp only [checkBuiltinCall, F.iKind, F.iSplit, F.iRow]
  repeat (first | (with_reducible refine wpAny_loadPart_at he ?_; rw [hc]) | with_reducible refine wpAny_loadPart_at hC ?_ | (with_reducible refine wpAny_isSubtype_exc hC ?_; rw [has]) | wp_step)
  refine wpAny_onRaise ?_
  rw [show ∀ (a b : String) (n : Nat), Bind.check ⟨.positional, "*", B, .self, [⟨"args", .varPos, false⟩]⟩ a b n (List.map (fun x => x.fst) ({ pos := Value.ref e :: rest } : Args).kw) = pure () from fun a b n => check_star_args _ _ _ _ _ _]
  exact wpAny_pure hq
end
section
variable {prog : Program} {w : World} {A : Around} {E : Value → Shared → Prop} {R : Result → Shared → Prop} {h : Heap} {g : Array GenState} {d : Drawn} {t : Nat} {os : OsState} {nm q : Str} {C N0 : Addr} {bs bm tN : List Value} {hdct : Bool} {sn : List Str} {sub : List Value} {ab : Bool} {col : Option Bool} {dd : Option Addr} {k0 k1 k2 k3 k5 : Option Value} {x : Str} {B N nI iI iN : String} {tl : List Value}
theorem run_new (F : ExcBaseFacts N nI iN tN) (hN : bm.contains (.type N) = true) (hA : bm.contains (.type "AttributeError") = false) (hM : bm.contains (.type "NameError") = false) {rest : List Value} (hC : h.get? C = some (excClassObj nm q C N0 bs bm hdct sn sub ab col dd k0 k1 k2 k3 k5 nI))
    (hq : R (.ok (.ret (.ref (h.objs.size + 1)))) ⟨(h.push (PySem.W.kdv_tup rest)).push (PySem.HandSPX.excO C h.objs.size), g, d, t, os⟩) (hrest : rest.length ≤ sizeLine) :
    codeAny (model prog w) A (.builtin nI ⟨.ref C :: rest, []⟩) R ⟨h, g, d, t, os⟩ := by
  have ends := F.ends
  have has : (Value.ref C :: bm).contains (.type N) = true := by rw [List.contains_cons, hN, Bool.or_true]
  have noa : (Value.ref C :: bm).contains (.type "AttributeError") = false := by rw [List.contains_cons, hA]; rfl
  have non : (Value.ref C :: bm).contains (.type "NameError") = false := by rw [List.contains_cons, hM]; rfl
  refine codeAny_builtinAt F.entry ?_
  unfold Builtin.«BaseException.__new__»
  refine PySem.wpAt_bind ?_
  show PySem.wpAt _ _ _ (stack >>= _) _ _ _
  refine PySem.wpAt_bind (PySem.wpAt_stack fun p below => PySem.wpAt_of_wpAny ?_)
  wp_walk
  refine PySem.wpAt_of_wpAny ?_
  rw [F.owner]
  repeat (first | with_reducible refine wpAny_madeHere_exc F.canon hC ?_ | with_reducible refine wpAny_loadPart_at hC ?_ | (with_reducible refine wpAny_isSubtype_exc hC ?_; first | rw [has] | rw [noa] | rw [non]) | wp_step)
  show R _ _
  rw [Heap.size_push]
  exact hq
theorem run_cls (F : ExcBaseFacts N nI iN tN) (hN : bm.contains (.type N) = true) (hA : bm.contains (.type "AttributeError") = false) (hM : bm.contains (.type "NameError") = false) {rest : List Value} {fI : Addr} (hC : h.get? C = some (excClassObj nm q C N0 bs bm hdct sn sub ab col dd k0 k1 k2 k3 k5 nI))
    (hi : PySem.W.Looks (model prog w) h (typeLookup (.ref C) "__init__") (some (.ref fI))) (hb : ∀ self, PySem.W.Looks (model prog w) h (bindSpecial (.ref fI) self) (.ref fI, [self])) (hrest : rest.length ≤ sizeLine)
    (hq : codeAny (model prog w) (A.under (.builtin "type.__call__" ⟨.ref C :: rest, []⟩)) (.call (.ref fI) ⟨.ref (h.objs.size + 1) :: rest, []⟩) (PySem.W.InitBack (h.objs.size + 1) R) ⟨(h.push (PySem.W.kdv_tup rest)).push (PySem.HandSPX.excO C h.objs.size), g, d, t, os⟩) :
    codeAny (model prog w) A (.call (.ref C) ⟨rest, []⟩) R ⟨h, g, d, t, os⟩ := by
  have f1 := tc_lookup
  have f2 := tc_bind (.ref C)
  have isT : (⟨h, g, d, t, os⟩ : Shared).TypeIs (.ref C) "type" := ⟨_, hC, rfl⟩
  refine codeAny_of_tree ?_
  show wpAny _ _ (callAny (.ref C) _) _ _ _
  repeat (any_goals (first | assumption | with_reducible refine wpAny_loadPart_at hC ?_ | wp_step))
  refine ⟨rfl, codeAny_call_builtin_at (Code.quiet_builtin _ (by decide +kernel)) entry_typeCall (wpAny_check_type_call_sub hC ?_)⟩
  show wpAny _ _ (Builtin.«type.__call__» ⟨.ref C :: rest, []⟩) _ _ _
  repeat (first | with_reducible refine wpAny_loadPart_at hC ?_ | with_reducible refine wpAny_madeBy_exc hC ?_ | wp_step)
  refine codeAny_call_builtin_code (Code.quiet_builtin _ F.quiet) (ask_new F hN hC (run_new F hN hA hM hC ?_ hrest))
  show wpAny _ _ _ _ _ _
  have k : ∀ b o, h.get? b = some o → ((h.push (PySem.W.kdv_tup rest)).push (PySem.HandSPX.excO C h.objs.size)).get? b = some o := fun b o e => Heap.get?_push_of_some _ (Heap.get?_push_of_some _ e)
  have hC1 := k _ _ hC
  have hget : ((h.push (PySem.W.kdv_tup rest)).push (PySem.HandSPX.excO C h.objs.size)).get? (h.objs.size + 1) = some (PySem.HandSPX.excO C h.objs.size) := by heap_get
  have me : (Value.ref C :: bm).contains (.ref C) = true := by simp
  unfold isInstance
  repeat (first | with_reducible refine wpAny_loadPart_at hget ?_ | (with_reducible refine wpAny_isSubtype_exc hC1 ?_; rw [me]) | wp_step)
  show wpAny _ _ (typeLookup (.ref C) _) _ _ _
  refine (hi.keeps k).at (wpAny_holding (wpAny_bind (((hb (.ref (h.objs.size + 1))).keeps k).at (wpAny_bind (wpAny_call (codeAny_mono hq fun r s' z => ?_))))))
  rcases r with e | (v | _ | _ | _) <;> first | exact z | exact z.elim | skip
  obtain ⟨rfl, z⟩ := z
  first
    | exact wpAny_pure (wpAny_pure z)
    | (wp_walk; exact z)
theorem run_init (F : Bs x B nI iI tl) (hT : ∀ X : String, bm.contains (.type X) = tl.contains (.type X)) {e t0 : Addr} {rest : List Value} (hC : h.get? C = some (excClassObj nm q C N0 bs bm hdct sn sub ab col dd k0 k1 k2 k3 k5 nI)) (he : h.get? e = some (PySem.HandSPX.excO C t0)) (hrest : rest.length ≤ sizeLine)
    (hq : ∀ h' t1, (∀ b o, b ≠ e → h.get? b = some o → h'.get? b = some o) → h'.get? e = some (PySem.HandSPX.excO C t1) → R (.ok (.ret .none)) ⟨h', g, d, t, os⟩) :
    codeAny (model prog w) A (.call (.builtin iI) ⟨.ref e :: rest, []⟩) R ⟨h, g, d, t, os⟩ := by
  refine codeAny_call_builtin F.ini.plain F.iEntry (ask_init F hT hC he rfl ?_)
  wp_walk
  refine hq _ h.objs.size (fun b o hb ho => ?_) ?_
  · rw [Heap.get?_update_other _ _ (Ne.symm hb)]
    exact Heap.get?_push_of_some _ ho
  · rw [Heap.get?_update_self _ (Heap.get?_push_of_some _ he) rfl]
    rfl
end
section
variable {prog : Program} {w : World} {A : Around} {R : Result → Shared → Prop} {hp : Heap} {g : Array GenState} {d : Drawn} {t : Nat} {os : OsState} {K : PySem.W.Frag} {C : Addr} {B nI : String} {tl : List Value} {name : Str} {tk : Tok} {v : Value} {x : Addr} {fv : Array Value}
theorem noTaker (h : PySem.W.findIn K (.ref C) name = some none) : PySem.W.takerIn K C name = some none := by
  unfold PySem.W.takerIn
  rw [h]
  rfl
theorem put_first (SF : StoreFacts B tl "object.__setattr__" "object") (T : Own K C nI tl) (X : K.In hp) (hx : hp.get? x = some { cls := .ref C, data := .fields fv }) (hno : PySem.W.findIn K (.ref C) name = some none)
    (hq : ∀ h' tk' dx, (∀ b o, b ≠ x → hp.get? b = some o → h'.get? b = some o) → hp.objs.size ≤ dx → dx ≠ x → h'.get? x = some { cls := .ref C, dict := some dx, data := .fields fv } →
      h'.Ns1 dx (fun y => if y = name then some v else none) → R (.ok (.ret .none)) ⟨h', g, d, tk', os⟩) :
    codeAny (model prog w) A (.call (.builtin "object.__setattr__") ⟨[.ref x, .str name tk, v], []⟩) R ⟨hp, g, d, t, os⟩ := by
  have I : PySem.W.InstAt hp x { cls := .ref C, data := .fields fv } C none := ⟨hx, rfl, rfl, trivial⟩
  refine PySem.W.osa_openX SF X I T.over (noTaker hno) fun b => ?_
  obtain ⟨cd, hcd, hh⟩ := PySem.W.any_some T.hd
  have hcls : PySem.W.Looks (model prog w) hp (classData C) cd := PySem.W.looks_clsIn X hcd
  have hxs : x ≠ hp.objs.size := Nat.ne_of_lt (Heap.lt_size hx)
  obtain ⟨nm, bs, mro, ns, qn, hd, sn, sb, ab, col, del⟩ := cd
  dsimp only at hh
  subst hh
  show wpAny _ _ (Builtin.ObjectAttr.storeInOwnDict (.ref x) (.ref C) (.str name tk) name v b) _ _ _
  unfold Builtin.ObjectAttr.storeInOwnDict Builtin.ObjectAttr.ownDictForStores
  repeat (first | with_reducible refine PySem.HandSPX.store_in_new ?_ ?_ | with_reducible refine wpAny_loadPart_at hx ?_ | with_reducible refine hcls.at ?_ | wp_step)
  · exact ⟨_, #[], _, (Heap.get?_update_ne _ _ _ _ hxs.symm).trans (Heap.get?_push_at rfl rfl), rfl, fun e he => absurd he (by simp), fun _ => rfl⟩
  · intro h' tk' hn' hs
    refine hq h' tk' hp.objs.size (fun b o hb ho => ?_) (Nat.le_refl _) hxs.symm ?_ hn'
    · exact (hs.2 b (Nat.ne_of_lt (Heap.lt_size ho))).trans ((Heap.get?_update_ne _ _ _ _ hb).trans (Heap.get?_push_of_some _ ho))
    · exact (hs.2 x hxs).trans (Heap.get?_update_self _ (Heap.get?_push_of_some _ hx) rfl)
theorem put_more {dx : Addr} {m0 : Str → Option Value} {nl : List Str} (SF : StoreFacts B tl "object.__setattr__" "object") (T : Own K C nI tl) (X : K.In hp) (hx : hp.get? x = some { cls := .ref C, dict := some dx, data := .fields fv }) (hns : hp.Ns1 dx m0) (hw : Within m0 nl) (hz : nl.length ≤ 1000)
    (hno : PySem.W.findIn K (.ref C) name = some none)
    (hq : ∀ h' tk', (∀ b o, b ≠ dx → hp.get? b = some o → h'.get? b = some o) → h'.Ns1 dx (fun y => if y = name then some v else m0 y) → R (.ok (.ret .none)) ⟨h', g, d, tk', os⟩) :
    codeAny (model prog w) A (.call (.builtin "object.__setattr__") ⟨[.ref x, .str name tk, v], []⟩) R ⟨hp, g, d, t, os⟩ := by
  obtain ⟨oD, esD, epD, hoD, hdD, _⟩ := hns.count hw
  have I : PySem.W.InstAt hp x { cls := .ref C, dict := some dx, data := .fields fv } C (some oD) := ⟨hx, rfl, rfl, hoD⟩
  refine PySem.W.osa_openX SF X I T.over (noTaker hno) fun b => ?_
  obtain ⟨cd, hcd, hh⟩ := PySem.W.any_some T.hd
  have hcls : PySem.W.Looks (model prog w) hp (classData C) cd := PySem.W.looks_clsIn X hcd
  obtain ⟨nm, bs, mro, ns, qn, hd, sn, sb, ab, col, del⟩ := cd
  dsimp only at hh
  subst hh
  show wpAny _ _ (Builtin.ObjectAttr.storeInOwnDict (.ref x) (.ref C) (.str name tk) name v b) _ _ _
  unfold Builtin.ObjectAttr.storeInOwnDict Builtin.ObjectAttr.ownDictForStores
  repeat (first | with_reducible refine PySem.OEX.store_in_old hns hw hz ?_ | with_reducible refine wpAny_loadPart_at hx ?_ | with_reducible refine hcls.at ?_ | wp_step)
  intro h' tk' hn' hs
  exact hq h' tk' (fun b o hb ho => (hs.2 b hb).trans ho) hn'
end
section
variable {X : Cx} {pins : List (Addr × Obj)} {σ : L2.St} {H : Hp} {s : Shared} {a C dx : Addr} {f : Str} {y : V} {u : Value} {fs : List (Str × V)} {Q : Unit → Shared → Prop} {E : Value → Shared → Prop} {A : Around} {B nI iI : String} {tl : List Value}
/-- self.f = y, when the exception has no dict as yet -/
theorem field_first (SF : StoreFacts B tl "object.__setattr__" "object") (T : Own X.K C nI tl) (I : Inv X pins σ H s) (e : H a = some (exo a C none)) (hno : PySem.W.findIn X.K (.ref C) f = some none) (ry : RelV y u)
    (h : ∀ dx s', H dx = none → dx ≠ a → Inv X pins σ (upd (upd H dx (exd dx [(f, y)])) a (exo a C (some dx))) s' → Q () s') : wpAny (model X.prog X.w) A (setAttr (.ref a) f u) Q E s := by
  obtain ⟨t1, ho⟩ := exo_at I.hok e
  obtain ⟨hp, g, d, t, os⟩ := s
  refine PySem.W.set_plain I.kIn (od := none) ⟨ho, rfl, rfl, trivial⟩ T.sa ?_
  refine put_first SF T I.kIn ho hno (fun h' tk' dx k dn dne hx hn => ?_)
  have fr : H dx = none := I.hok.fresh dn
  have old : ∀ {b : Addr} {o : Obj}, hp.get? b = some o → b ≠ dx := fun {b o} q => Nat.ne_of_lt (Nat.lt_of_lt_of_le (Heap.lt_size q) dn)
  have away : ∀ {b : Addr}, H b = none → b ≠ a := fun {b} n z => nomatch (z ▸ n : H a = none).symm.trans e
  have two : ∀ {b : Addr} {o : HO}, H b = some o → exo a C none ≠ o → upd (upd H dx (exd dx [(f, y)])) a (exo a C (some dx)) b = some o := fun {b o} q ne => by
    rw [upd_ne (at_ne e q ne), upd_ne (ne_of_none q fr)]
    exact q
  refine h dx _ fr dne (I.un (t' := tk') ⟨fun b o q n _ _ => k b o (away n) q, fun b o q n _ _ => ⟨o.slots, k b o (away n) q⟩, fun b o q n _ => by rw [upd_ne (away n), upd_ne (old q)]; exact n, fun b o q _ => ?_,
    fun b xs q => two q exo_tup, fun b o v q => two q exo_frz, fun b ps q => ⟨#[], by rw [two q exo_tbl]; simp⟩⟩ fun b o q => ?_)
  · by_cases hb : b = a
    · exact ⟨_, hb ▸ hx⟩
    · exact ⟨o, k b o hb q⟩
  · by_cases hb : b = a
    · subst hb
      rw [upd_same] at q
      cases q
      exact exo_ok hx
    rw [upd_ne hb] at q
    by_cases hd : b = dx
    · subst hd
      rw [upd_same] at q
      cases q
      exact exd_ok hn (relO_put (fs := []) ry fun g => True.intro)
    rw [upd_ne hd] at q
    exact (I.hok b o q).stay (fun c v hc z => k c v (hc.elim (fun z => z ▸ hb) fun z => at_ne e z exo_own) z) (fun c hc => two hc exo_own) fun c xs hc => two hc exo_tup
/-- self.f = y, when it has one -/
theorem field_more (SF : StoreFacts B tl "object.__setattr__" "object") (T : Own X.K C nI tl) (I : Inv X pins σ H s) (e : H a = some (exo a C (some dx))) (ed : H dx = some (exd dx fs)) (hl : fs.length ≤ 900) (hno : PySem.W.findIn X.K (.ref C) f = some none) (ry : RelV y u)
    (h : ∀ s', Inv X pins σ (upd H dx (exd dx ((f, y) :: fs))) s' → Q () s') : wpAny (model X.prog X.w) A (setAttr (.ref a) f u) Q E s := by
  obtain ⟨t1, ho⟩ := exo_at I.hok e
  obtain ⟨mA, hns, rel⟩ := exd_at I.hok ed
  have hw := within_of rel
  obtain ⟨hp, g, d, t, os⟩ := s
  obtain ⟨oD, _, _, hoD, _, _⟩ := hns.count hw
  refine PySem.W.set_plain I.kIn (od := some oD) ⟨ho, rfl, rfl, hoD⟩ T.sa ?_
  refine put_more SF T I.kIn ho hns hw (by rw [List.length_map]; omega) hno (fun h' tk' k hn => ?_)
  obtain ⟨o, es, ep, e', r⟩ := id hn
  exact h _ (I.write (t' := tk') (x := dx) (e := dx) (o := exd dx ((f, y) :: fs)) (by rw [ed]; exact True.intro) (.inl rfl) k ⟨o, e'⟩ (exd_ok hn (relO_put ry rel)))
/-- B.__init__(self, ..) -/
theorem base_init {x : Str} {us : List Value} {Q : Value → Shared → Prop} (F : Bs x B nI iI tl) (T : Own X.K C nI tl) (I : Inv X pins σ H s) (e : H a = some (exo a C none)) (hl : us.length ≤ sizeLine) (h : ∀ s', Inv X pins σ H s' → Q .none s') :
    wpAny (model X.prog X.w) A (call (.builtin iI) (.ref a :: us)) Q E s := by
  obtain ⟨nm, N, q, bs, bm, hd, sn, sub, ab, col, dd, k0, k1, k2, k3, k5, hC, hT⟩ := PySem.W.excInit_of I.kIn T.inn
  obtain ⟨t1, ho⟩ := exo_at I.hok e
  obtain ⟨hp, g, d, t, os⟩ := s
  refine wpAny_call (run_init F hT hC ho hl fun h' t2 k hx => ?_)
  have J := I.write (t' := t) (x := a) (e := a) (o := exo a C none) (by rw [e]; exact True.intro) (.inl rfl) k ⟨_, hx⟩ (exo_ok hx)
  have eu : upd H a (exo a C none) = H := funext fun b => by
    by_cases hb : b = a
    · rw [hb, upd_same, e]
    · rw [upd_ne hb]
  exact h _ (eu ▸ J)
end
/-- B.__init__(self, ..) -/
def tBI (K : PySem.W.Frag) (nI : String) (tl : List Value) (ta : TA) : TE := fun σ H Q => ta σ H fun vs H1 => ∃ (a C : Addr) (ws : List V), vs = .ref a :: ws ∧ ws.length ≤ 1000 ∧ Own K C nI tl ∧ H1 a = some (exo a C none) ∧ Q .non H1
/-- self.f = e -/
def tFld (K : PySem.W.Frag) (nI : String) (tl : List Value) (f : Str) (to te : TE) : TS := fun D σ H => te σ H fun y H1 => to σ H1 fun x H2 => ∃ a C : Addr, x = .ref a ∧ Own K C nI tl ∧ PySem.W.findIn K (.ref C) f = some none ∧
  ((H2 a = some (exo a C none) ∧ ∀ dx, H2 dx = none → dx ≠ a → D.nx σ (upd (upd H2 dx (exd dx [(f, y)])) a (exo a C (some dx)))) ∨
    ∃ (dx : Addr) (fs : List (Str × V)), H2 a = some (exo a C (some dx)) ∧ H2 dx = some (exd dx fs) ∧ fs.length ≤ 900 ∧ D.nx σ (upd H2 dx (exd dx ((f, y) :: fs))))
section
variable {X : Cx} {o e : Expr} {es : List Expr} {to te : TE} {ta : TA} {f x : Str} {p p' p1 p2 pos : Pos} {B nI iI : String} {tl : List Value}
theorem pe_binit {pl : Sem Bool} (F : Bs x B nI iI tl) (hg : Gl X x) (hm : X.mg x = none) (ha : PA X (e :: es) ta)
    (hc : eval (.Call (.Attribute (.Name x p1) "__init__" p2) (e :: es) [] pos) X.env = (do
      let ov ← eval (.Name x p1) X.env
      standAt p2.atName
      let (f, first) ← holding [ov] (getMethod ov "__init__" pl)
      callWith pos f first (backTo pos (starEach (e :: es) X.env)) (backToKw pos (keywordEach [] X.env))) := by rfl)
    (he : starEach (e :: es) X.env = (false, eval e X.env) :: starEach es X.env := by rfl) (hpl : (backTo pos (starEach es X.env)).any (·.1) = false := by rfl) :
    PE X (.Call (.Attribute (.Name x p1) "__init__" p2) (e :: es) [] pos) (tBI X.K nI tl ta) := by
  refine ⟨fun pins s σ H Q I h => ?_⟩
  refine PySem.W.methodCall_KW (ld_blt I hg hm F.boot ?_ F.nn F.nd) hc
  obtain ⟨m, fr⟩ := I.fr
  refine PySem.W.method_type fr I.ok.mod.kin F.ty F.stub (F.fi _) F.hi ?_
  show wpAny _ _ (callWith pos (Value.builtin iI) [] (backTo pos (starEach (e :: es) X.env)) []) _ _ _
  refine PyProof.Rows.callWith_method1 (thn (ha.run pos pins _ σ H _ (I.tok _) h) fun us s1 ⟨vs, H1, I1, r1, a, C, ws, ev, hl, T, ea, q⟩ => ?_) he hpl
  subst ev
  cases r1 with
  | @cons _ u0 _ ur ra rw' =>
    obtain rfl : u0 = Value.ref a := ra
    exact base_init F T I1 ea (by rw [← Paired.length rw', sizeLine_eq]; omega) fun s' J => ⟨.non, H1, J, rfl, q⟩
theorem ps_fld (F : Bs x B nI iI tl) (ho : PE X o to) (he : PE X e te) (hs : swapsWith e (some (.Attribute o f p')) pos.line X.env = pure false := by rfl) : PS X (.Assign [.Attribute o f p'] e pos) (tFld X.K nI tl f to te) := by
  refine ⟨fun pins s σ H D I h => ?_⟩
  refine plainObj_wpAny_Assign_Attribute (thn (he.run pins s σ H _ I h) fun v s1 ⟨y, H1, I1, r1, q1⟩ => thn (ho.run pins s1 σ H1 _ I1 q1) fun u s2 ⟨x, H2, I2, r2, a, C, ex, T, hno, q⟩ => ?_) hs
  subst ex
  obtain rfl : u = Value.ref a := r2
  rcases q with ⟨ea, q⟩ | ⟨dx, fs, ea, ed, hl, q⟩
  · exact field_first F.store T I2 ea hno r1 fun dx s' n ne J => ⟨σ, _, J, q dx n ne⟩
  · exact field_more F.store T I2 ea ed hl hno r1 fun s' J => ⟨σ, _, J, q⟩
/-- C(e, ..), C's own __init__ keeping sp -/
theorem pmk_own {CX : CXT} {C fI : Addr} {k j : Nat} {fd : FuncData} {ps : List Str} {sp : Sp} {xB : Str} (F : Bs xB B nI iI tl) (T : Own X.K C nI tl) (iC : PySem.W.findIn X.K (.ref C) "__init__" = some (some (.ref fI))) (tI : PySem.W.typeIn X.K (.ref fI) = some (.type "function"))
    (F1 : FnOk X.prog X.w X.K X.mg X.base CX k fI fd ps sp) (hr : Room j X.A) (hk : k + 1 ≤ j) (hb : Binds X.K fd ps []) (hx : Passes CX X (fun _ _ _ => False)) (hg : Gl X x) (hm : X.mg x = some (.ref C)) (ha : PA X (e :: es) ta)
    (hdb : (x == ("__debug__" : Str)) = false := by decide) (he : starEach (e :: es) X.env = (false, eval e X.env) :: starEach es X.env := by rfl) (hpl : (backTo pos (starEach es X.env)).any (·.1) = false := by rfl) :
    PMk X (.Call (.Name x p) (e :: es) [] pos) (tMkO C sp [] ta) := by
  intro pins s σ H Q I h
  refine wpAny_Call_Name_kw (ld_glob I hg hm ?_ hdb)
  refine PySem.W.callWith_K (h₀ := X.base) I.ok.mod.kin T.kp (thn (ha.run pos pins s σ H _ I h) fun us s1 ⟨vs, H1, I1, r1, hz, q1⟩ => ⟨I1.kIn, ?_⟩) he hpl
  show wpAny _ _ (call (.ref C) us) _ _ _
  obtain ⟨nm, N, q, bs, bm, hd, sn, sub, ab, col, dd, k0, k1, k2, k3, k5, hC, hT⟩ := PySem.W.excInit_of I1.kIn T.inn
  obtain ⟨hp, g, dr, tk, os⟩ := s1
  have hsz : hp.objs.size ≤ hp.objs.size + 1 := Nat.le_succ _
  have hq := q1 (hp.objs.size + 1) (I1.hok.fresh hsz)
  rw [List.append_nil] at hq
  have kk : ∀ b o, hp.get? b = some o → ((hp.push (PySem.W.kdv_tup us)).push (PySem.HandSPX.excO C hp.objs.size)).get? b = some o := fun b o e => Heap.get?_push_of_some _ (Heap.get?_push_of_some _ e)
  have hget : ((hp.push (PySem.W.kdv_tup us)).push (PySem.HandSPX.excO C hp.objs.size)).get? (hp.objs.size + 1) = some (PySem.HandSPX.excO C hp.objs.size) := by heap_get
  have I2 := I1.laid (t' := tk) (a := hp.objs.size + 1) (o := exo (hp.objs.size + 1) C none) kk hsz (exo_ok hget)
  have r2 : Vals (V.ref (hp.objs.size + 1) :: vs) (Value.ref (hp.objs.size + 1) :: us) := .cons rfl r1
  have hl : (Value.ref (hp.objs.size + 1) :: us).length = ps.length := r2.length.symm.trans (F1.len _ _ _ _ hq)
  have hus : us.length ≤ sizeLine := by rw [← Paired.length r1, sizeLine_eq]; omega
  have bd := hb ⟨(hp.push (PySem.W.kdv_tup us)).push (PySem.HandSPX.excO C hp.objs.size), g, dr, tk, os⟩ (Value.ref (hp.objs.size + 1) :: us) I2.kIn (by rw [List.append_nil]; exact hl)
  rw [List.append_nil] at bd
  obtain ⟨N, iN, tN, FN, hN⟩ := F.new
  refine wpAny_call (run_cls FN ((hT _).trans hN) ((hT _).trans F.noA) ((hT _).trans F.noN) hC (PySem.W.looks_findIn I1.kIn iC) (fun self => PySem.W.bind_fn I1.kIn self tI) hus
    (codeAny_mono (F1.run _ X.stack _ _ ⟨Value.ref (hp.objs.size + 1) :: us, []⟩ _ _ _ (fun _ _ _ => False) ((hr.mono hk).make C us []) (I2.env0.make C us []) bd r2 hq) fun r s' hq' => ?_))
  cases r with
  | error er => exact hx pins σ _ _ er s' I2 hq'
  | ok fl =>
    cases fl with
    | ret u =>
      obtain ⟨v, H2, os2, bare2, un2, hok2, rv, ev, d, fs, ea, ed, hd1, q2⟩ := hq'
      subst ev
      obtain ⟨h2, g2, d2, t2, os'⟩ := s'
      exact ⟨rv, mk_end (raises_own T.sub T.ty) I1 hsz kk un2 hok2 os2 bare2 ea ed hd1 q2⟩
    | next => exact False.elim hq'
    | brk => exact False.elim hq'
    | cont => exact False.elim hq'
end
/-- where __new__ and __init__ are both of B's own -/
theorem bs_of {x : Str} {B nI iI : String} {tl : List Value} (F : ExcBaseFacts B nI iI tl) (S : StoreFacts B tl "object.__setattr__" "object") (ty : typeOf (.type B) = pure (.type "type")) (st : Manifest.isStub B = false) (bo : bootBuiltins x = some (.type B))
    (fi : ∀ K, PySem.W.findCls K (.type B) (.type "type") "__init__" = some (.val (.builtin iI))) (hi : PySem.W.handedIn (.builtin iI) = true) (nn : x ≠ "__name__") (nd : (x == ("__debug__" : Str)) = false) : Bs x B nI iI tl :=
  ⟨⟨B, iI, tl, F, F.hasB⟩, F.noAttr, F.noName, F.hasB, F.init, F.initEntry, F.initSplit, F.initKind, F.initRow, F.noStar, S, ty, st, bo, fi, hi, nn, nd⟩
theorem bs_ValueError : Bs "ValueError" "ValueError" "ValueError.__new__" "ValueError.__init__" [.type "ValueError", .type "Exception", .type "BaseException", .type "object"] :=
  bs_of PySem.F.excBase_ValueError PySem.F.store_ValueError (by kernel_rfl) (by decide +kernel) (by decide +kernel) (fun K => by kernel_rfl) (by decide +kernel) (by decide) (by decide)
end Fw
namespace Fw
open PySem PySem.Spec PyProof.Rows L2
/-! ### a caught exception that is kept -/
/-- a caught exception of the class cls at a, its dict at d -/
def exk (a : Addr) (cls : Value) (d : Option Addr) : HO := .ext fun h => ∃ (oe : Obj) (vs : Array Value), h.get? a = some oe ∧ Zc cls d oe ∧ oe.data = .fields vs
theorem exk_ok {P : Program} {w : World} {H : Hp} {h : Heap} {a : Addr} {cls : Value} {d : Option Addr} {oe : Obj} {vs : Array Value} (e : h.get? a = some oe) (z : Zc cls d oe) (f : oe.data = .fields vs) : ObjOk P w H h a (exk a cls d) :=
  ⟨⟨oe, vs, e, z, f⟩, ⟨oe, e⟩, fun _ _ ⟨o, v, q, r⟩ k => ⟨o, v, k o q, r⟩⟩
theorem exk_at {P : Program} {w : World} {H : Hp} {h : Heap} {a : Addr} {cls : Value} {d : Option Addr} (hok : HOk P w H h) (e : H a = some (exk a cls d)) : ∃ (oe : Obj) (vs : Array Value), h.get? a = some oe ∧ Zc cls d oe ∧ oe.data = .fields vs := by
  have x : ObjOk P w H h a (.ext fun h => ∃ (oe : Obj) (vs : Array Value), h.get? a = some oe ∧ Zc cls d oe ∧ oe.data = .fields vs) := hok a _ e
  exact x.1
section
variable {X : Cx} {pins : List (Addr × Obj)} {σ : L2.St} {H : Hp} {s : Shared}
/-- an object that wasn't there at the entry and isn't one of the frame's may be looked after from here on -/
theorem inv_track {a : Addr} {o : HO} (I : Inv X pins σ H s) (ha : H a = none) (ok : ObjOk X.prog X.w (upd H a o) s.heap a o) (n0 : X.s_0.heap.get? a = none) (nL : X.env.locals ≠ a) (nC : ∀ x c, X.env.cells.lookup x = some c → c ≠ a)
    (nP : ∀ p ∈ X.pn ++ pins, p.1 ≠ a) : Inv X pins σ (upd H a o) s := by
  have ne0 : ∀ {b : Addr} {u : Obj}, X.s_0.heap.get? b = some u → b ≠ a := fun {b u} e z => nomatch (z ▸ e : X.s_0.heap.get? a = some u).symm.trans n0
  have same : ∀ {b : Addr} {u : HO}, H b = some u → upd H a o b = some u := fun {b u} e => (upd_ne (ne_of_none e ha)).trans e
  refine ⟨I.ok, I.os, I.bare, ⟨I.base.keep, I.base.slot, fun b u e n x => (upd_ne (ne0 e)).trans (I.base.free b u e n x), I.base.there, fun b xs e => same (I.base.tups b xs e), fun b u v e => same (I.base.frzs b u v e), fun b ps e => ?_⟩,
    I.loc, I.cell, (upd_ne nL).trans I.free, fun x c e => (upd_ne (nC x c e)).trans (I.freeC x c e), fun p hp => ?_, fun b u e => ?_, I.len⟩
  · obtain ⟨m, q⟩ := I.base.tbls b ps e
    exact ⟨m, same q⟩
  · obtain ⟨h1, h2, h3⟩ := I.pin p hp
    exact ⟨h1, (upd_ne (nP p hp)).trans h2, h3⟩
  · by_cases hb : b = a
    · subst hb
      rw [upd_same] at e
      cases e
      exact ok
    · rw [upd_ne hb] at e
      exact (I.hok b u e).stay (fun _ _ _ q => q) (fun c q => same q) fun c xs q => same q
theorem inv_suite0 (I : Inv X pins σ H s) (a : Addr) : Inv (X.suite a (X.pn ++ pins)) [] σ H s :=
  ⟨I.ok.suite _ _, I.os, I.bare, I.base, I.loc, I.cell, I.free, I.freeC, fun p hp => I.pin p (by rw [List.append_nil] at hp; exact hp), I.hok, I.len⟩
theorem inv_unsuite0 {a : Addr} {pn' : List (Addr × Obj)} (I : Inv (X.suite a (X.pn ++ pins)) pn' σ H s) (ok : X.Ok) : Inv X pins σ H s :=
  ⟨ok, I.os, I.bare, I.base, I.loc, I.cell, I.free, I.freeC, fun p hp => I.pin p (List.mem_append_left _ hp), I.hok, I.len⟩
end
/-- what 'except x as n' wishes, the exception looked after from there on -/
def wKeep (K : PySem.W.Frag) (c : Value) (i : Nat) (ts : Addr → TS) (Wout : WX) (D : Ends) : WX := fun cls d σ H =>
  ∃ b, PySem.W.exmOne K cls c = some b ∧ (b = true → ∀ a, H a = none → ts a { nx := fun σ' H' => D.nx (σ'.set i none) H', rt := D.rt, bk := fun σ' H' => D.bk (σ'.set i none) H', ct := fun σ' H' => D.ct (σ'.set i none) H' } (σ.set i (some (.ref a))) (upd H a (exk a cls d))) ∧
    (b = false → Wout cls d σ H)
section
variable {X : Cx} {x n : Str} {c : Value} {i : Nat} {body suite : List Stmt} {b₀ : Stmt} {np pos pos' : Pos} {tb : WX → TS} {ts : Addr → TS} {Wout : WX}
theorem ps_try_keep {K : PySem.W.Frag} (hK : X.K = K) (hs : X.stack = X.env :: X.outer) (hf : X.env.frame = some X.env.locals) (hex : X.ex = []) (hN : X.N.Nodup) (hi : X.N[i]? = some n) (hln : X.env.kindOf n = some .local) (hc : Names X x c) (tk : Takes X Wout)
    (hb : ∀ (W : WX) (pn : List (Addr × Obj)) (xe : Value → Shared → Prop), Takes (X.tr pn xe) W → PassesOwn (model X.prog X.w) X.A X.env xe → PSs (X.tr pn xe) body (tb W))
    (hsu : ∀ (a : Addr) (pn : List (Addr × Obj)), PSs (X.suite a pn) (b₀ :: suite) (ts a)) :
    PS X (.Try body [.ExceptHandler (some (.Name x np)) (some n) (b₀ :: suite) pos'] [] [] pos) (fun D σ H => tb (wKeep K c i ts Wout D) D σ H) := by
  subst hK
  refine ⟨fun pins s σ H D I h => ?_⟩
  have ok := I.ok
  have hfr : X.A.frames = some (X.env :: X.outer) := ok.frames.trans (congrArg some hs)
  refine wpAny_Try_except (wpAny_mono ((hb (wKeep X.K c i ts Wout D) (X.pn ++ pins) (fun e s₁ => wpAny (model X.prog X.w) X.A (noteFrame e X.env) (fun _ s₂ => wpAny (model X.prog X.w) X.A (setFlight e none) (fun _ s₃ =>
    wpAny (model X.prog X.w) X.A (handleBy e X.env [.ExceptHandler (some (.Name x np)) (some n) (b₀ :: suite) pos']) (SP X pins D) X.xe s₃) X.xe s₂) X.xe s₁) (fun u s' xx => ?caught) PassesOwn.looking).run [] s σ H D (I.toTry _) h) (fun f s1 hsp => ?thru) (fun e s1 he => he))
  case thru =>
    cases f with
    | next =>
      obtain ⟨σ', H', J', q⟩ := hsp
      exact wpAny_execs_nil ⟨σ', H', J'.ofTry ok, q⟩
    | brk =>
      obtain ⟨σ', H', J', q⟩ := hsp
      exact ⟨σ', H', J'.ofTry ok, q⟩
    | cont =>
      obtain ⟨σ', H', J', q⟩ := hsp
      exact ⟨σ', H', J'.ofTry ok, q⟩
    | ret u =>
      obtain ⟨v, σ', H', J', r, q⟩ := hsp
      exact ⟨v, σ', H', J'.ofTry ok, r, q⟩
  case caught =>
    obtain ⟨a, B, sI, pins', σ', H', cls, d, rfl, J', nb, up, sky, na, os, ag, b, hb1, hyes, hno⟩ := xx
    have J : Inv X pins σ' H' sI := J'.ofTry ok
    rw [show (X.tr (X.pn ++ pins) _).stack = X.env :: X.outer from hs] at sky
    show wpAny (model X.prog X.w) X.A (noteFrame (.ref a) X.env) _ _ _
    refine Sky.land Zc.steady hfr hf sky fun h3 fl3 up3 => ?_
    have J3 : Inv X pins σ' H' { s' with heap := h3 } := J.landed nb fl3.1 (up.trans up3) os ag
    obtain ⟨oe3, vs3, he3, hz3, hd3⟩ := fl3.there
    have nfr : a ∉ frs X.stack := fun hm => by
      rw [hs] at hm
      obtain ⟨_, o', e', hnf⟩ := fl3.2.2.1.mem hm
      rw [he3] at e'
      cases e'
      exact hnf _ hd3
    have gone : sI.heap.get? a = none := by
      cases e : sI.heap.get? a with
      | none => rfl
      | some o => exact nomatch (nb a o e nfr).symm.trans fl3.2.1
    have lives : ∀ {b : Addr} {o : Obj}, sI.heap.get? b = some o → b ≠ a := fun {b o} e z => nomatch (z ▸ e : sI.heap.get? a = some o).symm.trans gone
    have n0 : X.s_0.heap.get? a = none := by
      cases e : X.s_0.heap.get? a with
      | none => rfl
      | some o =>
        obtain ⟨o', q⟩ := J.base.there a o e (by rw [hex]; exact fun z => nomatch z)
        exact absurd rfl (lives q)
    have nL : X.env.locals ≠ a := by
      obtain ⟨m, ⟨o, es, ep, q, _⟩, _⟩ := J.loc
      exact lives q
    have nC : ∀ x c, X.env.cells.lookup x = some c → c ≠ a := fun x c e => by
      obtain ⟨v, o, q, _⟩ := J.cell x c e
      exact lives q
    have nP : ∀ p ∈ X.pn ++ pins, p.1 ≠ a := fun p hp => lives (J.pin p hp).1
    have S3 := inv_suite0 J3 a
    refine wpAny_handleBy_cons (codeAny_handlers_test ?_) (by intro q; cases q)
    have LT : PySem.W.Looks (model X.prog X.w) h3 (typeOf (.ref a)) cls := fun A Q E s k q => wpAny_typeOf_ref (k _ _ he3) (by rw [hz3.1]; exact q)
    have LM := PySem.W.exm_one (M := model X.prog X.w) J3.kIn LT hb1
    have test : ∀ {Q : Value → Shared → Prop} {E : Value → Shared → Prop}, Q c { s' with heap := h3 } → wpAny (model X.prog X.w) (X.A.mark (some (.ref a))) (eval (.Name x np) X.env) Q E { s' with heap := h3 } := fun {Q E} q => by
      obtain ⟨hg, hdbg, hm | ⟨hm, hv, hnn⟩⟩ := hc
      · exact ld_glob (X := X.suite a (X.pn ++ pins)) S3 hg hm q hdbg
      · exact ld_blt (X := X.suite a (X.pn ++ pins)) S3 hg hm hv q hnn hdbg
    refine test (LM.here ?_)
    cases b with
    | false =>
      show wpAny _ X.A (handleBy (.ref a) X.env []) _ _ _
      refine wpAny_handleBy_nil ?_
      obtain ⟨_, _, _, oe, vs, T, oT, ts', he, hz, hd, h1, hr⟩ := id fl3
      unfold PySem.passOn
      refine wpAny_bind (wpAny_field he hd h1 ?_)
      rw [if_neg (show ¬ ((Value.ref T == Value.none) = true) from by simp)]
      have fin : wpAny (model X.prog X.w) X.A (setFlight (.ref a) X.env.frame) (fun _ s4 => wpAny (model X.prog X.w) X.A (throw (.ref a) : Sem Flow) (SP X pins D) X.xe s4) X.xe { s' with heap := h3 } := by
        rw [hf]
        refine HandSPX.setFlight_upZ fl3 fun h4 hh4 up4 => wpAny_throw (tk _ _ ?_)
        exact ⟨a, B, sI, pins, σ', H', cls, d, rfl, J, nb, (up.trans up3).trans up4, .inr (.inr (by rw [hs]; exact hh4)), na, os, ag, hno rfl⟩
      first
        | exact wpAny_bind (wpAny_pure (wpAny_bind fin))
        | exact wpAny_bind fin
    | true =>
      refine codeAny_handlers_suite_as (HandSPX.lands_againZ fl3 fun h4 fl4 up4 => ?_)
      obtain ⟨oe4, vs4, he4, hz4, hd4⟩ := fl4.there
      have J4 : Inv X pins σ' H' { s' with heap := h4 } := J.landed nb fl4.1 ((up.trans up3).trans up4) os ag
      have S4 := inv_suite0 (inv_track J4 na (exk_ok (H := upd H' a (exk a cls d)) he4 hz4 hd4) n0 nL nC nP) a
      refine store_ok (X := X.suite a (X.pn ++ pins)) (v := .ref a) S4 hN hi (.inl hln) rfl (fun s5 S5 => ?_) (.inr hln)
      refine wpAny_mono ((hsu a (X.pn ++ pins)).run [] s5 _ _ _ S5 (hyes rfl a na)) (fun f s6 hsp => ?_) (fun _ _ z => False.elim z)
      have fin : ∀ {σ6 : L2.St} {H6 : Hp} {Q : Shared → Prop}, Inv (X.suite a (X.pn ++ pins)) [] σ6 H6 s6 → (∀ s7, Inv X pins (σ6.set i none) H6 s7 → Q s7) →
          wpAny (model X.prog X.w) X.A (do bindName X.env n .none; unbindBehindTheSuite X.env n pos') (fun _ s7 => Q s7) X.xe s6 := fun {σ6 H6 Q} S6 hq => gone_ok (inv_unsuite0 S6 ok) hN hi hln hq
      cases f with
      | next =>
        obtain ⟨σ6, H6, S6, q6⟩ := hsp
        exact fin S6 fun s7 J7 => ⟨_, _, J7, q6⟩
      | brk =>
        obtain ⟨σ6, H6, S6, q6⟩ := hsp
        exact fin S6 fun s7 J7 => ⟨_, _, J7, q6⟩
      | cont =>
        obtain ⟨σ6, H6, S6, q6⟩ := hsp
        exact fin S6 fun s7 J7 => ⟨_, _, J7, q6⟩
      | ret u =>
        obtain ⟨v6, σ6, H6, S6, r6, q6⟩ := hsp
        exact fin S6 fun s7 J7 => ⟨_, _, _, J7, r6, q6⟩
end
/-! ### its fields -/
def tFldOf (K : PySem.W.Frag) (f : Str) (te : TE) : TE := fun σ H Q => te σ H fun x H1 => ∃ (a C dd : Addr) (nI : String) (tl : List Value) (fs : List (Str × V)) (v : V), x = .ref a ∧ H1 a = some (exk a (.ref C) (some dd)) ∧ H1 dd = some (.xd fs) ∧ Own K C nI tl ∧
  PySem.W.findIn K (.ref C) f = some none ∧ fs.lookup f = some v ∧ Q v H1
theorem pe_fldOf {X : Cx} {K : PySem.W.Frag} {e : Expr} {te : TE} {pos : Pos} {n : Str} (he : PE X e te) (hK : X.K = K := by rfl) (hb : attributeBase e n X.env (eval e X.env) = eval e X.env := by rfl) : PE X (.Attribute e n pos) (tFldOf K n te) := by
  subst hK
  refine ⟨fun pins s σ H Q I h => ?_⟩
  refine attr_of hb (thn (he.run pins s σ H _ I h) fun u s1 hh => ?_)
  obtain ⟨x, H1, I1, rx, a, C, dd, nI, tl, fs, v, rfl, ea, ed, T, hno, l, q⟩ := hh
  obtain rfl : u = Value.ref a := rx
  obtain ⟨oe, vs, ha, hz, hd⟩ := exk_at I1.hok ea
  have hx : ObjOk X.prog X.w H1 s1.heap dd (.xd fs) := I1.hok dd _ ed
  obtain ⟨mA, hns, hr⟩ := hx
  obtain ⟨od, ho, hl⟩ := lookIn_ns hns
  obtain ⟨u, hu, ru⟩ := RelO.some_of (v := v) (o := mA n) (by rw [← l]; exact hr n)
  have J : PySem.W.InstAt s1.heap a oe C (some od) := ⟨ha, hz.1, by unfold PySem.W.notCls; rw [hd] <;> rfl, by rw [hz.2]; exact ho⟩
  exact HandSPX.exc_get I1.kIn J T.ga T.gg T.sub (PySem.W.findObj_own T.hd hno rfl (by rw [hl, hu])) (handed_of ru) ⟨v, H1, I1.tok _, ru, q⟩
end Fw
namespace Fw
open PySem PySem.Spec PyProof.Rows L2
section
open PySem.W
variable {prog : Program} {w : World} {A : Around} {E : Value → Shared → Prop} {s : Shared} {K : PySem.W.Frag} {x D : Addr} {ox : Obj} {od : Option Obj} {nI : String} {tl : List Value}
/-- x.__class__, x an exception of an own class, with or without a dict -/
theorem cls_exc {Q : Option Value → Shared → Prop} (T : Own K D nI tl) (X : K.In s.heap) (I : PySem.W.InstAt s.heap x ox D od) (h : Q (some (.ref D)) { s with toks := s.toks + 1 }) : wpAny (model prog w) A (getAttr? (.ref x) "__class__") Q E s := by
  have hf : findObj K D od "__class__" = some (.bind (.builtin "getset_descriptor.__get__") (.builtin "object.__class__")) := by
    obtain ⟨cd, hc, _⟩ := any_some T.hd
    unfold findObj
    rw [hc, Option.bind_some, T.cl, Option.bind_some]
    simp [T.cg, T.ct]
  obtain ⟨hp, g, d, t, os⟩ := s
  have ty := I.type (M := model prog w)
  have own := looks_findIn (M := model prog w) X T.ga
  have hook := looks_findIn (M := model prog w) X T.gg
  have fnd := looks_find (M := model prog w) X I hf
  have sub : Looks (model prog w) hp (isInstance (.ref x) (.type "BaseException")) true := ty.andThen (looks_subIn X T.sub)
  have n2 : (Value.builtin "BaseException.__getattribute__" == Value.builtin "object.__getattribute__") = false := by decide +kernel
  have n1 : (onTheHeap (Value.ref D) && Value.builtin "BaseException.__getattribute__" == Value.builtin "object.__getattribute__") = false := by rw [n2]; rfl
  unfold getAttr? getAttrBy? getAttrBy
  refine wpAny_bind (wpAny_mkText (wpAny_bind (wpAny_attempt (wpAny_holding (wpAny_bind (ty.at (wpAny_bind (own.at ?_))))))))
  show wpAny _ _ (if (onTheHeap (Value.ref D) && Value.builtin "BaseException.__getattribute__" == Value.builtin "object.__getattribute__") = true then _ else _) _ _ _
  rw [n1, if_neg Bool.false_ne_true]
  unfold getAttrByItsOwn hookBefore
  refine wpAny_bind ?_
  rw [if_pos (show onTheHeap (Value.ref D) = true from rfl)]
  refine hook.at (wpAny_bind (wpAny_attempt (wpAny_holding ?_)))
  unfold callGetattribute
  rw [if_neg (show ¬ ((false && onTheHeap (Value.builtin "BaseException.__getattribute__")) = true) from by decide +kernel)]
  unfold boundAndCalled
  rw [PySem.F.excAttr_ValueError.ga.bind (.ref x)]
  refine wpAny_bind (wpAny_pure ?_)
  show wpAny _ _ (call (.builtin "BaseException.__getattribute__") [.ref x, .str "__class__" t]) _ _ _
  refine wpAny_call (codeAny_call_builtin PySem.F.excAttr_ValueError.ga.plain PySem.F.entry_bexc_ga ?_)
  refine @check_slot (model prog w) _ _ ⟨hp, g, d, t + 1, os⟩ "BaseException.__getattribute__" "BaseException" "__getattribute__" (.ref x) [.str "__class__" t] [] _ (by decide +kernel) (by decide +kernel) sub (PySem.F.args_bexc_ga (.ref x) (.str "__class__" t)) ?_
  unfold Builtin.«object.__getattribute__»
  refine wpAny_bind (wpAny_of_eq (a := ((Value.ref x : Value), [Value.str "__class__" t])) (by first | rfl | (simp only [slotArgs]; rfl)) ?_)
  refine wpAny_bind (wpAny_pure (wpAny_bind (ty.at (wpAny_bind (fnd.at ?_)))))
  show wpAny _ _ (holding [Value.builtin "object.__class__"] (call (.builtin "getset_descriptor.__get__") [.builtin "object.__class__", .ref x, .ref D]) >>= ret) _ _ _
  refine wpAny_bind (wpAny_holding (wpAny_call (class_get (s := ⟨hp, g, d, t + 1, os⟩) (ox := ox) (od := od) X I T.mo ?_)))
  refine wpAny_pure ?_
  show wpAny _ _ (handedOut (.ref D)) _ _ _
  rw [handedOut_of (v := .ref D) rfl]
  first
    | exact wpAny_pure (wpAny_pure h)
    | exact wpAny_pure h
    | exact wpAny_pure (wpAny_bind (wpAny_pure (wpAny_pure h)))
theorem kit_exc (T : Own K D nI tl) : KitX K (.ref x) (.ref D) (fun h => PySem.W.InstAt h x ox D od) := by
  obtain ⟨cd, hc, _⟩ := any_some T.hd
  have at' : ∀ {h : Heap}, K.In h → ∃ (c : Value) (d' : Option Addr) (cd' : ClassData) (sl : Array (Option Value)), h.get? D = some ⟨c, d', .cls cd', sl⟩ := fun {h} X => by
    unfold clsIn at hc
    split at hc
    · rename_i c' d' cd' sl' ho
      exact ⟨_, _, _, _, X _ _ ho⟩
    · cases hc
  refine ⟨fun _ _ _ I => I.type, fun _ h X _ => ?_, fun h tp dd its n sl X htp => ?_, fun X I k => cls_exc T X I k⟩
  · obtain ⟨c', d', cd', sl', ho⟩ := at' X
    intro A' Q' E' s' k q
    unfold isType loadHead
    exact wpAny_bind (wpAny_loadPart (k _ _ ho) (wpAny_pure q))
  · obtain ⟨c', d', cd', sl', ho⟩ := at' X
    refine Bool.eq_false_iff.mpr fun q => ?_
    have e : D = tp := Value.ref.inj (beq_iff_eq.mp q)
    subst e
    exact nomatch ho.symm.trans htp
end
/-- isinstance(e, c), isinstance(e, (c1, ..)), e a kept exception -/
def uIsX (K : PySem.W.Frag) : List V → Hp → VK → Prop := fun xs H Q => ∃ (a C dd : Addr) (nI : String) (tl : List Value) (fs : List (Str × V)) (b : Bool), H a = some (exk a (.ref C) (some dd)) ∧ H dd = some (.xd fs) ∧ Own K C nI tl ∧ Q (.bl b) H ∧
  ((∃ (c : V) (u : Value), xs = [.ref a, c] ∧ ClsV c u ∧ PySem.W.kitOne K (.ref C) u = some b) ∨ ∃ (tp : Addr) (cs : List V) (us : List Value), xs = [.ref a, .ref tp] ∧ H tp = some (.tup cs) ∧ Paired ClsV cs us ∧ PySem.W.kitAny K (.ref C) us = some b)
theorem call_isX {X : Cx} {K : PySem.W.Frag} (hK : X.K = K := by rfl) : CallR X (.builtin "isinstance") (uIsX K) := by
  subst hK
  intro pins s σ H xs us Q I r h
  obtain ⟨a, C, dd, nI, tl, fs, b, ea, ed, T, q, h⟩ := h
  obtain ⟨oe, vs, ha, hz, hd⟩ := exk_at I.hok ea
  have hx : ObjOk X.prog X.w H s.heap dd (.xd fs) := I.hok dd _ ed
  obtain ⟨mA, hns, hr⟩ := hx
  obtain ⟨od, ho, hl⟩ := lookIn_ns hns
  have J : PySem.W.InstAt s.heap a oe C (some od) := ⟨ha, hz.1, by unfold PySem.W.notCls; rw [hd] <;> rfl, by rw [hz.2]; exact ho⟩
  rcases h with ⟨c, u, rfl, k, e⟩ | ⟨tp, cs, ws, rfl, hT, k, e⟩
  · obtain ⟨u1, u2, rfl, r1, r2⟩ := vals2 r
    obtain rfl : u1 = Value.ref a := r1
    have e2 := k.eq r2
    subst e2
    exact PySem.W.kia_one (kit_exc T) I.kIn J e (fun z => nomatch z) fun tk => ⟨.bl b, H, I.tok tk, rfl, q⟩
  · obtain ⟨u1, u2, rfl, r1, r2⟩ := vals2 r
    obtain rfl : u1 = Value.ref a := r1
    cases (show u2 = Value.ref tp from r2)
    obtain ⟨_, its, rv, o, h1, h2, n, h3⟩ := (show ObjOk X.prog X.w H s.heap tp (.tup cs) from I.hok tp _ hT)
    have e3 := ClsV.all k rv
    subst e3
    obtain ⟨oc, od', dt, sl⟩ := o
    simp only at h2 h3
    subst h2 h3
    exact PySem.W.kia_tup (kit_exc T) I.kIn J h1 e (fun z => nomatch z) fun tk => ⟨.bl b, H, I.tok tk, rfl, q⟩
theorem x_isX1 {K : PySem.W.Frag} {H : Hp} {Q : VK} {a C dd : Addr} {nI : String} {tl : List Value} {fs : List (Str × V)} {b : Bool} {n : String} (T : Own K C nI tl) (ea : H a = some (exk a (.ref C) (some dd))) (ed : H dd = some (.xd fs))
    (e : PySem.W.kitOne K (.ref C) (.type n) = some b) (q : Q (.bl b) H) : uIsX K [.ref a, .ty n] H Q := ⟨a, C, dd, nI, tl, fs, b, ea, ed, T, q, .inl ⟨_, _, rfl, .ty n, e⟩⟩
theorem x_isXT {K : PySem.W.Frag} {H : Hp} {Q : VK} {a C dd tp : Addr} {nI : String} {tl : List Value} {fs : List (Str × V)} {b : Bool} {cs : List V} {us : List Value} (T : Own K C nI tl) (ea : H a = some (exk a (.ref C) (some dd))) (ed : H dd = some (.xd fs))
    (hT : H tp = some (.tup cs)) (k : Paired ClsV cs us) (e : PySem.W.kitAny K (.ref C) us = some b) (q : Q (.bl b) H) : uIsX K [.ref a, .ref tp] H Q := ⟨a, C, dd, nI, tl, fs, b, ea, ed, T, q, .inr ⟨tp, cs, us, rfl, hT, k, e⟩⟩
/-! ### calls that may raise, at the slots -/
def tCallNS (n m : Nat) (sp : Sp) (gV : List V → List V → List V) (W : WX) (t tk : TA) : TE := fun σ H Q => t σ H fun vs H1 => tk σ H1 fun zs H2 => vs.length = n ∧ zs.length = m ∧ sp (gV vs zs) H2 Q (WE W σ)
section
variable {X : Cx} {k j n : Nat} {ks ps : List Str} {gV : List V → List V → List V} {sp : Sp} {W : WX} {x : Str} {p pos : Pos} {e : Expr} {es : List Expr} {kws : List Keyword} {t tk : TA}
theorem pe_fnNS (tks : Takes X W) (F : FnN X.prog X.w X.K X.mg X.base (L2.CX X.prog X.w) k x n ks gV sp) (hr : Room j X.A) (hk : k ≤ j) (hg : Gl X x) (ha : PA X (e :: es) t) (hkw : PK X kws tk) (hall : (backToKw pos (keywordEach kws X.env)).all (·.1.isSome) = true := by rfl) (hks : (backToKw pos (keywordEach kws X.env)).filterMap (·.1) = ks := by rfl)
    (hdb : (x == ("__debug__" : Str)) = false := by decide) (he : starEach (e :: es) X.env = (false, eval e X.env) :: starEach es X.env := by rfl)
    (hpl : ((backTo pos (starEach (e :: es) X.env)).any (·.1) || (backToKw pos (keywordEach kws X.env)).any (·.1.isNone)) = false := by rfl) :
    PE X (.Call (.Name x p) (e :: es) kws pos) (tCallNS n ks.length sp gV W t tk) := by
  obtain ⟨f, fd, ps, g, hm, hkp, hb, F⟩ := F.ex
  refine ⟨fun pins s σ H Q I h => wpAny_Call_Name_kw (ld_glob I hg hm ?_ hdb)⟩
  refine PySem.W.callWith_KW (h₀ := X.base) I.ok.mod.kin hkp hall (thn (ha.run pos pins s σ H _ I h) fun us s1 ⟨vs, H1, I1, r, q⟩ => ?_) hpl he
  refine thn (hkw.run pos pins s1 σ H1 _ I1 q) fun ws s2 ⟨zs, H2, I2, rz, l1, l2, q2⟩ => ⟨I2.kIn, ?_⟩
  rw [hks]
  refine wpAny_call (codeAny_mono (F.run X.A X.stack s2 H2 ⟨us, ks.zip ws⟩ (g us ws) (gV vs zs) Q (WE W σ) (hr.mono hk) I2.env0 (hb.to s2 us ws I2.kIn (r.length.symm.trans l1) (rz.length.symm.trans l2)) (hb.rel r rz) q2) fun r s' hq => ?_)
  cases r with
  | error er => exact passAt tks σ pins H2 s2 er s' I2 hq
  | ok fl =>
    cases fl with
    | ret u => exact I2.after hq
    | next => exact hq.elim
    | brk => exact hq.elim
    | cont => exact hq.elim
theorem pe_fnS (tks : Takes X W) (F : Fn X.prog X.w X.K X.mg X.base (L2.CX X.prog X.w) k x ps sp) (hr : Room j X.A) (hk : k ≤ j) (hg : Gl X x) (ha : PA X (e :: es) t) (hdb : (x == ("__debug__" : Str)) = false := by decide)
    (he : starEach (e :: es) X.env = (false, eval e X.env) :: starEach es X.env := by rfl) (hpl : (backTo pos (starEach es X.env)).any (·.1) = false := by rfl) : PE X (.Call (.Name x p) (e :: es) [] pos) (tCallS sp (WE W) t) := by
  obtain ⟨f, fd, hm, hkp, hb, F⟩ := F.ex
  exact pe_callS F (hr.mono hk) hg hm hkp hb (passAt tks) ha hdb he hpl
end
end Fw
namespace Fw
open PySem PySem.Spec PyProof.Rows L2
/-! ### defs that may raise -/
section
variable {P : Program} {w : World} {K : PySem.W.Frag} {mg : Str → Option Value} {base : Heap}
theorem okSX {x qual : Str} {st : Stmt} {f : Addr} {fd : FuncData} {N ps : List Str} {k : Nat} {sp : Sp} (F : Fun K x qual st f fd) (S : FnScope N ps (defScope st)) (len : ∀ vs H Q E, sp vs H Q E → vs.length = ps.length)
    (hbody : ∀ (cdv : Value) (A : Around) (outer : List Env) (s : Shared) (H : Hp) (vs : List V) (Q : VK) (E : XK), Room k (A.deeper (envOfC qual (defScope st) s.heap.objs.size f cdv)) → sp vs H Q E →
      ∃ t σ, PSs (cxOf (L2.CX P w) P w K mg base N qual (defScope st) f cdv A outer s H E) (defBody st) t ∧ L2.start N vs = σ ∧ t { nx := fun _ H' => Q .non H', rt := Q } σ H) : FnOk P w K mg base (L2.CX P w) (k + 1) f fd ps sp := by
  refine F.okX S len fun cdv A outer s H vs Q E hr h => ?_
  obtain ⟨t, σ, h1, rfl, h2⟩ := hbody cdv A outer s H vs Q E hr h
  exact ⟨t, h1, h2⟩
theorem okDX {x qual : Str} {st : Stmt} {dvs : List V} {kws : List (Str × V)} {f : Addr} {fd : FuncData} {N ps : List Str} {k : Nat} {sp : Sp} (F : FunD K x qual (defArgs st) (defBody st) (defScope st) dvs kws f fd) (S : FnScope N ps (defScope st)) (len : ∀ vs H Q E, sp vs H Q E → vs.length = ps.length)
    (hbody : ∀ (cdv : Value) (A : Around) (outer : List Env) (s : Shared) (H : Hp) (vs : List V) (Q : VK) (E : XK), Room k (A.deeper (envOfC qual (defScope st) s.heap.objs.size f cdv)) → sp vs H Q E →
      ∃ t σ, PSs (cxOf (L2.CX P w) P w K mg base N qual (defScope st) f cdv A outer s H E) (defBody st) t ∧ L2.start N vs = σ ∧ t { nx := fun _ H' => Q .non H', rt := Q } σ H) : FnOk P w K mg base (L2.CX P w) (k + 1) f fd ps sp := by
  refine F.ok S len fun cdv A outer s H vs Q E hr h => ?_
  obtain ⟨t, σ, h1, rfl, h2⟩ := hbody cdv A outer s H vs Q E hr h
  exact ⟨t, h1, h2⟩
end
/-- what leaves a def -/
theorem takesE {P : Program} {w : World} {K : PySem.W.Frag} {mg : Str → Option Value} {base : Heap} {N : List Str} {qual : Str} {sc : Scope} {f : Addr} {cdv : Value} {A : Around} {outer : List Env} {s : Shared} {H : Hp} {E : XK} :
    Takes (cxOf (L2.CX P w) P w K mg base N qual sc f cdv A outer s H E) (fun cls d _ H' => E cls d H') := takes_of rfl rfl rfl rfl
/-! ### steps -/
section
variable {σ : L2.St} {H : Hp} {Q : VK} {D : Ends} {t tk ta : TA} {to te : TE} {sp : Sp} {gV : List V → List V → List V} {W : WX} {n m : Nat} {K : PySem.W.Frag} {nI : String} {tl : List Value} {f : Str}
theorem x_callNS (q : t σ H fun vs H1 => tk σ H1 fun zs H2 => vs.length = n ∧ zs.length = m ∧ sp (gV vs zs) H2 Q (WE W σ)) : tCallNS n m sp gV W t tk σ H Q := q
theorem x_callS {E : L2.St → XK} (q : t σ H fun vs H1 => sp vs H1 Q (E σ)) : tCallS sp E t σ H Q := q
theorem x_fldOf (q : te σ H fun x H1 => ∃ (a C dd : Addr) (nI : String) (tl : List Value) (fs : List (Str × V)) (v : V), x = .ref a ∧ H1 a = some (exk a (.ref C) (some dd)) ∧ H1 dd = some (.xd fs) ∧ Own K C nI tl ∧
  PySem.W.findIn K (.ref C) f = some none ∧ fs.lookup f = some v ∧ Q v H1) : tFldOf K f te σ H Q := q
theorem x_fldE {x : V} {a C dd : Addr} {fs : List (Str × V)} {v : V} (T : Own K C nI tl) (ea : H a = some (exk a (.ref C) (some dd))) (ed : H dd = some (.xd fs)) (hf : PySem.W.findIn K (.ref C) f = some none) (hl : fs.lookup f = some v) (q : Q v H) :
    ∃ (a' C dd : Addr) (nI : String) (tl : List Value) (fs : List (Str × V)) (v : V), V.ref a = .ref a' ∧ H a' = some (exk a' (.ref C) (some dd)) ∧ H dd = some (.xd fs) ∧ Own K C nI tl ∧ PySem.W.findIn K (.ref C) f = some none ∧ fs.lookup f = some v ∧ Q v H :=
  ⟨a, C, dd, nI, tl, fs, v, rfl, ea, ed, T, hf, hl, q⟩
theorem x_mkO {C : Addr} {dvs : List V} {Q : XK} (q : ta σ H fun vs H1 => vs.length ≤ 1000 ∧ ∀ a, H1 a = none → sp (.ref a :: (vs ++ dvs)) (upd H1 a (exo a C none))
    (fun v H2 => v = .non ∧ ∃ (d : Addr) (fs : List (Str × V)), H2 a = some (exo a C (some d)) ∧ H2 d = some (exd d fs) ∧ H1 d = none ∧ Q (.ref C) (some d) (upd (L2.del H2 a) d (.xd fs))) (fun _ _ _ => False)) : tMkO C sp dvs ta σ H Q := q
/-! ### __init__ -/
def spInit1 (C : Addr) (f : Str) : Sp := fun vs H Q _ => ∃ (a : Addr) (v : V), vs = [.ref a, v] ∧ H a = some (exo a C none) ∧ ∀ d, H d = none → d ≠ a → Q .non (upd (upd H d (exd d [(f, v)])) a (exo a C (some d)))
def spInit2 (C : Addr) (f g : Str) : Sp := fun vs H Q _ => ∃ (a : Addr) (v w : V), vs = [.ref a, v, w] ∧ H a = some (exo a C none) ∧ ∀ d, H d = none → d ≠ a → Q .non (upd (upd (upd H d (exd d [(f, v)])) a (exo a C (some d))) d (exd d [(g, w), (f, v)]))
theorem x_bI {Q : VK} (q : ta σ H fun vs H1 => ∃ (a C : Addr) (ws : List V), vs = .ref a :: ws ∧ ws.length ≤ 1000 ∧ Own K C nI tl ∧ H1 a = some (exo a C none) ∧ Q .non H1) : tBI K nI tl ta σ H Q := q
/-- the body of an __init__ of one field -/
theorem init1 {C a : Addr} {v x0 : V} (T : Own K C nI tl) (hf : PySem.W.findIn K (.ref C) f = some none) (ea : H a = some (exo a C none)) {Q : VK}
    (q : ∀ d, H d = none → d ≠ a → Q .non (upd (upd H d (exd d [(f, v)])) a (exo a C (some d)))) :
    tSeq (tDrop (tBI K nI tl (tCons (tVar 0) (tCons (tC x0) tNil)))) (tFld K nI tl f (tVar 0) (tVar 1)) { nx := fun _ H' => Q .non H', rt := Q } [some (.ref a), some v] H :=
  ⟨.ref a, rfl, a, C, [x0], rfl, by simp, T, ea, v, rfl, .ref a, rfl, a, C, rfl, T, hf, .inl ⟨ea, q⟩⟩
theorem init2 {C a : Addr} {v w x0 : V} {g : Str} (T : Own K C nI tl) (hf : PySem.W.findIn K (.ref C) f = some none) (hg : PySem.W.findIn K (.ref C) g = some none) (ea : H a = some (exo a C none)) {Q : VK}
    (q : ∀ d, H d = none → d ≠ a → Q .non (upd (upd (upd H d (exd d [(f, v)])) a (exo a C (some d))) d (exd d [(g, w), (f, v)]))) :
    tSeq (tDrop (tBI K nI tl (tCons (tVar 0) (tCons (tC x0) tNil)))) (tSeq (tFld K nI tl f (tVar 0) (tVar 1)) (tFld K nI tl g (tVar 0) (tVar 2))) { nx := fun _ H' => Q .non H', rt := Q } [some (.ref a), some v, some w] H :=
  ⟨.ref a, rfl, a, C, [x0], rfl, by simp, T, ea, v, rfl, .ref a, rfl, a, C, rfl, T, hf, .inl ⟨ea, fun d hd hne => ⟨w, rfl, .ref a, rfl, a, C, rfl, T, hg, .inr ⟨d, _, upd_same, (upd_ne hne).trans upd_same, by simp, q d hd hne⟩⟩⟩⟩
end
section
variable {H1 : Hp} {C : Addr} {f g : Str} {v w : V} {Q : XK}
theorem hp_ext {H H' : Hp} (h : ∀ b, H b = H' b) : H = H' := funext h
/-- C(v) made: what is left of it is its dict -/
theorem x_mk1 (q : ∀ d, H1 d = none → Q (.ref C) (some d) (upd H1 d (.xd [(f, v)]))) : ([v] : List V).length ≤ 1000 ∧ ∀ a, H1 a = none → spInit1 C f (.ref a :: ([v] ++ [])) (upd H1 a (exo a C none))
    (fun v H2 => v = .non ∧ ∃ (d : Addr) (fs : List (Str × V)), H2 a = some (exo a C (some d)) ∧ H2 d = some (exd d fs) ∧ H1 d = none ∧ Q (.ref C) (some d) (upd (L2.del H2 a) d (.xd fs))) (fun _ _ _ => False) := by
  refine ⟨by simp, fun a ha => ⟨a, v, rfl, upd_same, fun d hd hne => ⟨rfl, d, _, upd_same, (upd_ne hne).trans upd_same, ?_, ?_⟩⟩⟩
  · rw [upd_ne hne] at hd
    exact hd
  · rw [upd_ne hne] at hd
    have e : upd (L2.del (upd (upd (upd H1 a (exo a C none)) d (exd d [(f, v)])) a (exo a C (some d))) a) d (.xd [(f, v)]) = upd H1 d (.xd [(f, v)]) := by
      refine hp_ext fun b => ?_
      by_cases h1 : b = d
      · rw [h1, upd_same, upd_same]
      · rw [upd_ne h1, upd_ne h1]
        by_cases h2 : b = a
        · rw [h2, L2.del_same, ha]
        · rw [L2.del_ne h2, upd_ne h2, upd_ne h1, upd_ne h2]
    rw [e]
    exact q d hd
theorem x_mk2 (q : ∀ d, H1 d = none → Q (.ref C) (some d) (upd H1 d (.xd [(g, w), (f, v)]))) : ([v, w] : List V).length ≤ 1000 ∧ ∀ a, H1 a = none → spInit2 C f g (.ref a :: ([v, w] ++ [])) (upd H1 a (exo a C none))
    (fun v H2 => v = .non ∧ ∃ (d : Addr) (fs : List (Str × V)), H2 a = some (exo a C (some d)) ∧ H2 d = some (exd d fs) ∧ H1 d = none ∧ Q (.ref C) (some d) (upd (L2.del H2 a) d (.xd fs))) (fun _ _ _ => False) := by
  refine ⟨by simp, fun a ha => ⟨a, v, w, rfl, upd_same, fun d hd hne => ⟨rfl, d, _, (upd_ne (Ne.symm hne)).trans upd_same, upd_same, ?_, ?_⟩⟩⟩
  · rw [upd_ne hne] at hd
    exact hd
  · rw [upd_ne hne] at hd
    have e : upd (L2.del (upd (upd (upd (upd H1 a (exo a C none)) d (exd d [(f, v)])) a (exo a C (some d))) d (exd d [(g, w), (f, v)])) a) d (.xd [(g, w), (f, v)]) = upd H1 d (.xd [(g, w), (f, v)]) := by
      refine hp_ext fun b => ?_
      by_cases h1 : b = d
      · rw [h1, upd_same, upd_same]
      · rw [upd_ne h1, upd_ne h1]
        by_cases h2 : b = a
        · rw [h2, L2.del_same, ha]
        · rw [L2.del_ne h2, upd_ne h1, upd_ne h2, upd_ne h1, upd_ne h2]
    rw [e]
    exact q d hd
end
end Fw
namespace Fw
open PySem PySem.Spec PyProof.Rows L2
abbrev ceT : List Value := [.type "Exception", .type "BaseException", .type "object"]
abbrev keT : List Value := .type "KeyError" :: .type "LookupError" :: ceT
theorem storeKE : StoreFacts "KeyError" keT "object.__setattr__" "object" := by
  constructor
  case mro => kernel_rfl
  case slot => exact .of (owner := "object") (n := "__setattr__") (by rw [typeLookup_type, builtinLookup_eq_fast]; kernel_rfl) (by decide +kernel) (by decide +kernel) (by decide +kernel) (by first | exact .inl (by decide +kernel) | exact .inr (by decide +kernel)) (by rw [isSubtype_type]; kernel_rfl)
  case entry => exact PySem.F.entry_object_sa
  case kind => decide +kernel
  case split => decide +kernel
  case hasOwner => decide +kernel
  case args => intro a b c; unfold argsOk; kernel_rfl
  case passes => intro self; kernel_rfl
/-- KeyError: its __new__ is LookupError's -/
theorem bs_KeyError : Bs "KeyError" "KeyError" "LookupError.__new__" "KeyError.__init__" keT :=
  ⟨⟨_, _, _, PySem.F.excBase_LookupError, by decide +kernel⟩, by decide +kernel, by decide +kernel, by decide +kernel,
    .of (owner := "KeyError") (n := "__init__") (by rw [typeLookup_type, builtinLookup_eq_fast]; kernel_rfl) (by decide +kernel) (by decide +kernel) (by decide +kernel) (by first | exact .inl (by decide +kernel) | exact .inr (by decide +kernel)) (by rw [isSubtype_type]; kernel_rfl),
    entryFor_alias (id' := "BaseException.__init__") (by rw [fastTable_eq_tree]; kernel_rfl) (by first | rfl | decide +kernel) (by decide +kernel) (by rw [fastTable_eq_tree]; kernel_rfl), by kernel_rfl, by kernel_rfl, by kernel_rfl, by decide +kernel,
    storeKE, by kernel_rfl, by decide +kernel, by decide +kernel, fun K => by kernel_rfl, by decide +kernel, by decide, by decide⟩
theorem bs_LookupError : Bs "LookupError" "LookupError" "LookupError.__new__" "LookupError.__init__" (.type "LookupError" :: ceT) := bs_of PySem.F.excBase_LookupError PySem.F.store_LookupError (by kernel_rfl) (by decide +kernel) (by decide +kernel) (fun K => by kernel_rfl) (by decide +kernel) (by decide) (by decide)
theorem bs_IndexError : Bs "IndexError" "IndexError" "IndexError.__new__" "IndexError.__init__" (.type "IndexError" :: .type "LookupError" :: ceT) := bs_of PySem.F.excBase_IndexError PySem.F.store_IndexError (by kernel_rfl) (by decide +kernel) (by decide +kernel) (fun K => by kernel_rfl) (by decide +kernel) (by decide) (by decide)
theorem bs_RuntimeError : Bs "RuntimeError" "RuntimeError" "RuntimeError.__new__" "RuntimeError.__init__" (.type "RuntimeError" :: ceT) := bs_of PySem.F.excBase_RuntimeError PySem.F.store_RuntimeError (by kernel_rfl) (by decide +kernel) (by decide +kernel) (fun K => by kernel_rfl) (by decide +kernel) (by decide) (by decide)
theorem bs_ArithmeticError : Bs "ArithmeticError" "ArithmeticError" "ArithmeticError.__new__" "ArithmeticError.__init__" (.type "ArithmeticError" :: ceT) := bs_of PySem.F.excBase_ArithmeticError PySem.F.store_ArithmeticError (by kernel_rfl) (by decide +kernel) (by decide +kernel) (fun K => by kernel_rfl) (by decide +kernel) (by decide) (by decide)
theorem bs_OverflowError : Bs "OverflowError" "OverflowError" "OverflowError.__new__" "OverflowError.__init__" (.type "OverflowError" :: .type "ArithmeticError" :: ceT) := bs_of PySem.F.excBase_OverflowError PySem.F.store_OverflowError (by kernel_rfl) (by decide +kernel) (by decide +kernel) (fun K => by kernel_rfl) (by decide +kernel) (by decide) (by decide)
end Fw
namespace Fw
open PySem PySem.Spec PyProof.Rows L2 L2H HotX
/-! ### raise C(..) from e, e the exception that is handled -/
/-- the heap behind «from e» -/
def causeOf (h : Heap) (a x1 : Addr) : Heap := (h.update a (Obj.mapFields (·.setIfInBounds 3 (.ref x1)))).update a (Obj.mapFields (·.setIfInBounds 4 (.bool true)))
theorem causeOf_at {h : Heap} {a x1 : Addr} {oe : Obj} {vs : Array Value} (ha : h.get? a = some oe) (hd : oe.data = .fields vs) :
    (causeOf h a x1).get? a = some ((oe.mapFields (·.setIfInBounds 3 (.ref x1))).mapFields (·.setIfInBounds 4 (.bool true))) ∧ ((oe.mapFields (·.setIfInBounds 3 (.ref x1))).mapFields (·.setIfInBounds 4 (.bool true))).data = .fields ((vs.setIfInBounds 3 (.ref x1)).setIfInBounds 4 (.bool true)) := by
  have d3 := Obj.data_mapFields hd (·.setIfInBounds 3 (Value.ref x1))
  have a3 := Heap.get?_update_self (Obj.mapFields (·.setIfInBounds 3 (Value.ref x1))) ha (Obj.isFreed_of_fields d3)
  have d4 := Obj.data_mapFields d3 (·.setIfInBounds 4 (.bool true))
  exact ⟨Heap.get?_update_self (Obj.mapFields (·.setIfInBounds 4 (.bool true))) a3 (Obj.isFreed_of_fields d4), d4⟩
theorem causeOf_other {h : Heap} {a b x1 : Addr} (hne : a ≠ b) : (causeOf h a x1).get? b = h.get? b := by
  unfold causeOf
  rw [Heap.get?_update_other _ _ hne, Heap.get?_update_other _ _ hne]
theorem raise_from {prog : Program} {w : World} {A : Around} {E : Value → Shared → Prop} {env : Env} {s : Shared} {x c : Sem Value} {Q : Flow → Shared → Prop} {x1 : Addr}
    (h : wpAny (model prog w) A x (fun v s₁ => ∃ a oe vs cls, v = .ref a ∧ s₁.heap.get? a = some oe ∧ oe.cls = cls ∧ oe.data = .fields vs ∧ vs[1]? = some .none ∧ 4 < vs.size ∧ x1 ≠ a ∧ HotAt A x1 s₁.heap ∧
      PySem.W.Looks (model prog w) s₁.heap (isSubtype cls (.type "BaseException")) true ∧ PySem.W.Looks (model prog w) (causeOf s₁.heap a x1) (typeOf cls) (.type "type") ∧ PySem.W.Looks (model prog w) s₁.heap (isInstance (.ref x1) (.type "BaseException")) true ∧
      (∀ Q' : Value → Shared → Prop, Q' (.ref x1) s₁ → wpAny (model prog w) A c Q' E s₁) ∧
      E (.ref a) { s₁ with heap := (causeOf s₁.heap a x1).update a (Obj.mapFields (·.setIfInBounds 2 (.ref x1))) }) E s) :
    wpAny (model prog w) A (raiseStmt env (some x) (some c)) Q E s := by
  unfold raiseStmt
  dsimp only
  refine wpAny_bind (wpAny_mono h (fun v s₁ h₁ => ?_) fun _ _ x => x)
  obtain ⟨a, oe, vs, cls, rfl, ha, hcls, hd, h1, hi, hne, hot, L1, L3, L5, hcs, hE⟩ := h₁
  have ty : PySem.W.Looks (model prog w) s₁.heap (typeOf (.ref a)) cls := fun A Q E s k q => wpAny_typeOf_ref (k _ _ ha) (by rw [hcls]; exact q)
  have isE : PySem.W.Looks (model prog w) s₁.heap (isInstance (.ref a) (.type "BaseException")) true := ty.andThen L1
  have noT : ∀ {s2 : Shared} {b : Addr} {ob : Obj} {ws : Array Value} {Q' : Bool → Shared → Prop}, s2.heap.get? b = some ob → ob.data = .fields ws → Q' false s2 → wpAny (model prog w) A (isType (.ref b)) Q' E s2 := by
    intro s2 b ob ws Q' g dd hq
    simp only [isType, loadHead]
    refine wpAny_bind (wpAny_loadPart g ?_)
    rw [dd]
    exact wpAny_pure hq
  have d3 := Obj.data_mapFields hd (·.setIfInBounds 3 (Value.ref x1))
  have a3 := Heap.get?_update_self (Obj.mapFields (·.setIfInBounds 3 (Value.ref x1))) ha (Obj.isFreed_of_fields d3)
  obtain ⟨a4, d4⟩ := causeOf_at (x1 := x1) ha hd
  have s4 : 4 < (vs.setIfInBounds 3 (Value.ref x1)).size := by rw [set_size]; exact hi
  have s2 : 2 < ((vs.setIfInBounds 3 (Value.ref x1)).setIfInBounds 4 (Value.bool true)).size := by rw [set_size, set_size]; omega
  have h14 : ((vs.setIfInBounds 3 (Value.ref x1)).setIfInBounds 4 (Value.bool true))[1]? = some Value.none := set_other (by decide) (set_other (by decide) h1)
  have cls4 : ((oe.mapFields (·.setIfInBounds 3 (.ref x1))).mapFields (·.setIfInBounds 4 (.bool true))).cls = cls := by rw [Obj.cls_mapFields, Obj.cls_mapFields]; exact hcls
  have ty4 : PySem.W.Looks (model prog w) (causeOf s₁.heap a x1) (typeOf (.ref a)) cls := fun A Q E s k q => wpAny_typeOf_ref (k _ _ a4) (by rw [cls4]; exact q)
  obtain ⟨hh, o1, vs1, g1, dd1, c1⟩ := hot
  have hot4 : HotAt A x1 (causeOf s₁.heap a x1) := ⟨hh, o1, vs1, (causeOf_other (Ne.symm hne)).trans g1, dd1, c1⟩
  have rest : wpAny (model prog w) A (do
      let b ← isType (.ref a)
      if b = true then do
        let e ← holding [.ref a] (raisedFor (.ref a) (.ref a))
        setFlight e none
        raiseNew e
      else do
        let e ← raisedInstance (.ref a)
        setFlight e none
        raiseNew e : Sem Flow) Q E { s₁ with heap := causeOf s₁.heap a x1 } := by
    refine wpAny_bind (noT a4 d4 ?_)
    simp only [Bool.false_eq_true, if_false]
    unfold raisedInstance
    refine wpAny_bind (wpAny_bind (ty4.here (wpAny_bind (L3.here ?_))))
    rw [if_pos (beq_self_eq_true _)]
    refine wpAny_pure ?_
    unfold setFlight
    refine wpAny_bind (wpAny_bind (wpAny_field a4 d4 h14 ?_))
    rw [if_neg (by decide)]
    exact wpAny_pure (raiseNew_hot hot4 hne a4 d4 s2 hE)
  refine wpAny_bind (wpAny_holding (hcs _ (wpAny_bind (wpAny_pure ?_))))
  dsimp only
  refine wpAny_bind (wpAny_holding ?_)
  unfold excFromValue isExcClass
  refine wpAny_bind (wpAny_bind (noT ha hd ?_))
  simp only [Bool.false_eq_true, if_false]
  refine wpAny_pure ?_
  simp only [Bool.false_eq_true, if_false]
  refine wpAny_bind (isE.here ?_)
  simp only [if_true]
  refine wpAny_pure ?_
  rw [if_neg (show ¬ ((Value.ref x1 == Value.none) = true) from by simp)]
  refine wpAny_bind (wpAny_holding ?_)
  refine wpAny_bind (wpAny_bind (noT g1 dd1 ?_))
  simp only [Bool.false_eq_true, if_false]
  refine wpAny_pure ?_
  simp only [Bool.false_eq_true, if_false]
  refine wpAny_bind (L5.here ?_)
  simp only [if_true]
  refine wpAny_pure ?_
  exact wpAny_bind (wpAny_setField ha hd (by omega) (wpAny_bind (wpAny_setField a3 d3 s4 rest)))
theorem ld_own {X : Cx} {E : Value → Shared → Prop} {pins : List (Addr × Obj)} {s : Shared} {σ : L2.St} {H : Hp} {i : Nat} {x : Str} {a : Addr} {pos : Pos} {Q : Value → Shared → Prop} (I : Inv X pins σ H s) (hN : X.N[i]? = some x) (hk : X.env.kindOf x = some .local) (e : σ[i]? = some (some (.ref a)))
    (h : Q (.ref a) s) (hd : (x == ("__debug__" : Str)) = false := by decide) : wpAny (model X.prog X.w) X.A (eval (.Name x pos) X.env) Q E s := by
  obtain ⟨m, hn, hl⟩ := I.loc
  obtain ⟨u, r, l⟩ := hl i x (.ref a) hN e (.inl hk)
  obtain rfl : u = Value.ref a := r
  rcases l with ⟨hk', hm⟩ | ⟨hk', _⟩
  · exact wpAny_Name (wpAny_loadName_local I.ok.kind hk' hn hm h) hd
  · rcases hk' with z | z
    · exact nomatch hk.symm.trans z
    · exact nomatch hk.symm.trans z
/-- raise e from n, n the handled exception's name -/
theorem ps_raiseHF {X : Cx} {W : WX} {e : Expr} {t : L2.St → Hp → XK → Prop} {i : Nat} {n : Str} {np pos : Pos} {p : Addr × Obj} {cls0 : Value} (hot : Hot1 X.A p) (hp : p ∈ X.pn) (hcl : p.2.cls = cls0) (hrs : Raises X cls0) (hN : X.N[i]? = some n) (hk : X.env.kindOf n = some .local) (tk : L2.Takes X W) (he : PMk5 X e t)
    (hd0 : (n == ("__debug__" : Str)) = false := by decide) :
    PS X (.Raise (some e) (some (.Name n np)) pos) (fun _ σ H => σ[i]? = some (some (.ref p.1)) ∧ t σ H fun cls d H' => W cls d σ H') := by
  refine ⟨fun pins s σ H D I h => ?_⟩
  obtain ⟨hσ, h⟩ := h
  obtain ⟨hh, v1, e1, c1⟩ := hot
  show wpAny _ _ (do standAt pos; raiseStmt X.env (some (do let v ← eval e X.env; standAt pos; pure v)) (some (do let v ← eval (.Name n np) X.env; standAt pos; pure v))) _ _ _
  refine wpAny_bind (wpAny_standAt (raise_from (x1 := p.1) (wpAny_bind (wpAny_mono (he pins s σ H _ I h) (fun u s1 hu => wpAny_bind (wpAny_standAt (wpAny_pure ?_))) fun _ _ x => x))))
  obtain ⟨⟨a, oe, vs, sI, H', cls, d, rfl, J, k, hne, ha, hz, hd, h1, na, os, ag, r, q⟩, h5⟩ := hu
  have J1 : Inv X pins σ H' s1 := J.landed (B := sI.heap) (fun _ _ e _ => e) k (Heap.UpToSlots.of_keeps k) os ag
  have k4 : ∀ b u, sI.heap.get? b = some u → (causeOf s1.heap a p.1).get? b = some u := fun b u z => by
    have nab : a ≠ b := fun y => nomatch (y ▸ z : sI.heap.get? a = some u).symm.trans hne
    rw [causeOf_other nab]
    exact k b u z
  obtain ⟨r1, _⟩ := r (model X.prog X.w) s1.heap (J.kIn.keeps k)
  obtain ⟨_, r2⟩ := r (model X.prog X.w) (causeOf s1.heap a p.1) (J.kIn.keeps k4)
  obtain ⟨r3, _⟩ := hrs (model X.prog X.w) s1.heap (J.kIn.keeps k)
  have P1 := (J.pin p (List.mem_append_left _ hp)).1
  have nap : p.1 ≠ a := fun z => nomatch (z ▸ P1 : sI.heap.get? a = some p.2).symm.trans hne
  obtain ⟨ha4, hd4⟩ := causeOf_at (x1 := p.1) ha hd
  have h12 : (((vs.setIfInBounds 3 (Value.ref p.1)).setIfInBounds 4 (Value.bool true)).setIfInBounds 2 (Value.ref p.1))[1]? = some Value.none := set_other (by decide) (set_other (by decide) (set_other (by decide) h1))
  have LT : PySem.W.Looks (model X.prog X.w) s1.heap (typeOf (.ref p.1)) cls0 := fun A Q E s k2 q => wpAny_typeOf_ref (k2 _ _ (k _ _ P1)) (by rw [hcl]; exact q)
  refine ⟨a, oe, vs, cls, rfl, ha, hz.1, hd, h1, h5 a oe vs rfl ha hd, nap, ⟨hh, p.2, v1, k _ _ P1, e1, c1⟩, r1, r2, LT.andThen r3, fun Q' q' => wpAny_bind (ld_own J1 hN hk hσ (wpAny_bind (wpAny_standAt (wpAny_pure q'))) hd0), tk _ _ (XE.new J (fun b u z => ?_) hne (Heap.get?_update_self _ ha4 (Obj.isFreed_of_fields (Obj.data_mapFields hd4 _)))
    ⟨by rw [Obj.cls_mapFields, Obj.cls_mapFields, Obj.cls_mapFields]; exact hz.1, by rw [HandSPX.dict_mapFields, HandSPX.dict_mapFields, HandSPX.dict_mapFields]; exact hz.2.1⟩ (Obj.data_mapFields hd4 _) h12 na os ag q)⟩
  have nab : a ≠ b := fun y => nomatch (y ▸ z : sI.heap.get? a = some u).symm.trans hne
  show ((causeOf s1.heap a p.1).update a (Obj.mapFields (·.setIfInBounds 2 (.ref p.1)))).get? b = some u
  rw [Heap.get?_update_other _ _ nab]
  exact k4 b u z
/-! ### C(..) while an exception is handled -/
theorem pmk5_own {X : Cx} {CX : CXT} {x xB : Str} {e : Expr} {es : List Expr} {ta : TA} {p pos : Pos} {C fI : Addr} {k j : Nat} {fd : FuncData} {ps : List Str} {sp : Sp} {B nI iI : String} {tl : List Value} (F : Bs xB B nI iI tl) (T : Own X.K C nI tl) (iC : PySem.W.findIn X.K (.ref C) "__init__" = some (some (.ref fI)))
    (tI : PySem.W.typeIn X.K (.ref fI) = some (.type "function")) (F1 : FnH X.prog X.w X.K X.mg X.base CX k fI fd ps sp) (hr : RoomH j X.A) (hkj : k + 1 ≤ j) (hc : HotC X) (hb : Binds X.K fd ps []) (hx : Passes CX X (fun _ _ _ => False)) (hg : Gl X x) (hm : X.mg x = some (.ref C)) (ha : PA X (e :: es) ta)
    (hdb : (x == ("__debug__" : Str)) = false := by decide) (he : starEach (e :: es) X.env = (false, eval e X.env) :: starEach es X.env := by rfl) (hpl : (backTo pos (starEach es X.env)).any (·.1) = false := by rfl) :
    PMk5 X (.Call (.Name x p) (e :: es) [] pos) (tMkO C sp [] ta) := by
  intro pins s σ H Q I h
  obtain ⟨pn, hot, hpn⟩ := hc
  refine wpAny_Call_Name_kw (ld_glob I hg hm ?_ hdb)
  refine PySem.W.callWith_K (h₀ := X.base) I.ok.mod.kin T.kp (thn (ha.run pos pins s σ H _ I h) fun us s1 ⟨vs, H1, I1, r1, hz, q1⟩ => ⟨I1.kIn, ?_⟩) he hpl
  show wpAny _ _ (call (.ref C) us) _ _ _
  obtain ⟨nm, N0, q, bs, bm, hd, sn, sub, ab, col, dd, k0, k1, k2, k3, k5, hC, hT⟩ := PySem.W.excInit_of I1.kIn T.inn
  obtain ⟨N, iN, tN, FN, hN⟩ := F.new
  obtain ⟨hp, g, dr, tk, os⟩ := s1
  have hsz : hp.objs.size ≤ hp.objs.size + 1 := Nat.le_succ _
  have hq := q1 (hp.objs.size + 1) (I1.hok.fresh hsz)
  rw [List.append_nil] at hq
  have kk : ∀ b o, hp.get? b = some o → ((hp.push (PySem.W.kdv_tup us)).push (PySem.HandSPX.excO C hp.objs.size)).get? b = some o := fun b o e => Heap.get?_push_of_some _ (Heap.get?_push_of_some _ e)
  have hget : ((hp.push (PySem.W.kdv_tup us)).push (PySem.HandSPX.excO C hp.objs.size)).get? (hp.objs.size + 1) = some (PySem.HandSPX.excO C hp.objs.size) := by heap_get
  have I2 := I1.laid (t' := tk) (a := hp.objs.size + 1) (o := exo (hp.objs.size + 1) C none) kk hsz (exo_ok hget)
  have r2 : Vals (V.ref (hp.objs.size + 1) :: vs) (Value.ref (hp.objs.size + 1) :: us) := .cons rfl r1
  have hl : (Value.ref (hp.objs.size + 1) :: us).length = ps.length := r2.length.symm.trans (F1.len _ _ _ _ hq)
  have hus : us.length ≤ sizeLine := by rw [← Paired.length r1, sizeLine_eq]; omega
  have bd := hb ⟨(hp.push (PySem.W.kdv_tup us)).push (PySem.HandSPX.excO C hp.objs.size), g, dr, tk, os⟩ (Value.ref (hp.objs.size + 1) :: us) I2.kIn (by rw [List.append_nil]; exact hl)
  rw [List.append_nil] at bd
  have P1 := I2.pin pn (List.mem_append_left _ hpn)
  refine wpAny_call (run_cls FN ((hT _).trans hN) ((hT _).trans F.noA) ((hT _).trans F.noN) hC (PySem.W.looks_findIn I1.kIn iC) (fun self => PySem.W.bind_fn I1.kIn self tI) hus
    (codeAny_mono (F1.run _ X.stack _ _ ⟨Value.ref (hp.objs.size + 1) :: us, []⟩ _ _ _ (fun _ _ _ => False) pn (RoomH.make (hr.mono hkj) C us []) ⟨hot.1, hot.2⟩ ⟨P1.1, P1.2.1, fun z => (List.mem_cons.mp (I2.stkSub pn.1 z)).elim P1.2.2.1 P1.2.2.2.1, P1.2.2.2.2⟩ (I2.env0.make C us []) bd r2 hq) fun r s' hq' => ?_))
  cases r with
  | error er => exact hx pins σ _ _ er s' I2 hq'
  | ok fl =>
    cases fl with
    | ret u =>
      obtain ⟨v, H2, os2, bare2, un2, hok2, rv, ev, d, fs, ea, ed, hd1, q2⟩ := hq'
      subst ev
      obtain ⟨h2, g2, d2, t2, os'⟩ := s'
      obtain ⟨t0, G, J, kG, ge, hoe, na⟩ := mk_end0 (d2 := d2) (t2 := t2) I1 hsz kk un2 hok2 os2 bare2 ea ed hd1
      refine ⟨rv, ⟨hp.objs.size + 1, _, _, ⟨G, g2, d2, t2, os'⟩, _, .ref C, some d, rfl, J, kG, ge, hoe, ⟨rfl, rfl, fun vs hv => by cases hv; rfl⟩, rfl, rfl, na, rfl, bare2, raises_own T.sub T.ty, q2⟩, fun a oe vs ea2 hg2 hd2 => ?_⟩
      cases ea2
      cases hoe.symm.trans (show h2.get? (hp.objs.size + 1) = some oe from hg2)
      cases hd2
      show (4 : Nat) < 6
      decide
    | next => exact hq'.elim
    | brk => exact hq'.elim
    | cont => exact hq'.elim
/-- an __init__ called while an exception is handled -/
theorem okSH {P : Program} {w : World} {K : PySem.W.Frag} {mg : Str → Option Value} {base : Heap} {x qual : Str} {st : Stmt} {f : Addr} {fd : FuncData} {N ps : List Str} {k : Nat} {sp : Sp} (F : Fun K x qual st f fd) (S : FnScope N ps (defScope st)) (len : ∀ vs H Q E, sp vs H Q E → vs.length = ps.length)
    (hbody : ∀ (cdv : Value) (A : Around) (outer : List Env) (s : Shared) (H : Hp) (vs : List V) (Q : VK) (E : XK) (p : Addr × Obj), Hot1 A p → RoomH k (A.deeper (envOfC qual (defScope st) s.heap.objs.size f cdv)) → sp vs H Q E →
      ∃ t σ, PSs (cxH CX0 P w K mg base N qual (defScope st) f cdv A outer s H E p) (defBody st) t ∧ L2.start N vs = σ ∧ t { nx := fun _ H' => Q .non H', rt := Q } σ H) : FnH P w K mg base CX0 (k + 1) f fd ps sp := by
  obtain ⟨oc, od, kV, doc, pm, an, cdv, ct, osl, rfl, lk, hcd⟩ := F.ex
  refine fn_ofH lk hcd S len fun A outer s H vs Q E p hot hr hsp => ?_
  obtain ⟨t, σ, h1, rfl, h2⟩ := hbody cdv A outer s H vs Q E p hot hr hsp
  exact ⟨t, h1, h2⟩
end Fw
namespace Fw
open PySem PySem.Spec PyProof.Rows L2
/-! ### promises of defs that are called while no repr is under way -/
section
variable (P : Program) (w : World) (K : PySem.W.Frag) (mg : Str → Option Value) (base : Heap) (CX : CXT)
structure FnG (k : Nat) (f : Addr) (fd : FuncData) (ps : List Str) (sp : Sp) : Prop where
  many : ∀ vs H Q E, sp vs H Q E → vs.length = ps.length
  go : ∀ (A : Around) (up : List Env) (s : Shared) (H : Hp) (ar : Args) (us : List Value) (vs : List V) (Q : VK) (E : XK), Room k A → A.guards = some [] → Env0 P w K mg base A up s H → BindsTo s fd ar (ps.zip us) → Vals vs us → sp vs H Q E →
    codeAny (model P w) A (.call (.ref f) ar) (CR CX up P w H s Q E) s
/-- a def by its name -/
structure Fq (k : Nat) (x : Str) (ps : List Str) (sp : Sp) : Prop where
  ex : ∃ (f : Addr) (fd : FuncData), mg x = some (.ref f) ∧ PySem.W.keepIn K (.ref f) = true ∧ Binds K fd ps [] ∧ FnG P w K mg base CX k f fd ps sp
structure FqN (k : Nat) (x : Str) (n : Nat) (ks : List Str) (gV : List V → List V → List V) (sp : Sp) : Prop where
  ex : ∃ (f : Addr) (fd : FuncData) (ps : List Str) (g : List Value → List Value → List Value), mg x = some (.ref f) ∧ PySem.W.keepIn K (.ref f) = true ∧ KBn K fd ps n ks g gV ∧ FnG P w K mg base CX k f fd ps sp
end
section
variable {P : Program} {w : World} {K : PySem.W.Frag} {mg : Str → Option Value} {base : Heap} {CX : CXT} {k j : Nat} {f : Addr} {fd : FuncData} {ps : List Str} {sp : Sp} {x qual : Str}
theorem FnG.of (F : FnOk P w K mg base CX k f fd ps sp) : FnG P w K mg base CX k f fd ps sp := ⟨F.len, fun A up s H ar us vs Q E r _ => F.run A up s H ar us vs Q E r⟩
theorem FnG.mono (F : FnG P w K mg base CX j f fd ps sp) (h : j ≤ k) : FnG P w K mg base CX k f fd ps sp := ⟨F.many, fun A up s H ar us vs Q E r => F.go A up s H ar us vs Q E (r.mono h)⟩
theorem Fn.q (F : Fn P w K mg base CX k x ps sp) : Fq P w K mg base CX k x ps sp := by
  obtain ⟨f, fd, h1, h2, h3, h4⟩ := F.ex
  exact ⟨f, fd, h1, h2, h3, .of h4⟩
theorem FnN.q {n : Nat} {ks : List Str} {gV : List V → List V → List V} (F : FnN P w K mg base CX k x n ks gV sp) : FqN P w K mg base CX k x n ks gV sp := by
  obtain ⟨f, fd, ps, g, h1, h2, h3, h4⟩ := F.ex
  exact ⟨f, fd, ps, g, h1, h2, h3, .of h4⟩
theorem Fq.mono (F : Fq P w K mg base CX j x ps sp) (h : j ≤ k) : Fq P w K mg base CX k x ps sp := by
  obtain ⟨f, fd, h1, h2, h3, h4⟩ := F.ex
  exact ⟨f, fd, h1, h2, h3, h4.mono h⟩
/-- the body walked -/
theorem okGX {params : Arguments} {body : List Stmt} {sc : Scope} {dvs : List V} {kws : List (Str × V)} {N : List Str} (F : FunD K x qual params body sc dvs kws f fd) (S : FnScope N ps sc) (len : ∀ vs H Q E, sp vs H Q E → vs.length = ps.length)
    (hbody : ∀ (cdv : Value) (A : Around) (outer : List Env) (s : Shared) (H : Hp) (vs : List V) (Q : VK) (E : XK), A.guards = some [] → Room k (A.deeper (envOfC qual sc s.heap.objs.size f cdv)) → sp vs H Q E →
      ∃ t σ, PSs (cxOf CX P w K mg base N qual sc f cdv A outer s H E) body t ∧ L2.start N vs = σ ∧ t { nx := fun _ H' => Q .non H', rt := Q } σ H) : FnG P w K mg base CX (k + 1) f fd ps sp := by
  obtain ⟨oc, od, dV, kV, doc, pm, an, cdv, ct, osl, rfl, lk, hcd, _, _⟩ := F.ex
  refine ⟨len, fun A up s H ar us vs Q E hr hG e0 hb rel hsp => ?_⟩
  have nK : K.In s.heap := e0.mod.kin.keeps fun b u z => (e0.bs b u z).1
  have noL : s.heap.NoLimit := e0.mod.nolimit.keeps fun b u z => (e0.bs b u z).1
  have kinds : ∀ q ∈ ps.zip us, sc.names.lookup q.1 = some .local ∨ (sc.names.lookup q.1 = some .cell ∧ ((cellsFrom (s.heap.objs.size + 1) sc.names []).lookup q.1).isSome = true) := by
    rintro ⟨n, v⟩ hq
    exact (S.par n (List.of_mem_zip hq).1).elim .inl fun z => .inr ⟨z, PySem.W.cellsFrom_some _ _ _ (.inl z)⟩
  refine codeAny_call_function hr.depth (nK _ _ lk) rfl S.co S.gen rfl (PySem.W.codeRec_of nK hcd) (hb _ _ _ _ (wpAny_newFunctionEnv_cells S.kind kinds fun env he s1 nw => ?_))
  subst he
  obtain ⟨t, σ, ht, rfl, hq⟩ := hbody cdv A up s H vs Q E hG (hr.deeper _) hsp
  have I0 : Inv (cxOf CX P w K mg base N qual sc f cdv A up s H E) [] (L2.start N vs) H s1 := inv_start S hr.hd e0 (len _ _ _ _ hsp) rel nw
  refine ⟨noL.keeps nw.toInCall.keep, codeAny_func (wpAny_mono (ht.run [] s1 _ H _ I0 hq) (fun fl s' z => ?_) fun _ _ z => z)⟩
  cases fl with
  | ret u =>
    obtain ⟨v, σ', H', J, rv, q⟩ := z
    exact ⟨v, H', J.os, J.bare, J.base, J.hok, rv, q⟩
  | next =>
    obtain ⟨σ', H', J, q⟩ := z
    exact ⟨.non, H', J.os, J.bare, J.base, J.hok, rfl, q⟩
  | brk =>
    obtain ⟨_, _, _, q⟩ := z
    exact q.elim
  | cont =>
    obtain ⟨_, _, _, q⟩ := z
    exact q.elim
theorem okG {st : Stmt} {dvs : List V} {kws : List (Str × V)} {N : List Str} (F : FunD K x qual (defArgs st) (defBody st) (defScope st) dvs kws f fd) (S : FnScope N ps (defScope st)) (len : ∀ vs H Q E, sp vs H Q E → vs.length = ps.length)
    (hbody : ∀ (cdv : Value) (A : Around) (outer : List Env) (s : Shared) (H : Hp) (vs : List V) (Q : VK) (E : XK), A.guards = some [] → Room k (A.deeper (envOfC qual (defScope st) s.heap.objs.size f cdv)) → sp vs H Q E →
      ∃ t σ, PSs (cxOf CX0 P w K mg base N qual (defScope st) f cdv A outer s H E).nox (defBody st) t ∧ L2.start N vs = σ ∧ t { nx := fun _ H' => Q .non H', rt := Q } σ H) : FnG P w K mg base CX0 (k + 1) f fd ps sp := by
  refine okGX F S len fun cdv A outer s H vs Q E hG hr h => ?_
  obtain ⟨t, σ, h1, h2, h3⟩ := hbody cdv A outer s H vs Q E hG hr h
  exact ⟨t, σ, h1.nox, h2, h3⟩
theorem mkFq {st : Stmt} {kws : List (Str × V)} (F : FunD K x qual (defArgs st) (defBody st) (defScope st) [] kws f fd) (gm : mg x = some (.ref f))
    (h : ∀ (kV doc pm : Value) (an : Option Addr) (cdv ct : Value) (us : List Value), us.length = ps.length → bindArgs (PySem.W.fnOf x qual (defArgs st) (defBody st) (defScope st) .none kV doc pm an cdv ct) ⟨us, []⟩ = pure (ps.zip us))
    (G : FnG P w K mg base CX k f fd ps sp) : Fq P w K mg base CX k x ps sp := ⟨f, fd, gm, F.kp, F.bindsN h, G⟩
end
/-! ### calls -/
section
variable {X : Cx} {CX : CXT} {k j n : Nat} {f : Addr} {fd : FuncData} {ps ks : List Str} {gV : List V → List V → List V} {sp : Sp} {E : XK} {W : WX} {x : Str} {p pos : Pos} {e : Expr} {es : List Expr} {kws : List Keyword} {t tk : TA}
theorem runG {pins : List (Addr × Obj)} {σ : L2.St} {H : Hp} {s : Shared} {Q : VK} {vs : List V} {us : List Value} {ar : Args} (F : FnG X.prog X.w X.K X.mg X.base CX k f fd ps sp) (hG : X.A.guards = some []) (hr : Room j X.A) (hk : k ≤ j)
    (I : Inv X pins σ H s) (hb : BindsTo s fd ar (ps.zip us)) (rel : Vals vs us) (hx : ∀ er s', CX X.stack H s E er s' → X.xe er s') (h : sp vs H Q E) : codeAny (model X.prog X.w) X.A (.call (.ref f) ar) (fun r s' => match r with | .ok (.ret u) => EP X pins σ Q u s' | .ok _ => False | .error er => X.xe er s') s :=
  codeAny_mono (F.go X.A X.stack s H ar us vs Q E (hr.mono hk) hG I.env0 hb rel h) fun r s' z => by
    cases r with
    | error er => exact hx er s' z
    | ok fl =>
      cases fl with
      | ret u => exact I.after z
      | next => exact z.elim
      | brk => exact z.elim
      | cont => exact z.elim
theorem callG {pins : List (Addr × Obj)} {σ : L2.St} {H : Hp} {s : Shared} {Q : VK} {vs : List V} {us : List Value} {ar : Args} (F : FnG X.prog X.w X.K X.mg X.base CX k f fd ps sp) (hG : X.A.guards = some []) (hr : Room j X.A) (hk : k ≤ j)
    (I : Inv X pins σ H s) (hb : BindsTo s fd ar (ps.zip us)) (rel : Vals vs us) (hx : ∀ er s', CX X.stack H s E er s' → X.xe er s') (h : sp vs H Q E) : wpAny (model X.prog X.w) X.A (PySem.call (.ref f) ar.pos ar.kw) (EP X pins σ Q) X.xe s := by
  refine wpAny_call (codeAny_mono (runG F hG hr hk I hb rel hx h) fun r s' z => ?_)
  rcases r with er | (u | _ | _ | _) <;> exact z
theorem pe_fq (hG : X.A.guards = some []) (F : Fq X.prog X.w X.K X.mg X.base CX k x ps sp) (hr : Room j X.A) (hk : k ≤ j) (hg : Gl X x) (hx : Passes CX X E) (ha : PA X (e :: es) t) (hdb : (x == ("__debug__" : Str)) = false := by decide)
    (he : starEach (e :: es) X.env = (false, eval e X.env) :: starEach es X.env := by rfl) (hpl : (backTo pos (starEach es X.env)).any (·.1) = false := by rfl) : PE X (.Call (.Name x p) (e :: es) [] pos) (tCall sp [] E t) := by
  obtain ⟨f, fd, hm, hkp, hb, F⟩ := F.ex
  refine ⟨fun pins s σ H Q I h => wpAny_Call_Name_kw (ld_glob I hg hm ?_ hdb)⟩
  refine PySem.W.callWith_K (h₀ := X.base) I.ok.mod.kin hkp (thn (ha.run pos pins s σ H _ I h) fun us s1 ⟨vs, H1, I1, r, q⟩ => ⟨I1.kIn, ?_⟩) he hpl
  replace q : sp (vs ++ []) H1 Q E := q
  rw [List.append_nil] at q
  have bd := hb s1 us I1.kIn (by rw [List.append_nil]; exact r.length.symm.trans (F.many _ _ _ _ q))
  rw [List.append_nil] at bd
  exact callG (ar := ⟨us, []⟩) F hG hr hk I1 bd r (fun er s' z => hx pins σ H1 s1 er s' I1 z) q
theorem pe_fq0 (hG : X.A.guards = some []) (F : Fq X.prog X.w X.K X.mg X.base CX k x ps sp) (hr : Room j X.A) (hk : k ≤ j) (hg : Gl X x) (hx : Passes CX X E) (hdb : (x == ("__debug__" : Str)) = false := by decide) : PE X (.Call (.Name x p) [] [] pos) (tCall sp [] E tNil) := by
  obtain ⟨f, fd, hm, hkp, hb, F⟩ := F.ex
  refine ⟨fun pins s σ H Q I h => wpAny_Call_Name_kw (ld_glob I hg hm ?_ hdb)⟩
  have bd := hb s [] I.kIn (by have := F.many _ _ _ _ h; simpa using this)
  exact PySem.W.callWith_K0 I.kIn hkp (callG (ar := ⟨[], []⟩) (vs := []) F hG hr hk I bd .nil (fun er s' z => hx pins σ H s er s' I z) h)
theorem pe_fqS (hG : X.A.guards = some []) (tks : Takes X W) (F : Fq X.prog X.w X.K X.mg X.base (L2.CX X.prog X.w) k x ps sp) (hr : Room j X.A) (hk : k ≤ j) (hg : Gl X x) (ha : PA X (e :: es) t) (hdb : (x == ("__debug__" : Str)) = false := by decide)
    (he : starEach (e :: es) X.env = (false, eval e X.env) :: starEach es X.env := by rfl) (hpl : (backTo pos (starEach es X.env)).any (·.1) = false := by rfl) : PE X (.Call (.Name x p) (e :: es) [] pos) (tCallS sp (WE W) t) := by
  obtain ⟨f, fd, hm, hkp, hb, F⟩ := F.ex
  refine ⟨fun pins s σ H Q I h => wpAny_Call_Name_kw (ld_glob I hg hm ?_ hdb)⟩
  refine PySem.W.callWith_K (h₀ := X.base) I.ok.mod.kin hkp (thn (ha.run pos pins s σ H _ I h) fun us s1 ⟨vs, H1, I1, r, q⟩ => ⟨I1.kIn, ?_⟩) he hpl
  have bd := hb s1 us I1.kIn (by rw [List.append_nil]; exact r.length.symm.trans (F.many _ _ _ _ q))
  rw [List.append_nil] at bd
  exact callG (ar := ⟨us, []⟩) F hG hr hk I1 bd r (fun er s' z => passAt tks σ pins H1 s1 er s' I1 z) q
section
variable (hG : X.A.guards = some []) (hr : Room j X.A) (hk : k ≤ j) (hg : Gl X x) (hkw : PK X kws tk)
include hG hr hk hg hkw
theorem pe_fqN (F : FqN X.prog X.w X.K X.mg X.base CX k x n ks gV sp) (hx : Passes CX X E) (ha : PA X (e :: es) t) (hall : (backToKw pos (keywordEach kws X.env)).all (·.1.isSome) = true := by rfl) (hks : (backToKw pos (keywordEach kws X.env)).filterMap (·.1) = ks := by rfl)
    (hdb : (x == ("__debug__" : Str)) = false := by decide) (he : starEach (e :: es) X.env = (false, eval e X.env) :: starEach es X.env := by rfl)
    (hpl : ((backTo pos (starEach (e :: es) X.env)).any (·.1) || (backToKw pos (keywordEach kws X.env)).any (·.1.isNone)) = false := by rfl) :
    PE X (.Call (.Name x p) (e :: es) kws pos) (tCallN n ks.length sp gV E t tk) := by
  obtain ⟨f, fd, ps, g, hm, hkp, hb, F⟩ := F.ex
  refine ⟨fun pins s σ H Q I h => wpAny_Call_Name_kw (ld_glob I hg hm ?_ hdb)⟩
  refine PySem.W.callWith_KW (h₀ := X.base) I.ok.mod.kin hkp hall (thn (ha.run pos pins s σ H _ I h) fun us s1 ⟨vs, H1, I1, r, q⟩ => ?_) hpl he
  refine thn (hkw.run pos pins s1 σ H1 _ I1 q) fun ws s2 ⟨zs, H2, I2, rz, l1, l2, q2⟩ => ⟨I2.kIn, ?_⟩
  rw [hks]
  exact callG (ar := ⟨us, ks.zip ws⟩) F hG hr hk I2 (hb.to s2 us ws I2.kIn (r.length.symm.trans l1) (rz.length.symm.trans l2)) (hb.rel r rz) (fun er s' z => hx pins σ H2 s2 er s' I2 z) q2
theorem pe_fqN0 (F : FqN X.prog X.w X.K X.mg X.base CX k x n ks gV sp) (hx : Passes CX X E) (hall : (backToKw pos (keywordEach kws X.env)).all (·.1.isSome) = true := by rfl) (hks : (backToKw pos (keywordEach kws X.env)).filterMap (·.1) = ks := by rfl)
    (hdb : (x == ("__debug__" : Str)) = false := by decide)
    (hpl : ((backTo pos (starEach [] X.env)).any (·.1) || (backToKw pos (keywordEach kws X.env)).any (·.1.isNone)) = false := by rfl) :
    PE X (.Call (.Name x p) [] kws pos) (tCallN n ks.length sp gV E tNil tk) := by
  obtain ⟨f, fd, ps, g, hm, hkp, hb, F⟩ := F.ex
  refine ⟨fun pins s σ H Q I h => wpAny_Call_Name_kw (ld_glob I hg hm ?_ hdb)⟩
  refine PySem.W.callWith_KW0 (h₀ := X.base) I.ok.mod.kin hkp hall ?_ hpl
  refine thn (hkw.run pos pins s σ H _ I h) fun ws s2 ⟨zs, H2, I2, rz, l1, l2, q2⟩ => ⟨I2.kIn, ?_⟩
  rw [hks]
  exact callG (ar := ⟨[], ks.zip ws⟩) F hG hr hk I2 (hb.to s2 [] ws I2.kIn l1 (rz.length.symm.trans l2)) (hb.rel .nil rz) (fun er s' z => hx pins σ H2 s2 er s' I2 z) q2
theorem pe_fqNS (F : FqN X.prog X.w X.K X.mg X.base (L2.CX X.prog X.w) k x n ks gV sp) (tks : Takes X W) (ha : PA X (e :: es) t) (hall : (backToKw pos (keywordEach kws X.env)).all (·.1.isSome) = true := by rfl) (hks : (backToKw pos (keywordEach kws X.env)).filterMap (·.1) = ks := by rfl)
    (hdb : (x == ("__debug__" : Str)) = false := by decide) (he : starEach (e :: es) X.env = (false, eval e X.env) :: starEach es X.env := by rfl)
    (hpl : ((backTo pos (starEach (e :: es) X.env)).any (·.1) || (backToKw pos (keywordEach kws X.env)).any (·.1.isNone)) = false := by rfl) :
    PE X (.Call (.Name x p) (e :: es) kws pos) (tCallNS n ks.length sp gV W t tk) := by
  obtain ⟨f, fd, ps, g, hm, hkp, hb, F⟩ := F.ex
  refine ⟨fun pins s σ H Q I h => wpAny_Call_Name_kw (ld_glob I hg hm ?_ hdb)⟩
  refine PySem.W.callWith_KW (h₀ := X.base) I.ok.mod.kin hkp hall (thn (ha.run pos pins s σ H _ I h) fun us s1 ⟨vs, H1, I1, r, q⟩ => ?_) hpl he
  refine thn (hkw.run pos pins s1 σ H1 _ I1 q) fun ws s2 ⟨zs, H2, I2, rz, l1, l2, q2⟩ => ⟨I2.kIn, ?_⟩
  rw [hks]
  exact callG (ar := ⟨us, ks.zip ws⟩) F hG hr hk I2 (hb.to s2 us ws I2.kIn (r.length.symm.trans l1) (rz.length.symm.trans l2)) (hb.rel r rz) (fun er s' z => passAt tks σ pins H2 s2 er s' I2 z) q2
end
end
end Fw
namespace Fw
open PySem PySem.Spec PyProof.Rows L2
/-! ### the law called, no repr being under way -/
section
variable {P : Program} {w : World} {K : PySem.W.Frag} {mg mb : Str → Option Value} {k : Nat} {fa a : Addr} {fd : FuncData} {x : Str} {sp : Sp} {s : Shared} {vs : List Value} {ns : List Int}
abbrev Fine (s : Shared) (r : Result) (s' : Shared) : Prop := r = .ok (.ret (.bool true)) ∧ OldK s.heap s'.heap ∧ s'.os = s.os ∧ AllBare s'.gens
/-- over an abstract heap that tracks the script at most -/
theorem law_over {H : Hp} (KX : K.In s.heap) (g1 : s.heap.Ns mainGlobals mg) (g2 : s.heap.Ns builtinsNs mb) (g3 : ∀ x : Str, x ≠ "__name__" → mb x = bootBuiltins x) (g4 : s.heap.NoLimit) (g5 : s.gens = #[])
    (hr : Room k callerA) (F : ∀ base : Heap, K.In base → base.Ns mainGlobals mg → FnG P w K mg base CX0 k fa fd [x] sp) (bd : ∀ (s : Shared) (u : Value), BindsTo s fd ⟨[u], []⟩ [(x, u)])
    (hO : Only H) (hok : HOk P w H s.heap) (dicts : ∀ b o es ep, s.heap.get? b = some o → o.data = .dict es ep → H b = none) (own : ∀ b o, K.lookup b = some o → H b = none)
    (hsp : sp [.ref a] H (fun v _ => v = .bl true) fun _ _ _ => False) : codeAny (model P w) callerA (.call (.ref fa) ⟨[.ref a], []⟩) (Fine s) s := by
  have nsB : ∀ {b : Addr} {m : Str → Option Value}, s.heap.Ns b m → (hidT s.heap H).Ns b m := by
    rintro b m ⟨o, es, ep, h1, h2, h3⟩
    exact ⟨o, es, ep, hidT_get h1 (dicts b o es ep h1 h2), h2, h3⟩
  have kB : K.In (hidT s.heap H) := fun b o z => hidT_get (KX b o z) (own b o z)
  obtain ⟨mc, l1, l2⟩ := g4
  have e0 : Env0 P w K mg (hidT s.heap H) callerA [] s H := ⟨rfl, ⟨kB, nsB g1, ⟨mb, nsB g2, g3⟩, ⟨mc, nsB l1, l2⟩⟩, fun _ _ z => of_hidT z, Nat.le_of_eq (hidT_size _ _), trivial, (fun _ z => nomatch z), hok, .of_eq g5⟩
  refine codeAny_mono ((F _ kB (nsB g1)).go callerA [] s H ⟨[.ref a], []⟩ [.ref a] [.ref a] _ _ hr rfl e0 (bd s _) (.cons rfl .nil) hsp) fun r s' z => ?_
  cases r with
  | error er => exact z.elim
  | ok fl =>
    cases fl with
    | next => exact z.elim
    | brk => exact z.elim
    | cont => exact z.elim
    | ret u =>
      obtain ⟨v, H', os, bare, un, hok', rv, rfl⟩ := z
      obtain rfl : u = Value.bool true := rv
      refine ⟨rfl, OldK.of_keep fun b o e => ?_, os, bare⟩
      rcases hO b with n | ⟨ob, xs, n⟩
      · exact un.keep b o e n (fun z => nomatch z) (fun z => nomatch z)
      · have q1 := (hok b _ n).1
        have q2 := (hok' b _ (un.frzs b ob _ n)).1
        rw [e] at q1
        cases q1
        exact q2
theorem law_callG (KX : K.In s.heap) (g1 : s.heap.Ns mainGlobals mg) (g2 : s.heap.Ns builtinsNs mb) (g3 : ∀ x : Str, x ≠ "__name__" → mb x = bootBuiltins x) (g4 : s.heap.NoLimit) (g5 : s.gens = #[])
    (ha : s.heap.get? a = some { cls := .type "list", data := .seq vs.toArray }) (hi : IntsAre vs ns) (hl : ns.length ≤ sizeLine) (hr : Room k callerA)
    (F : ∀ base : Heap, K.In base → base.Ns mainGlobals mg → FnG P w K mg base CX0 k fa fd [x] sp) (bd : ∀ (s : Shared) (u : Value), BindsTo s fd ⟨[u], []⟩ [(x, u)])
    (hsp : ∀ H : Hp, Only H → SqL K H a (ns.map V.int) → sp [.ref a] H (fun v _ => v = .bl true) fun _ _ _ => False) : codeAny (model P w) callerA (.call (.ref fa) ⟨[.ref a], []⟩) (Fine s) s := by
  have rv := vals_ints hi
  cases hk : K.lookup a with
  | some o =>
    have z := (KX a o hk).symm.trans ha
    cases z
    have hO : Only (fun _ => none) := fun _ => .inl rfl
    refine law_over (H := fun _ => none) KX g1 g2 g3 g4 g5 hr F bd hO (fun b u z => nomatch z) (fun _ _ _ _ _ _ => rfl) (fun _ _ _ => rfl) (hsp _ hO (.inr ⟨_, vs.toArray, _, hk, rfl, rfl, rfl, ?_, by simpa using rv⟩))
    rw [List.size_toArray, hi.length]
    exact hl
  | none =>
    let u0 : HO := .frz { cls := .type "list", data := .seq vs.toArray } (.lst (ns.map V.int))
    have hO : Only (fun b => if b = a then some u0 else none) := fun b => by
      by_cases q : b = a
      · exact .inr ⟨_, _, if_pos q⟩
      · exact .inl (if_neg q)
    refine law_over (H := fun b => if b = a then some u0 else none) KX g1 g2 g3 g4 g5 hr F bd hO (fun b u z => ?_) (fun b o es ep e d => ?_) (fun b o e => ?_) (hsp _ hO (.inl (.inr ⟨_, if_pos rfl⟩)))
    · by_cases q : b = a
      · subst q
        cases (if_pos rfl).symm.trans z
        exact ⟨ha, by rw [List.length_map]; exact hl, vs, _, rv, ha⟩
      · cases (if_neg q).symm.trans z
    · by_cases q : b = a
      · subst q
        rw [ha] at e
        cases e
        exact nomatch (show Data.seq vs.toArray _ = Data.dict es ep from d)
      · exact if_neg q
    · by_cases q : b = a
      · rw [q, hk] at e
        cases e
      · exact if_neg q
end
theorem walk_ofG {l : PySem.W.OpenLaw} {n k : Nat} {q : Program} {loose : List Str} {XP : (Str → Option Value) → Heap → Prop} {YP : World → Heap → Prop} {d : DefRec} {x : Str} (h1 : l.most = some n) (h2 : n ≤ sizeLine) (h3 : d.params.defaults = []) (hr : Room k callerA)
    (F : ∀ (w : World) (mg : Str → Option Value) (fa : Addr) (h : Heap), YP w h → h.Ns mainGlobals mg → mg d.name = some (.ref fa) → ∃ (K : PySem.W.Frag) (fd : FuncData) (sp : Sp), K.In h ∧ (∀ (s : Shared) (u : Value), BindsTo s fd ⟨[u], []⟩ [(x, u)]) ∧
        (∀ (H : Hp) (a : Addr) (ns : List Int), ns.length ≤ n → Only H → SqL K H a (ns.map V.int) → sp [.ref a] H (fun v _ => v = .bl true) fun _ _ _ => False) ∧ ∀ base : Heap, K.In base → base.Ns mainGlobals mg → FnG l.prog w K mg base CX0 k fa fd [x] sp) :
    PySem.W.WalkO q loose XP YP l.row.toRowW d [] (fun f vs => PySem.call f vs) := by
  refine Att.attach_call h1 h3 fun w s0 s1 mg mb fa o pm cd doc a vs ns G Y ho hd hcd hmg hobj hints hlen hg => ?_
  obtain ⟨K, fd, sp, KX, hb, hsp, hF⟩ := F w mg fa _ Y G.T.g hmg
  exact law_callG KX G.T.g G.T.b G.T.builtins G.T.nolimit hg hobj hints (Nat.le_trans hlen h2) hr hF hb fun H hO hS => hsp H a ns hlen hO hS
/-! ### repr of data -/
mutual
theorem Dp.noDict {K : PySem.W.Frag} {H : Hp} : ∀ {d : PyData} {v : V}, Dp K H v d → d.hasDict = false
  | _, _, .non => by simp only [PyData.hasDict]
  | _, _, .bl _ => by simp only [PyData.hasDict]
  | _, _, .int _ => by simp only [PyData.hasDict]
  | _, _, .str _ => by simp only [PyData.hasDict]
  | _, _, .lst _ r => by simp only [PyData.hasDict]; exact DpAll.noDict r
  | _, _, .tup _ r => by simp only [PyData.hasDict]; exact DpAll.noDict r
theorem DpAll.noDict {K : PySem.W.Frag} {H : Hp} : ∀ {ds : List PyData} {vs : List V}, DpAll K H vs ds → PyData.hasDictAll ds = false
  | _, _, .nil => by simp only [PyData.hasDictAll]
  | _, _, .cons a b => by simp only [PyData.hasDictAll, Dp.noDict a, DpAll.noDict b, Bool.or_self]
end
def rRepr (K : PySem.W.Frag) : List V → Hp → VK → Prop := fun xs H Q => ∃ x d, xs = [x] ∧ Dp K H x d ∧ d.showable = true ∧ d.depth ≤ 150 ∧ d.shown.length ≤ sizeLine ∧ Q (.str d.shown) H
theorem call_reprU {X : Cx} {K : PySem.W.Frag} {k : Nat} (hG : X.A.guards = some []) (hr : Room k X.A) (hK : X.K = K := by rfl) : CallR X (.builtin "repr") (rRepr K) := by
  subst hK
  intro pins s σ H xs us Q I r h
  obtain ⟨x, d, rfl, hd, hs, hdp, hz, q⟩ := h
  obtain ⟨u, rfl, ru⟩ := vals1 r
  obtain ⟨as, rd⟩ := Dp.reads I d x u hd ru
  have nd := Dp.noDict hd
  have un := hr.un
  cases hd with
  | non => cases (show u = Value.none from ru); exact PySem.P.repr_of_none ⟨.str _, H, I.tok _, ⟨_, rfl⟩, by simpa only [PyData.shown] using q⟩
  | bl b => cases (show u = Value.bool b from ru); exact PySem.P.repr_of_bool ⟨.str _, H, I.tok _, ⟨_, rfl⟩, by simpa only [PyData.shown] using q⟩
  | int i =>
    obtain ⟨t, rfl⟩ := (show ∃ t, u = Value.int i t from ru)
    exact PySem.P.repr_of_int (by simpa [PyData.showable] using hs) ⟨.str _, H, I.tok _, ⟨_, rfl⟩, by simpa only [PyData.shown] using q⟩
  | str z =>
    obtain ⟨t, rfl⟩ := (show ∃ t, u = Value.str z t from ru)
    exact PySem.P.repr_of_str ⟨.str _, H, I.tok _, ⟨_, rfl⟩, by simpa only [PyData.shown] using q⟩ (by simpa only [PyData.shown] using hz)
  | @lst a xs ds _ _ =>
    cases (show u = Value.ref a from ru)
    exact repr_of_reads' rd hs (fun z => by rw [nd] at z; cases z) hG (by omega) (fun _ _ z => z) (fun h' t tk kp => ⟨.str _, H, I.kept (t' := tk) kp, ⟨_, rfl⟩, q⟩) hz
  | @tup a xs ds _ _ =>
    cases (show u = Value.ref a from ru)
    exact repr_of_reads' rd hs (fun z => by rw [nd] at z; cases z) hG (by omega) (fun _ _ z => z) (fun h' t tk kp => ⟨.str _, H, I.kept (t' := tk) kp, ⟨_, rfl⟩, q⟩) hz
end Fw
namespace Fw
open PySem PySem.Spec PyProof.Rows L2
/-! ### how long repr of data is -/
theorem textFrom_most : ∀ (ts : List Str) (k : Nat) (acc : Str), (textFrom k acc ts).length ≤ acc.length + piled ts
  | [], k, acc => by rw [textFrom, piled_nil]; omega
  | t :: r, k, acc => by
    have h := textFrom_most r (k + 1) (acc ++ (if k > 0 then ", " else "" : String) ++ t)
    have e : (acc ++ (if k > 0 then ", " else "" : String) ++ t).length ≤ acc.length + 2 + t.length := by
      rw [strLen_append, strLen_append]
      have : (Str.ofString (if k > 0 then ", " else "")).length ≤ 2 := by split <;> decide
      omega
    rw [textFrom, piled_cons]
    omega
theorem listText_most (ts : List Str) : (listText ts).length ≤ piled ts + 2 := by
  have h := textFrom_most ts 0 "["
  unfold listText
  rw [strLen_append]
  have e1 : (Str.ofString "[").length = 1 := by decide
  have e2 : (Str.ofString "]").length = 1 := by decide
  omega
theorem tupleText_most (ts : List Str) : (tupleText ts).length ≤ piled ts + 3 := by
  unfold tupleText
  rw [strLen_append, strLen_append]
  have e1 : (Str.ofString "(").length = 1 := by decide
  have e2 : (Str.ofString (if (ts.length == 1) = true then ",)" else ")")).length ≤ 2 := by split <;> decide
  have e3 : (Str.join ", " ts).length ≤ piled ts := by
    cases ts with
    | nil => decide
    | cons t r =>
      have := join_length_add (t :: r) (by simp)
      omega
  omega
mutual
/-- numbers of at most 60 figures, texts of plain signs -/
def plain : PyData → Bool
  | .none => true
  | .bool _ => true
  | .int i => decide (i.natAbs < 10 ^ 60)
  | .str x => x.cps.toList.all fun c => decide (c < 128)
  | .list xs => plains xs
  | .tuple xs => plains xs
  | .dict _ => false
def plains : List PyData → Bool
  | [] => true
  | x :: xs => plain x && plains xs
end
mutual
/-- as many signs as repr of d has at most -/
def bulk : PyData → Nat
  | .none => 6
  | .bool _ => 6
  | .int _ => 62
  | .str x => 10 * x.length + 2
  | .list xs => 3 + bulks xs
  | .tuple xs => 3 + bulks xs
  | .dict _ => 0
def bulks : List PyData → Nat
  | [] => 0
  | x :: xs => bulk x + 2 + bulks xs
end
theorem log_of {n : Nat} (h : n < 10 ^ 60) : n.log2 < 1920 := by
  by_cases z : n = 0
  · subst z; decide
  · refine (Nat.log2_lt z).mpr (Nat.lt_of_lt_of_le h ?_)
    exact Nat.le_of_ble_eq_true (by decide +kernel)
mutual
theorem plain_shown : ∀ {d : PyData}, plain d = true → d.showable = true ∧ d.shown.length ≤ bulk d
  | .none, _ => ⟨by simp only [PyData.showable], by simp only [PyData.shown, bulk]; decide⟩
  | .bool b, _ => ⟨by simp only [PyData.showable], by simp only [PyData.shown, bulk]; cases b <;> decide⟩
  | .int i, h => by
    have h1 : i.natAbs < 10 ^ 60 := by simpa [plain] using h
    refine ⟨by simpa [PyData.showable] using log_of h1, ?_⟩
    have := int_text_length_le10 (k := 60) (by decide) h1
    simp only [PyData.shown, bulk]
    show (Str.ofString (toString i)).length ≤ _
    rw [PySem.ofString_length]
    omega
  | .str x, h => by
    refine ⟨by simp only [PyData.showable], ?_⟩
    simp only [PyData.shown, bulk]
    refine StrLaws.reprText_len x fun c hc => ?_
    have h1 := List.all_eq_true.mp (by simpa only [plain] using h) c hc
    have h2 : c < 128 := by simpa using h1
    exact Nat.lt_of_lt_of_le h2 (by decide)
  | .list xs, h => by
    obtain ⟨h1, h2⟩ := plains_shown (ds := xs) (by simpa only [plain] using h)
    refine ⟨by simpa only [PyData.showable] using h1, ?_⟩
    simp only [PyData.shown, bulk]
    have := listText_most (PyData.shownAll xs)
    omega
  | .tuple xs, h => by
    obtain ⟨h1, h2⟩ := plains_shown (ds := xs) (by simpa only [plain] using h)
    refine ⟨by simpa only [PyData.showable] using h1, ?_⟩
    simp only [PyData.shown, bulk]
    have := tupleText_most (PyData.shownAll xs)
    omega
  | .dict _, h => by simp [plain] at h
theorem plains_shown : ∀ {ds : List PyData}, plains ds = true → PyData.showableAll ds = true ∧ piled (PyData.shownAll ds) ≤ bulks ds
  | [], _ => ⟨by simp only [PyData.showableAll], by simp only [PyData.shownAll, piled_nil]; omega⟩
  | d :: ds, h => by
    have h' : plain d = true ∧ plains ds = true := by simpa [plains] using h
    obtain ⟨a1, a2⟩ := plain_shown h'.1
    obtain ⟨b1, b2⟩ := plains_shown h'.2
    refine ⟨by simp only [PyData.showableAll, a1, b1, Bool.and_self], ?_⟩
    simp only [PyData.shownAll, piled_cons, bulks]
    omega
end
theorem plains_append : ∀ (ds es : List PyData), plains (ds ++ es) = (plains ds && plains es)
  | [], es => by simp [plains]
  | d :: ds, es => by simp [plains, plains_append ds es, Bool.and_assoc]
theorem bulks_append : ∀ (ds es : List PyData), bulks (ds ++ es) = bulks ds + bulks es
  | [], es => by simp [bulks]
  | d :: ds, es => by simp [bulks, bulks_append ds es]; omega
theorem depthAll_append : ∀ (ds es : List PyData), PyData.depthAll (ds ++ es) = max (PyData.depthAll ds) (PyData.depthAll es)
  | [], es => by simp [PyData.depthAll]
  | d :: ds, es => by simp [PyData.depthAll, depthAll_append ds es, Nat.max_assoc]
section
variable {K : PySem.W.Frag} {H : Hp} {Q : VK} {v : V} {d : PyData}
theorem x_repr (h : Dd K H v d) (hp : plain d = true) (hd : d.depth ≤ 150) (hb : bulk d ≤ 10000000) (q : Q (.str d.shown) H) : rRepr K [v] H Q :=
  ⟨v, d, rfl, h.dp, (plain_shown hp).1, hd, Nat.le_trans (plain_shown hp).2 (Nat.le_trans hb (by rw [sizeLine_eq]; decide)), q⟩
theorem x_reprB {b : Bool} (q : Q (.str (if b then "True" else "False")) H) : rRepr K [.bl b] H Q :=
  x_repr (.bl b) rfl (by simp [PyData.depth]) (by simp [bulk]) (by simpa only [PyData.shown] using q)
theorem x_reprI {i : Int} (h : i.natAbs < 10 ^ 60) (q : Q (.str (toString i : String)) H) : rRepr K [.int i] H Q :=
  x_repr (.int i) (by simpa [plain] using h) (by simp [PyData.depth]) (by simp [bulk]) (by simpa only [PyData.shown] using q)
/-! ### the type of data -/
def tyN : PyData → String
  | .none => "NoneType"
  | .bool _ => "bool"
  | .int _ => "int"
  | .str _ => "str"
  | .list _ => "list"
  | .tuple _ => "tuple"
  | .dict _ => "dict"
theorem TyX.sqT {a : Addr} {xs : List V} (h : SqT K H a xs) : TyX K H (.ref a) (.type "tuple") := by
  rcases h with (h | ⟨o, h⟩) | ⟨o, its, n, h1, h2, _⟩
  · exact .base (.tup h)
  · exact .fTuple h
  · exact .kTuple h1 h2
theorem Dd.ty (h : Dd K H v d) : TyX K H v (.type (tyN d)) := by
  cases h with
  | non => exact .base .non
  | bl b => exact .base (.bl b)
  | int i => exact .base (.int i)
  | str z => exact .base (.str z)
  | lst h _ => exact .base (.lst h)
  | tup h _ => exact TyX.sqT h
theorem x_isiD {n : String} {b : Bool} (h : Dd K H v d) (e : kitB (tyN d) n = some b) (q : Q (.bl b) H) : uIsi K [v, .ty n] H Q := x_isi h.ty e q
theorem x_isiQ {n : String} {a : Addr} {xs : List V} {b : Bool} (h : SqT K H a xs) (e : kitB "tuple" n = some b) (q : Q (.bl b) H) : uIsi K [.ref a, .ty n] H Q := x_isi (TyX.sqT h) e q
theorem x_isiDT {t : Addr} {cs : List V} {us : List Value} {b : Bool} (h : Dd K H v d) (hT : H t = some (.tup cs)) (k : Paired ClsV cs us) (e : PySem.W.kitAny K (.type (tyN d)) us = some b) (q : Q (.bl b) H) : uIsi K [v, .ref t] H Q :=
  .inr ⟨v, t, cs, _, us, b, rfl, hT, k, h.ty, e, q⟩
end
/-! ### data that a call made -/
section
variable {K : PySem.W.Frag} {H0 H H' : Hp} {Ms M0 : List Addr} {L : List (Addr × HO)} {R : List Fa} {b : Addr} {o o' : HO} {v : V} {d : PyData} {vs : List V} {ds : List PyData}
theorem av_set {n : Nat} (hL : L[n]? = some (b, o)) : av (L.set n (b, o')) M0 = av L M0 := by
  have hm : (L.set n (b, o')).map (·.1) = L.map (·.1) := by
    rw [List.map_set]
    apply List.ext_getElem?
    intro i
    rw [List.getElem?_set]
    split
    · rename_i e
      subst e
      rw [List.getElem?_map, hL]
      split
      · rfl
      · rename_i h; exact absurd (by rw [List.length_map]; exact (List.getElem?_eq_some_iff.mp hL).1) h
    · rfl
  unfold av
  rw [hm]
theorem W.callD (w : W K H0 Ms M0 H L R) (n : Nat) (hL : L[n]? = some (b, o)) (e : Ex [b] H H') (h' : H' b = some o') (hd : Rp K (av L M0) H' v d) : W K H0 Ms M0 H' (L.set n (b, o')) (.rp v d :: R) :=
  (w.call n hL e h').add (by rw [av_set hL]; exact hd)
theorem W.more (w : W K H0 Ms M0 H L (.rp v d :: .al vs ds :: R)) : W K H0 Ms M0 H L (.al (vs ++ [v]) (ds ++ [d]) :: R) := by
  have h := (w.all 1 rfl).append (.cons (w.rp 0 rfl) .nil)
  exact ⟨w.ex, w.al, w.nd, w.cell, w.own, fun r hr => by
    rcases List.mem_cons.mp hr with rfl | hr
    · exact h
    · exact w.rep r (List.mem_cons_of_mem _ (List.mem_cons_of_mem _ hr))⟩
theorem w_tupleD {Q : VK} {p : Addr} (hw : W K H0 Ms M0 H L R) (h : Rp K (av L M0) H (.ref p) (.list ds)) (q : ∀ p H', H p = none → W K H0 Ms M0 H' L (.rp (.ref p) (.tuple ds) :: R) → Q (.ref p) H') : uTuple K [.ref p] H Q := by
  obtain ⟨xs, hx, rx⟩ := Rp.unL h
  exact ⟨p, xs, rfl, .inl ⟨SqL.of hx, fun l hl => q l _ hl (hw.newTup hl rx)⟩⟩
theorem w_listD {Q : VK} {p : Addr} (hw : W K H0 Ms M0 H L R) (h : Rp K (av L M0) H (.ref p) (.tuple ds)) (q : ∀ p H', H p = none → W K H0 Ms M0 H' L (.rp (.ref p) (.list ds) :: R) → Q (.ref p) H') : uList K [.ref p] H Q := by
  obtain ⟨xs, hx, rx⟩ := Rp.unT h
  exact ⟨p, xs, rfl, .inr hx, fun l hl => q l _ hl (hw.newLst hl rx)⟩
theorem x_ixDL {Q : VK} {p : Addr} {m : Int} (h : Rp K M0 H (.ref p) (.list ds)) (h0 : 0 ≤ m) (h1 : m < ds.length) (k : ∀ v d, ds[m.toNat]? = some d → Rp K M0 H v d → Q v H) : uIx K (.ref p) (.int m) H Q := by
  obtain ⟨xs, hx, hl, hw⟩ := Rp.walk h
  have hm : m.toNat < xs.length := by omega
  obtain ⟨d, h2, h3⟩ := hw m.toNat _ (List.getElem?_eq_getElem hm)
  exact x_ixL (SqL.of hx) (at_get h0 (by omega)) (k _ d h2 h3)
theorem x_ixDT {Q : VK} {p : Addr} {m : Int} (h : Rp K M0 H (.ref p) (.tuple ds)) (h0 : 0 ≤ m) (h1 : m < ds.length) (k : ∀ v d, ds[m.toNat]? = some d → Rp K M0 H v d → Q v H) : uIx K (.ref p) (.int m) H Q := by
  obtain ⟨xs, hx, hl, hw⟩ := Rp.walkT h
  have hm : m.toNat < xs.length := by omega
  obtain ⟨d, h2, h3⟩ := hw m.toNat _ (List.getElem?_eq_getElem hm)
  exact x_ixT hx (at_get h0 (by omega)) (k _ d h2 h3)
theorem W.addA (w : W K H0 Ms M0 H L R) (h : RpAll K (av L M0) H vs ds) : W K H0 Ms M0 H L (.al vs ds :: R) := w.addF (r := .al vs ds) h
end
/-! ### a written dict's keys -/
def keyOf (e : DictEntry) : Option Str := match e.key with
  | .str x _ => some x
  | _ => none
def dkeys (K : PySem.W.Frag) (a : Addr) : Option (List Str) := match K.lookup a with
  | some ⟨_, _, .dict es _, _⟩ => es.toList.mapM keyOf
  | _ => none
theorem find_keys (z : Str) : ∀ {es : List DictEntry} {ks : List Str}, es.mapM keyOf = some ks → (es.find? (·.key.isStr z)).isSome = decide (z ∈ ks) ∧ es.any (·.refKey) = false
  | [], ks, h => by
    have : ks = [] := by simpa using h.symm
    subst this
    simp
  | e :: es, ks, h => by
    simp only [List.mapM_cons] at h
    cases hk : keyOf e with
    | none => rw [hk] at h; cases h
    | some x =>
      cases hr : es.mapM keyOf with
      | none => rw [hk, hr] at h; cases h
      | some r =>
        rw [hk, hr] at h
        have e1 : ks = x :: r := (Option.some.inj h).symm
        subst e1
        obtain ⟨i1, i2⟩ := find_keys z hr
        obtain ⟨hash, key, val⟩ := e
        unfold keyOf at hk
        cases key with
        | str y t =>
          cases (Option.some.inj hk)
          refine ⟨?_, ?_⟩
          · rw [List.find?_cons]
            show (match (x == z) with | true => _ | false => _ : Option DictEntry).isSome = _
            by_cases q : x = z
            · subst q; simp
            · rw [show (x == z) = false from by simpa using q]
              show (es.find? (·.key.isStr z)).isSome = _
              rw [i1]
              have q' : ¬ z = x := fun w => q w.symm
              simp [q']
          · rw [List.any_cons, i2]; rfl
        | _ => cases hk
theorem ns_keys {K : PySem.W.Frag} {a : Addr} {ks : List Str} (h : dkeys K a = some ks) (z : Str) : ∃ r, PySem.W.nsIn K a z = some r ∧ r.isSome = decide (z ∈ ks) := by
  unfold dkeys at h
  unfold PySem.W.nsIn
  split at h
  · rename_i c d es n sl hl
    obtain ⟨h1, h2⟩ := find_keys z h
    rw [hl]
    simp only
    cases hf : es.toList.find? (·.key.isStr z) with
    | some e => exact ⟨_, rfl, by rw [← h1, hf]; rfl⟩
    | none =>
      simp only
      rw [h2]
      exact ⟨none, by simp, by rw [← h1, hf]; rfl⟩
  · cases h
def rInK (K : PySem.W.Frag) (w : World) : R2 := fun x y H Q => ∃ (d : Addr) (es : Array DictEntry) (n : Nat) (z : Str) (r : Option Value), KDict K w d es n ∧ x = .str z ∧ y = .ref d ∧ PySem.W.nsIn K d z = some r ∧ Q (.bl r.isSome) H
theorem op_inK {X : Cx} {K : PySem.W.Frag} {w : World} (hK : X.K = K := by rfl) (hw : X.w = w := by rfl) : OpR X (compareOp .In) (rInK K w) := by
  subst hK hw
  intro pins s σ H x y v u Q I rx ry h
  obtain ⟨d, es, n, z, r, D, h1, h2, h3, q⟩ := h
  exact op_in_kd D pins s σ H x y v u Q I rx ry ⟨z, r, h1, h2, h3, q⟩
theorem x_inK {K : PySem.W.Frag} {w : World} {H : Hp} {Q : VK} {d : Addr} {es : Array DictEntry} {n : Nat} {ks : List Str} {z : Str} (D : KDict K w d es n) (h : dkeys K d = some ks) (q : Q (.bl (decide (z ∈ ks))) H) : rInK K w (.str z) (.ref d) H Q := by
  obtain ⟨r, h1, h2⟩ := ns_keys h z
  exact ⟨d, es, n, z, r, D, rfl, rfl, h1, by rw [h2]; exact q⟩
theorem inV_strs (z : Str) : ∀ ks : List Str, inV (.str z) (ks.map V.str) = decide (z ∈ ks)
  | [] => by simp [inV]
  | k :: r => by
    have h := inV_strs z r
    unfold inV at h ⊢
    rw [List.map_cons, List.any_cons, h]
    show ((k == z) || _) = _
    by_cases q : k = z
    · subst q; simp
    · have q' : ¬ z = k := fun w => q w.symm
      simp [q, q']
/-! ### lists of texts compared -/
theorem u64 {k : Nat} {A : Around} (r : Room k A) : A.units + 64 < cLine := by have := r.un; omega
theorem x_eqL {K : PySem.W.Frag} {H : Hp} {Q : VK} {p q : Addr} {xs : List V} (h1 : SqL K H p xs) (h2 : SqL K H q xs) (hf : xs.all flatB = true) (k : Q (.bl true) H) : rEqV K (.ref p) (.ref q) H Q := by
  refine ⟨1, by decide, .inl ⟨p, q, xs, xs, rfl, rfl, h1, h2, ?_⟩, k⟩
  clear h1 h2
  induction xs with
  | nil => exact .nil
  | cons x r ih =>
    rw [List.all_cons] at hf
    obtain ⟨h1, h2⟩ := Bool.and_eq_true_iff.mp hf
    exact .cons (.inl ⟨rfl, h1⟩) (ih h2)
theorem lay_strs : ∀ ns : List Str, PyData.canLayAll0 (ns.map PyData.str) = ns.all fun x => PyData.canLay0 (.str x)
  | [] => by simp [PyData.canLayAll0]
  | n :: r => by simp [PyData.canLayAll0, lay_strs r]
theorem depth_strs : ∀ ns : List Str, PyData.depthAll (ns.map PyData.str) ≤ 1
  | [] => by simp [PyData.depthAll]
  | n :: r => by have := depth_strs r; simp [PyData.depthAll, PyData.depth]; omega
theorem eqv_strs : ∀ ns ms : List Str, PyData.eqvAll (ns.map PyData.str) (ms.map PyData.str) = decide (ns = ms)
  | [], [] => by simp [PyData.eqvAll]
  | [], _ :: _ => by simp [PyData.eqvAll]
  | _ :: _, [] => by simp [PyData.eqvAll]
  | n :: r, m :: t => by
    simp [PyData.eqvAll, PyData.eqv, eqv_strs r t]
    congr 1
end Fw
namespace Fw
open PySem PySem.Spec PyProof.Rows L2 L2H HotX
/-! ### try .. except X as n, its suite raising -/
section
variable {X : Cx} {Wout : WX} {i : Nat} {n : Str} {pos : Pos} {pins : List (Addr × Obj)} {A' : Around} {u : Value} {s' : Shared} {E2 E3 E4 : Value → Shared → Prop}
/-- an exception in the air at a suite's end: the name goes, then it flies on -/
theorem leave_as (hs : X.stack = X.env :: X.outer) (hf : X.env.frame = some X.env.locals) (hex : X.ex = []) (hN : X.N.Nodup) (hi : X.N[i]? = some n) (hln : X.env.kindOf n = some .local) (hA : A'.frames = some (X.env :: X.outer)) (tk : ∀ u s, XE X Wout u s → E2 u s)
    {a : Addr} {B : Heap} {sI : Shared} {σ : L2.St} {H : Hp} {cls : Value} {d : Option Addr} (J : Inv X pins σ H sI) (nb : ∀ b o, sI.heap.get? b = some o → b ∉ frs X.stack → B.get? b = some o) (up : sI.heap.UpToSlots s'.heap)
    (sky : Sky B (X.env :: X.outer) a (Zc cls d) X.env.locals s'.heap) (na : H a = none) (os : s'.os = sI.os) (ag : AllBare s'.gens) (w : Wout cls d (σ.set i none) H) :
    wpAny (model X.prog X.w) A' (noteFrame (.ref a) X.env) (fun _ s3 => wpAny (model X.prog X.w) A' (do bindName X.env n .none; unbindBehindTheSuite X.env n pos) (fun _ s4 => wpAny (model X.prog X.w) A' (passOn "try.except-as" (.ref a) X.env : Sem Flow) (fun _ _ => False) E2 s4) E3 s3) E4 s' := by
  have go : ∀ h1, HandSPX.HeldZ B (X.env :: X.outer) a (Zc cls d) X.env.locals h1 → s'.heap.UpToSlots h1 →
      wpAny (model X.prog X.w) A' (do bindName X.env n .none; unbindBehindTheSuite X.env n pos) (fun _ s4 => wpAny (model X.prog X.w) A' (passOn "try.except-as" (.ref a) X.env : Sem Flow) (fun _ _ => False) E2 s4) E3 { s' with heap := h1 } := by
    intro h1 held up1
    have J1 : Inv X pins σ H { s' with heap := h1 } := J.landed nb held.1 (up.trans up1) os ag
    obtain ⟨st1, newA, ff1, oe, vs, T, oT, ts, gA, zA, dA, tb, newT, neT, gT, dT, fl⟩ := id held
    have nT : H T = none := (J.inGround nb).gone newT
    have off : ∀ {b : Addr} {o : Obj} {fv : Array Value}, h1.get? b = some o → o.data = .fields fv → b ∉ frs (X.env :: X.outer) := by
      intro b o fv e dd m
      obtain ⟨_, o', e', hno⟩ := ff1.mem m
      cases e.symm.trans e'
      exact hno fv dd
    have offA := off gA dA
    have offT := off gT dT
    have isL : X.env.locals ∈ frs (X.env :: X.outer) := List.mem_filterMap.mpr ⟨_, List.mem_cons_self, hf⟩
    have isF : ∀ {b : Addr}, b ∈ X.fs → b ∈ frs (X.env :: X.outer) := by
      intro b m
      obtain ⟨e, he, q⟩ := List.mem_filterMap.mp m
      exact List.mem_filterMap.mpr ⟨e, List.mem_cons_of_mem _ he, q⟩
    -- the exception and its traceback's entry as pins
    have J2 : Inv X ((a, oe) :: (T, oT) :: pins) σ H { s' with heap := h1 } := by
      refine ⟨J1.ok, J1.os, J1.bare, J1.base, J1.loc, J1.cell, J1.free, J1.freeC, fun p hp => ?_, J1.hok, J1.len⟩
      rcases List.mem_append.mp hp with hp | hp
      · exact J1.pin p (List.mem_append_left _ hp)
      rcases List.mem_cons.mp hp with rfl | hp
      · exact ⟨gA, na, (fun z => offA (by rw [show a = X.env.locals from z]; exact isL)), (fun z => offA (isF z)), fun v z => nomatch (dA.symm.trans z)⟩
      rcases List.mem_cons.mp hp with rfl | hp
      · exact ⟨gT, nT, (fun z => offT (by rw [show T = X.env.locals from z]; exact isL)), (fun z => offT (isF z)), fun v z => nomatch (dT.symm.trans z)⟩
      · exact J1.pin p (List.mem_append_right _ hp)
    refine gone_ok J2 hN hi hln fun s4 J4 => ?_
    have p1 := J4.pin (a, oe) (List.mem_append_right _ List.mem_cons_self)
    have p2 := J4.pin (T, oT) (List.mem_append_right _ (List.mem_cons_of_mem _ List.mem_cons_self))
    have a4 : s4.heap.get? a = some oe := p1.1
    have t4 : s4.heap.get? T = some oT := p2.1
    have J5 : Inv X pins (σ.set i none) H s4 := ⟨J4.ok, J4.os, J4.bare, J4.base, J4.loc, J4.cell, J4.free, J4.freeC, fun p hp => J4.pin p (by
      rcases List.mem_append.mp hp with z | z
      · exact List.mem_append_left _ z
      · exact List.mem_append_right _ (List.mem_cons_of_mem _ (List.mem_cons_of_mem _ z))), J4.hok, J4.len⟩
    have apart : ∀ {b : Addr} {o : Obj}, sI.heap.get? b = some o → b ≠ a ∧ b ≠ T := by
      intro b o e
      by_cases m : b ∈ frs X.stack
      · rw [hs] at m
        exact ⟨fun z => offA (z ▸ m), fun z => offT (z ▸ m)⟩
      · have q := nb b o e m
        exact ⟨(fun z => nomatch (z ▸ q : B.get? a = some o).symm.trans newA), (fun z => nomatch (z ▸ q : B.get? T = some o).symm.trans newT)⟩
    obtain ⟨G, in1, in2⟩ := restrict s4.heap fun b => decide (b ≠ a ∧ b ≠ T)
    have fromG : ∀ b o, G.get? b = some o → s4.heap.get? b = some o ∧ b ≠ a ∧ b ≠ T := by
      intro b o e
      by_cases q : b ≠ a ∧ b ≠ T
      · exact ⟨(in1 b (decide_eq_true q)).symm.trans e, q⟩
      · exact nomatch (in2 b (decide_eq_false q)).symm.trans e
    have toG : ∀ b o, b ≠ a → b ≠ T → s4.heap.get? b = some o → G.get? b = some o := fun b o h1 h2 e => (in1 b (decide_eq_true ⟨h1, h2⟩)).trans e
    have J6 : Inv X pins (σ.set i none) H { s4 with heap := G } := by
      refine J5.less (fun b o e => (fromG b o e).1) toG ⟨oe, vs, a4, dA⟩ ⟨oT, ts, t4, dT⟩ na nT (fun b o e => ?_) fun p hp => apart (J.pin p hp).1
      obtain ⟨o', q⟩ := J.base.there b o e (by rw [hex]; exact fun z => nomatch z)
      exact apart q
    have noB : ∀ b, ¬ (b ≠ a ∧ b ≠ T) → (PySem.W.hideAll G (frs X.stack)).get? b = none := by
      intro b q
      cases e : (PySem.W.hideAll G (frs X.stack)).get? b with
      | none => rfl
      | some o => exact absurd (fromG b o (PySem.W.of_hideAll _ e)).2 q
    have held4 : HandSPX.HeldZ (PySem.W.hideAll G (frs X.stack)) (X.env :: X.outer) a (Zc cls d) X.env.locals s4.heap := by
      have ff := funFrames_none (B := PySem.W.hideAll G (frs X.stack)) J5.stack fun b m => PySem.W.hideAll_none _ m
      rw [hs] at ff
      exact ⟨fun b o e => (fromG b o (PySem.W.of_hideAll _ e)).1, noB a (fun z => z.1 rfl), by rw [hs]; exact ff, oe, vs, T, oT, ts, a4, zA, dA, tb, noB T (fun z => z.2 rfl), neT, t4, dT, fl⟩
    unfold PySem.passOn
    refine wpAny_bind (wpAny_field a4 dA tb ?_)
    rw [if_neg (show ¬ ((Value.ref T == Value.none) = true) from by simp)]
    have up4 : wpAny (model X.prog X.w) A' (setFlight (.ref a) X.env.frame) (fun _ s7 => wpAny (model X.prog X.w) A' (throw (.ref a) : Sem Flow) (fun _ _ => False) E2 s7) E2 s4 := by
      rw [hf]
      refine HandSPX.setFlight_onZ held4 fun h7 held7 up7 => wpAny_throw (tk _ _ ?_)
      refine ⟨a, PySem.W.hideAll G (frs X.stack), { s4 with heap := G }, pins, _, H, cls, d, rfl, J6, fun b o e m => PySem.W.hideAll_get _ e m, ?_, .inr (.inr (by rw [hs] at held7 ⊢; exact held7)), na, rfl, J5.bare, w⟩
      exact Heap.UpToSlots.trans (Heap.UpToSlots.of_keeps fun b o e => (fromG b o e).1) up7
    first
      | exact wpAny_bind (wpAny_pure (wpAny_bind up4))
      | exact wpAny_bind up4
  rcases sky with ⟨k1, k2, k3, oe, vs, e0, z0, d0, v1⟩ | fly | held
  · exact HandSPX.look_newZ Zc.steady hA k3 hf e0 k1 k2 d0 v1 z0 go
  · exact HandSPX.looks_onZ Zc.steady hA hf fly go
  · exact HandSPX.againZ hf held.2.2.2 (go s'.heap held (Heap.UpToSlots.refl _))
end
/-- what the clause wishes -/
def wAs (K : PySem.W.Frag) (c c0 : Value) (i : Nat) (ts : Addr → Option Addr → TS) (Wout : WX) (D : Ends) : WX := fun cls d σ H =>
  ∃ b, PySem.W.exmOne K cls c = some b ∧ (b = true → cls = c0 ∧ ∀ a, H a = none → ts a d { nx := fun σ' H' => D.nx (σ'.set i none) H', rt := D.rt, bk := fun σ' H' => D.bk (σ'.set i none) H', ct := fun σ' H' => D.ct (σ'.set i none) H' } (σ.set i (some (.ref a))) H) ∧
    (b = false → Wout cls d σ H)
/-- the name is gone behind it -/
def wGone (i : Nat) (W : WX) : WX := fun cls d σ H => W cls d (σ.set i none) H
abbrev asX (X : Cx) (a : Addr) (pn : List (Addr × Obj)) (xe : Value → Shared → Prop) : Cx := (suiteX X a pn).wish xe
section
variable {X : Cx} {x n : Str} {c : Value} {i : Nat} {body suite : List Stmt} {b₀ : Stmt} {np pos pos' : Pos} {tb : WX → TS} {ts : Addr → Option Addr → TS} {Wout : WX} {c0 : Value}
theorem ps_try_asX {K : PySem.W.Frag} (hK : X.K = K) (hs : X.stack = X.env :: X.outer) (hf : X.env.frame = some X.env.locals) (hex : X.ex = []) (hN : X.N.Nodup) (hi : X.N[i]? = some n) (hln : X.env.kindOf n = some .local) (hc : Names X x c)
    (hpa : ∀ hd : Option Value, PassesOwnAt (model X.prog X.w) (X.A.mark hd) X.A X.env X.xe) (tk : L2.Takes X Wout)
    (hb : ∀ (W : WX) (pn : List (Addr × Obj)) (xe : Value → Shared → Prop), L2N.Takes (X.tr pn xe) W → PassesOwn (model X.prog X.w) X.A X.env xe → PSs (X.tr pn xe) body (tb W))
    (hsu : ∀ (a : Addr) (oe : Obj) (d : Option Addr) (pn : List (Addr × Obj)) (xe : Value → Shared → Prop), L2N.Zn c0 d oe → Hot1 (X.A.mark (some (.ref a))) (a, oe) → L2.Takes (asX X a ((a, oe) :: pn) xe) (wGone i Wout) → PSs (asX X a ((a, oe) :: pn) xe) (b₀ :: suite) (ts a d)) :
    PS X (.Try body [.ExceptHandler (some (.Name x np)) (some n) (b₀ :: suite) pos'] [] [] pos) (fun D σ H => tb (wAs K c c0 i ts Wout D) D σ H) := by
  subst hK
  refine ⟨fun pins s σ H D I h => ?_⟩
  have ok := I.ok
  have hfr : X.A.frames = some (X.env :: X.outer) := ok.frames.trans (congrArg some hs)
  refine wpAny_Try_except (wpAny_mono ((hb (wAs X.K c c0 i ts Wout D) (X.pn ++ pins) (fun e s₁ => wpAny (model X.prog X.w) X.A (noteFrame e X.env) (fun _ s₂ => wpAny (model X.prog X.w) X.A (setFlight e none) (fun _ s₃ =>
    wpAny (model X.prog X.w) X.A (handleBy e X.env [.ExceptHandler (some (.Name x np)) (some n) (b₀ :: suite) pos']) (SP X pins D) X.xe s₃) X.xe s₂) X.xe s₁) (fun u s' xx => ?caught) PassesOwn.looking).run [] s σ H D (I.toTry _) h) (fun f s1 hsp => ?thru) (fun e s1 he => he))
  case thru =>
    cases f with
    | next =>
      obtain ⟨σ', H', J', q⟩ := hsp
      exact wpAny_execs_nil ⟨σ', H', J'.ofTry ok, q⟩
    | brk =>
      obtain ⟨σ', H', J', q⟩ := hsp
      exact ⟨σ', H', J'.ofTry ok, q⟩
    | cont =>
      obtain ⟨σ', H', J', q⟩ := hsp
      exact ⟨σ', H', J'.ofTry ok, q⟩
    | ret u =>
      obtain ⟨v, σ', H', J', r, q⟩ := hsp
      exact ⟨v, σ', H', J'.ofTry ok, r, q⟩
  case caught =>
    obtain ⟨a, B, sI, pins', σ', H', cls, d, rfl, J', nb, up, sky, na, os, ag, b, hb1, hyes, hno⟩ := xx
    have J : Inv X pins σ' H' sI := J'.ofTry ok
    rw [show (X.tr (X.pn ++ pins) _).stack = X.env :: X.outer from hs] at sky
    show wpAny (model X.prog X.w) X.A (noteFrame (.ref a) X.env) _ _ _
    refine L2N.Sky.land L2N.Zn.steady hfr hf sky fun h3 fl3 up3 => ?_
    have J3 : Inv X pins σ' H' { s' with heap := h3 } := J.landed nb fl3.1 (up.trans up3) os ag
    obtain ⟨oe3, vs3, he3, hz3, hd3⟩ := fl3.there
    have nfr : a ∉ frs (X.env :: X.outer) := fun hm => by
      obtain ⟨_, o', e', hnf⟩ := fl3.2.2.1.mem hm
      cases he3.symm.trans e'
      exact hnf _ hd3
    have nL : a ≠ X.env.locals := fun z => nfr (List.mem_filterMap.mpr ⟨X.env, List.mem_cons_self, by rw [hf, z]⟩)
    have nF : a ∉ X.fs := fun hm => by
      obtain ⟨e, he, q⟩ := List.mem_filterMap.mp hm
      exact nfr (List.mem_filterMap.mpr ⟨e, List.mem_cons_of_mem _ he, q⟩)
    have S3 := J3.suite he3 hd3 na nL nF
    refine wpAny_handleBy_cons (codeAny_handlers_test ?_) (by intro q; cases q)
    have LT : PySem.W.Looks (model X.prog X.w) h3 (typeOf (.ref a)) cls := fun A Q E s k q => wpAny_typeOf_ref (k _ _ he3) (by rw [hz3.1]; exact q)
    have LM := PySem.W.exm_one (M := model X.prog X.w) J3.kIn LT hb1
    have test : ∀ {Q : Value → Shared → Prop} {E : Value → Shared → Prop}, Q c { s' with heap := h3 } → wpAny (model X.prog X.w) (X.A.mark (some (.ref a))) (eval (.Name x np) X.env) Q E { s' with heap := h3 } := fun {Q E} q => by
      obtain ⟨hg, hdbg, hm | ⟨hm, hv, hnn⟩⟩ := hc
      · exact ld_glob (X := X.suite a ((a, oe3) :: (X.pn ++ pins))) S3 hg hm q hdbg
      · exact ld_blt (X := X.suite a ((a, oe3) :: (X.pn ++ pins))) S3 hg hm hv q hnn hdbg
    refine test (LM.here ?_)
    cases b with
    | false =>
      show wpAny _ X.A (handleBy (.ref a) X.env []) _ _ _
      refine wpAny_handleBy_nil ?_
      have fl4 : HandSPX.FlyingZ B (X.env :: X.outer) a (Zc cls d) h3 := flyingZ_imp (fun o z => z.zc) fl3
      obtain ⟨_, _, _, oe, vs, T, oT, ts', he, hz, hd, h1, hr⟩ := id fl3
      unfold PySem.passOn
      refine wpAny_bind (wpAny_field he hd h1 ?_)
      rw [if_neg (show ¬ ((Value.ref T == Value.none) = true) from by simp)]
      have fin : wpAny (model X.prog X.w) X.A (setFlight (.ref a) X.env.frame) (fun _ s4 => wpAny (model X.prog X.w) X.A (throw (.ref a) : Sem Flow) (SP X pins D) X.xe s4) X.xe { s' with heap := h3 } := by
        rw [hf]
        refine HandSPX.setFlight_upZ fl4 fun h4 hh4 up4 => wpAny_throw (tk _ _ ?_)
        exact ⟨a, B, sI, pins, σ', H', cls, d, rfl, J, nb, (up.trans up3).trans up4, .inr (.inr (by rw [hs]; exact hh4)), na, os, ag, hno rfl⟩
      first
        | exact wpAny_bind (wpAny_pure (wpAny_bind fin))
        | exact wpAny_bind fin
    | true =>
      obtain ⟨hcc, hyes2⟩ := hyes rfl
      subst hcc
      refine codeAny_handlers_suite_as (HandSPX.lands_againZ fl3 fun h4 fl4 up4 => ?_)
      obtain ⟨oe4, vs4, he4, hz4, hd4⟩ := fl4.there
      have J4 : Inv X pins σ' H' { s' with heap := h4 } := J.landed nb fl4.1 ((up.trans up3).trans up4) os ag
      have S4 := suiteX_of (J4.suite he4 hd4 na nL nF)
      refine store_ok (X := suiteX X a ((a, oe4) :: (X.pn ++ pins))) (v := .ref a) S4 hN hi (.inl hln) rfl (fun s5 S5 => ?_) (.inr hln)
      have hot : Hot1 (X.A.mark (some (.ref a))) (a, oe4) := ⟨rfl, vs4, hd4, hz4.2.2 vs4 hd4⟩
      refine wpAny_mono ((hsu a oe4 d (X.pn ++ pins) _ hz4 hot (fun u2 s2 x2 => ?_)).run [] s5 _ _ _ (S5.wish _) (hyes2 a na)) (fun f s6 hsp => ?_) (fun e6 s6 z => z)
      · obtain ⟨a2, B2, sI2, pn2, σ2, H2, cls2, d2, rfl, I2, nb2, up2, sky2, na2, os2, ag2, w2⟩ := x2
        have sky3 : Sky B2 (X.env :: X.outer) a2 (Zc cls2 d2) X.env.locals s2.heap := by rw [← hs]; exact sky2
        exact leave_as (A' := X.A.mark (some (.ref a))) (pos := pos') (E2 := notedBy (model X.prog X.w) (X.A.mark (some (.ref a))) X.env (cameBackBy (model X.prog X.w) X.A X.env X.xe)) hs hf hex hN hi hln hfr (fun u s xe => hpa _ _ _ (tk u s xe)) (unsuiteX I2.unwish ok) nb2 up2 sky3 na2 os2 ag2 w2
      · have hsp := SP.unwish hsp
        have fin : ∀ {σ6 : L2.St} {H6 : Hp} {Q : Shared → Prop}, Inv (suiteX X a ((a, oe4) :: (X.pn ++ pins))) [] σ6 H6 s6 → (∀ s7, Inv X pins (σ6.set i none) H6 s7 → Q s7) →
            wpAny (model X.prog X.w) X.A (do bindName X.env n .none; unbindBehindTheSuite X.env n pos') (fun _ s7 => Q s7) X.xe s6 := fun {σ6 H6 Q} S6 hq => gone_ok (unsuiteX S6 ok) hN hi hln hq
        cases f with
        | next =>
          obtain ⟨σ6, H6, S6, q6⟩ := hsp
          exact fin S6 fun s7 J7 => ⟨_, _, J7, q6⟩
        | brk =>
          obtain ⟨σ6, H6, S6, q6⟩ := hsp
          exact fin S6 fun s7 J7 => ⟨_, _, J7, q6⟩
        | cont =>
          obtain ⟨σ6, H6, S6, q6⟩ := hsp
          exact fin S6 fun s7 J7 => ⟨_, _, J7, q6⟩
        | ret u =>
          obtain ⟨v6, σ6, H6, S6, r6, q6⟩ := hsp
          exact fin S6 fun s7 J7 => ⟨_, _, _, J7, r6, q6⟩
end
theorem ps_raiseHA {X : Cx} {W : WX} {e : Expr} {t : L2.St → Hp → XK → Prop} {i : Nat} {n : Str} {np pos : Pos} {a : Addr} {oe : Obj} {cls0 : Value} (hot : Hot1 X.A (a, oe)) (hp : (a, oe) ∈ X.pn) (hcl : oe.cls = cls0) (hrs : Raises X cls0) (hN : X.N[i]? = some n) (hk : X.env.kindOf n = some .local) (tk : L2.Takes X W) (he : PMk5 X e t)
    (hd0 : (n == ("__debug__" : Str)) = false := by decide) : PS X (.Raise (some e) (some (.Name n np)) pos) (fun _ σ H => σ[i]? = some (some (.ref a)) ∧ t σ H fun cls d H' => W cls d σ H') := ps_raiseHF (p := (a, oe)) hot hp hcl hrs hN hk tk he hd0
theorem pe_ixDK {X : Cx} {K : PySem.W.Frag} {w : World} {W : WX} {a b : Expr} {ta tb : TE} {pos : Pos} (hc : X.calm = true) (tk : L2N.Takes X W) (ha : PE X a ta) (hb : PE X b tb) (hs : PlainIx b) (hK : X.K = K := by rfl) (hw : X.w = w := by rfl) : PE X (.Subscript a b pos) (tIxDX K w W ta tb) := hK ▸ hw ▸ pe_ixDXN hc tk ha hb hs
theorem raises_KeyError {X : Cx} : Raises X (.type "KeyError") := fun _ _ _ => ⟨PySem.W.Looks.of_pure (by kernel_rfl), PySem.W.Looks.of_pure (by kernel_rfl)⟩
theorem names_KeyError {X : Cx} (hg : Gl X "KeyError") (hm : X.mg "KeyError" = none) : Names X "KeyError" (.type "KeyError") := ⟨hg, by decide, .inr ⟨hm, by decide +kernel, by decide⟩⟩
end Fw
namespace Fw
open PySem PySem.Spec PyProof.Rows L2
/-! ### texts by their lengths -/
theorem rep_len (u : Str) (k : Nat) : (Txt.mul u (k : Int)).length = u.length * k := by
  have h := len_mul u (k : Int)
  rw [if_neg (by simp)] at h
  exact Int.ofNat_inj.mp (by rw [h]; simp)
/-- a text times a number -/
def rMulS : R2 := fun x y H Q => ∃ (u : Str) (k : Nat), x = .str u ∧ y = .int k ∧ k ≤ 100000 ∧ u.length * k ≤ 1000000 ∧ Q (.str (Txt.mul u k)) H
theorem op_mulS {X : Cx} : OpR X (binaryOp .Mult) rMulS := by
  intro pins s σ H x y v u Q I rx ry h
  obtain ⟨z, k, rfl, rfl, hk, hz, q⟩ := h
  obtain ⟨t, rfl⟩ := rx
  obtain ⟨t2, rfl⟩ := ry
  refine SB.mul ⟨?_, fun h1 h2 => ?_, fun h1 h2 => ?_⟩ fun t' j => ⟨.str _, H, I.tok _, ⟨_, rfl⟩, q⟩
  · rw [Bool.or_eq_false_iff]
    exact ⟨decide_eq_false (by omega), decide_eq_false (by omega)⟩
  · have hk1 : 1 ≤ k := by omega
    have hz2 : z.length ≤ 1000000 := Nat.le_trans (Nat.le_mul_of_pos_right _ (by omega)) hz
    intro hgt
    have h3 : (92233720368547 : Int) ≤ (2 ^ 63 - 1) / (k : Int) := Int.le_ediv_of_mul_le (by omega) (by omega)
    omega
  · rw [Int.toNat_natCast]
    exact decide_eq_false (by rw [sizeLine_eq]; omega)
/-- a text turned about -/
def RevS (x : V) (H : Hp) (Q : VK) : Prop := ∃ z : Str, x = .str z ∧ z.length ≤ 1000000 ∧ ∀ y : Str, y.length = z.length → Q (.str y) H
def tRevS (te : TE) : TE := fun σ H Q => te σ H fun x H1 => RevS x H1 Q
theorem pe_revS {X : Cx} {e : Expr} {te : TE} {k : Nat} {p1 p2 p3 pos : Pos} (he : PE X e te) : PE X (.Subscript e (.Slice none none (some (.UnaryOp .USub (.Constant (.int 1) k p1) p2)) p3) pos) (tRevS te) := by
  refine ⟨fun pins s σ H Q I h => Subscript_ (thn (he.run pins s σ H _ I h) fun v s1 ⟨x, H1, I1, r1, q1⟩ => ?_)⟩
  obtain ⟨z, rfl, hz, q⟩ := q1
  obtain ⟨t, rfl⟩ := r1
  have hst : PO X (some (.UnaryOp .USub (.Constant (.int 1) k p1) p2)) (tPart (tUn (rU fun i => .int (-i)) (tC (.int 1)))) := po_some (pe_un un_neg pe_int)
  refine wpAny_Slice (thn (po_none.run pins s1 σ H1 (fun o H2 => o = none ∧ H2 = H1) I1 ⟨rfl, rfl⟩) fun vl s2 ⟨l, H2, I2, pl, el, e2⟩ => ?_)
  subst el e2
  refine thn (po_none.run pins s2 σ H2 (fun o H3 => o = none ∧ H3 = H2) I2 ⟨rfl, rfl⟩) fun vu s3 ⟨u, H3, I3, pu, eu, e3⟩ => ?_
  subst eu e3
  refine thn (hst.run pins s3 σ H3 (fun o H4 => o = some (-1) ∧ H4 = H3) I3 ⟨1, rfl, -1, rfl, rfl, rfl⟩) fun vs s4 ⟨o, H4, I4, ps, eo, e4⟩ => ?_
  subst eo e4
  obtain ⟨l', rfl, hl⟩ := IsPart.raw pl
  obtain ⟨u', rfl, hu⟩ := IsPart.raw pu
  obtain ⟨st, rfl, hs1⟩ := IsPart.raw ps
  have el : l' = none := by cases l' with | none => rfl | some _ => cases hl
  have eu : u' = none := by cases u' with | none => rfl | some _ => cases hu
  subst el eu
  obtain ⟨tk, rfl⟩ : ∃ tk, st = some (-1, tk) := by
    cases st with
    | none => cases hs1
    | some p => obtain ⟨j, tk⟩ := p; cases hs1; exact ⟨tk, rfl⟩
  have I5 : Inv X pins σ H4 { s4 with heap := s4.heap.push { cls := .type "slice", data := .fields #[partValue none, partValue none, partValue (some (-1, tk))] } } := I4.kept (t' := s4.toks) fun b ob q => Heap.get?_push_of_some _ q
  refine tail_any (ops := [.str z t, .ref s4.heap.objs.size]) (typeIs_str _ z t) F.slot_str_getitem.lookup (wpAny_getItem_str_slice (l := none) (u := none) (st := some (-1, tk)) ⟨_, Heap.get?_push_size _ rfl, rfl, rfl⟩ rfl ?_) (by with_unfolding_all rfl)
  have hl := step_rev_len z tk
  have e : sliceMade z t none none (some (-1, tk)) = Made.str (Txt.sliceBy z none none (-1, tk)) := by
    unfold sliceMade Txt.sliceBy
    rw [if_neg (by simp), if_neg (by simp)]
  rw [e]
  exact ⟨by rw [sizeLine_eq, hl]; omega, .str _, H4, I5.tok _, ⟨_, rfl⟩, q _ hl⟩
section
variable {σ : L2.St} {H : Hp} {K : PySem.W.Frag} {Q : VK} {u z : Str} {n m : Nat} {i : Int} {te : TE}
theorem x_truB {b : Bool} {F : Bool → Prop} (k : F b) : ∃ c, TruV K (.bl b) H c ∧ F c := ⟨b, rfl, k⟩
theorem x_revS (k : te σ H fun x H1 => RevS x H1 Q) : tRevS te σ H Q := k
theorem x_revP (h : z.length ≤ 1000000) (k : ∀ y : Str, y.length = z.length → Q (.str y) H) : RevS (.str z) H Q := ⟨z, rfl, h, k⟩
theorem x_slP {lo hi : Option Int} (h : u.length ≤ 1000000) (k : ∀ y : Str, y.length ≤ u.length → Q (.str y) H) : uSl K (.str u) lo hi H Q :=
  .inr (.inl ⟨u, rfl, Nat.le_trans h (by rw [sizeLine_eq]; decide), k _ (cutS_length u lo hi)⟩)
theorem x_slX {lo hi : Option Int} (h : u.length ≤ 1000000) (k : Q (.str (cutS u lo hi)) H) : uSl K (.str u) lo hi H Q :=
  .inr (.inl ⟨u, rfl, Nat.le_trans h (by rw [sizeLine_eq]; decide), k⟩)
theorem x_addP (h : u.length + z.length ≤ 1000000) (k : ∀ y : Str, y.length = u.length + z.length → Q (.str y) H) : uAdd K (.str u) (.str z) H Q :=
  x_addS (Nat.le_trans h (by rw [sizeLine_eq]; decide)) (k _ (strLen_append u z))
theorem x_ixP (h : u.length ≤ 1000000) (h0 : 0 ≤ i) (h1 : i < u.length) (k : ∀ y : Str, y.length = 1 → Q (.str y) H) : uIx K (.str u) (.int i) H Q :=
  x_ixS (Nat.le_trans h (by rw [sizeLine_eq]; decide)) (at_get h0 (by rw [Array.length_toList]; exact h1)) (k _ rfl)
theorem x_mulP (h0 : 0 ≤ i) (h1 : i ≤ 100000) (h2 : u.length * i.toNat ≤ 1000000) (k : ∀ y : Str, y.length = u.length * i.toNat → Q (.str y) H) : rMulS (.str u) (.int i) H Q := by
  obtain ⟨j, rfl⟩ : ∃ j : Nat, i = j := ⟨i.toNat, by omega⟩
  rw [Int.toNat_natCast] at h2 k
  exact ⟨u, j, rfl, rfl, by omega, h2, k _ (rep_len u j)⟩
theorem x_upP (h : u.length ≤ 100000) (k : ∀ y : Str, y.length ≤ 3 * u.length → Q (.str y) H) : (fun (x : V) (xs : List V) (H : Hp) (Q : VK) => ∃ a, x = .str a ∧ xs = [] ∧ a.length ≤ 5592405 ∧ Q (.str (Txt.upper a)) H) (.str u) [] H Q := ⟨u, rfl, rfl, by omega, k _ (len_upper u)⟩
end
end Fw
namespace Fw
open PySem PySem.Spec PyProof.Rows L2
/-! ### a call that is handed all cells -/
section
variable {K : PySem.W.Frag} {H0 H H' : Hp} {Ms M0 : List Addr} {L L' : List (Addr × HO)} {R R' : List Fa}
theorem W.back (w : W K H0 Ms M0 H L R) (w' : W K H (L.map (·.1)) M0 H' L' R') : W K H0 Ms M0 H' L' (R' ++ R) := by
  have inL : ∀ a ∈ L.map (·.1), a ∈ Ms ∨ (H0 a = none ∧ a ∉ M0) := fun a ha => by
    obtain ⟨q, hq, rfl⟩ := List.mem_map.mp ha
    exact w.own q hq
  refine ⟨fun a o n e => ?_, w'.al, w'.nd, w'.cell, fun p hp => ?_, fun r hr => ?_⟩
  · refine w'.ex a o (fun ha => ?_) (w.ex a o n e)
    rcases inL a ha with h | h
    · exact n h
    · exact nomatch h.1.symm.trans e
  · rcases w'.own p hp with h | h
    · exact inL _ h
    · by_cases hm : p.1 ∈ Ms
      · exact .inl hm
      · exact .inr ⟨w.fresh h.1 hm, h.2⟩
  · rcases List.mem_append.mp hr with hr | hr
    · exact w'.rep r hr
    · refine Fa.ext (fun a o e => ?_) (w.rep r hr)
      obtain ⟨n, e⟩ := del_some e
      have n1 : a ∉ L.map (·.1) := fun z => n (List.mem_append_left _ z)
      have n2 : a ∉ M0 := fun z => n (List.mem_append_right _ z)
      rw [del_out]
      · exact w'.ex a o n1 e
      · intro z
        rcases List.mem_append.mp z with z | z
        · obtain ⟨q, hq, rfl⟩ := List.mem_map.mp z
          rcases w'.own q hq with h | h
          · exact n1 h
          · exact nomatch h.1.symm.trans e
        · exact n2 z
/-- all cells handed on -/
theorem W.hand (w : W K H0 Ms M0 H L R) : W K H (L.map (·.1)) M0 H L R :=
  ⟨Ex.refl, w.al, w.nd, w.cell, fun p hp => .inl (List.mem_map.mpr ⟨p, hp, rfl⟩), w.rep⟩
/-- the cells in another order -/
theorem W.perm (w : W K H0 Ms M0 H L R) (h : L'.Perm L) : W K H0 Ms M0 H L' R := by
  have hm : ∀ x, x ∈ L'.map (·.1) ↔ x ∈ L.map (·.1) := fun x => (h.map _).mem_iff
  refine ⟨w.ex, w.al, (h.map _).nodup_iff.mpr w.nd, fun p hp => w.cell p (h.mem_iff.mp hp), fun p hp => w.own p (h.mem_iff.mp hp), fun r hr => Fa.ext (del_sub fun x hx => ?_) (w.rep r hr)⟩
  rcases List.mem_append.mp hx with z | z
  · exact List.mem_append_left _ ((hm x).mp z)
  · exact List.mem_append_right _ z
end
/-! ### texts, sign by sign -/
theorem str_ext {x y : Str} (h : x.cps.toList = y.cps.toList) : x = y := by
  obtain ⟨a⟩ := x
  obtain ⟨b⟩ := y
  exact congrArg Str.mk (Array.toList_inj.mp h)
abbrev cd (x : Str) : List Nat := x.cps.toList
theorem cd_len (x : Str) : (cd x).length = x.length := Array.length_toList
theorem cd_app (x y : Str) : cd (x ++ y) = cd x ++ cd y := by
  show (x.cps ++ y.cps).toList = _
  simp
theorem cd_cut (z : Str) (i j : Nat) (hi : i ≤ z.length) (hj : j ≤ z.length) : cd (cutS z (some (i : Int)) (some (j : Int))) = ((cd z).drop i).take (j - i) := by
  unfold cutS
  rw [HT.sIx_nat, HT.sIx_nat, Nat.min_eq_left hi, Nat.min_eq_left hj]
theorem cd_cutTo (z : Str) (j : Nat) (hj : j ≤ z.length) : cd (cutS z none (some (j : Int))) = (cd z).take j := by
  unfold cutS
  rw [HT.sIx_none, HT.sIx_nat, Nat.min_eq_left hj]
  simp
theorem cd_cutFrom (z : Str) (i : Nat) (hi : i ≤ z.length) : cd (cutS z (some (i : Int)) none) = (cd z).drop i := by
  unfold cutS
  rw [HT.sIx_nat, HT.sIx_none, Nat.min_eq_left hi]
  show ((cd z).drop i).take (z.length - i) = _
  rw [List.take_of_length_le (by rw [List.length_drop, cd_len]; omega)]
/-- the sign at i, none behind the last one -/
def signAt (z : Str) (i : Nat) : Str := match (cd z)[i]? with
  | some c => ⟨#[c]⟩
  | none => ⟨#[]⟩
theorem cut_sign (z : Str) (i : Nat) (hi : i ≤ z.length) : cutS z (some (i : Int)) (some ((i : Int) + 1)) = signAt z i := by
  refine str_ext ?_
  by_cases h : i + 1 ≤ z.length
  · have e : ((i : Int) + 1) = ((i + 1 : Nat) : Int) := by omega
    rw [e]
    refine (cd_cut z i (i + 1) hi h).trans ?_
    have hl : i < (cd z).length := by rw [cd_len]; omega
    unfold signAt
    rw [List.getElem?_eq_getElem hl, Nat.add_sub_cancel_left, List.drop_eq_getElem_cons hl]
    rfl
  · have e : i = z.length := by omega
    have hn : (cd z)[i]? = none := List.getElem?_eq_none (by rw [cd_len]; omega)
    unfold signAt
    rw [hn]
    unfold cutS
    rw [HT.sIx_nat, Nat.min_eq_left hi, e, List.drop_eq_nil_of_le (by show (cd z).length ≤ _; rw [cd_len]; exact Nat.le_refl _)]
    simp
theorem lit_eq {x : Str} {l : List Nat} (h : cd x = l) : x = ⟨l.toArray⟩ := str_ext (by rw [show x.cps.toList = l from h])
end Fw
namespace Fw
open PySem PySem.Spec PyProof.Rows L2
/-! ### trees -/
inductive Tr where
  | mk (n : Str) (o : Int) (ps : List Tr)
mutual
def Tr.data : Tr → PyData
  | .mk n o ps => .tuple [.str n, .int o, .tuple (datas ps)]
def datas : List Tr → List PyData
  | [] => []
  | t :: r => t.data :: datas r
end
mutual
def Tr.size : Tr → Nat
  | .mk _ _ ps => 1 + sizes ps
def sizes : List Tr → Nat
  | [] => 0
  | t :: r => t.size + sizes r
end
mutual
def Tr.high : Tr → Nat
  | .mk _ _ ps => 1 + highs ps
def highs : List Tr → Nat
  | [] => 0
  | t :: r => max t.high (highs r)
end
/-- a NAME -/
structure NameOk (x : Str) : Prop where
  l1 : 1 ≤ x.length
  l6 : x.length ≤ 6
  small : ∀ c ∈ cd x, 97 ≤ c ∧ c ≤ 122
  no : x ≠ "own"
mutual
inductive TrOk : Tr → Prop
  | mk {n : Str} {o : Int} {ps : List Tr} : NameOk n → 0 ≤ o → o < 1000000 → ps.length ≤ 2 → TrsOk ps → TrOk (.mk n o ps)
inductive TrsOk : List Tr → Prop
  | nil : TrsOk []
  | cons {t : Tr} {r : List Tr} : TrOk t → TrsOk r → TrsOk (t :: r)
end
theorem datas_length : ∀ ts : List Tr, (datas ts).length = ts.length
  | [] => by simp only [datas, List.length_nil]
  | t :: r => by simp only [datas, List.length_cons, datas_length r]
theorem datas_append : ∀ ts us : List Tr, datas (ts ++ us) = datas ts ++ datas us
  | [], us => by simp only [datas, List.nil_append]
  | t :: r, us => by simp only [datas, List.cons_append, datas_append r us]
theorem sizes_append : ∀ ts us : List Tr, sizes (ts ++ us) = sizes ts + sizes us
  | [], us => by simp only [sizes, List.nil_append, Nat.zero_add]
  | t :: r, us => by simp only [sizes, List.cons_append, sizes_append r us, Nat.add_assoc]
theorem highs_append : ∀ ts us : List Tr, highs (ts ++ us) = max (highs ts) (highs us)
  | [], us => by simp only [highs, List.nil_append, Nat.zero_max]
  | t :: r, us => by simp only [highs, List.cons_append, highs_append r us, Nat.max_assoc]
theorem TrsOk.append : ∀ {ts us : List Tr}, TrsOk ts → TrsOk us → TrsOk (ts ++ us)
  | _, _, .nil, h => h
  | _, _, .cons a b, h => .cons a (TrsOk.append b h)
theorem datas_get : ∀ {ts : List Tr} {i : Nat} {d : PyData}, (datas ts)[i]? = some d → ∃ t, ts[i]? = some t ∧ d = t.data
  | [], i, d, h => by simp [datas] at h
  | t :: r, 0, d, h => by simp [datas] at h; exact ⟨t, rfl, h.symm⟩
  | t :: r, i + 1, d, h => by
    simp only [datas, List.getElem?_cons_succ] at h
    obtain ⟨u, h1, h2⟩ := datas_get h
    exact ⟨u, by simpa using h1, h2⟩
theorem datas_map (ts : List Tr) : datas ts = ts.map Tr.data := by
  induction ts with
  | nil => simp only [datas, List.map_nil]
  | cons t r ih => simp only [datas, List.map_cons, ih]
theorem TrsOk.mem {ts : List Tr} (h : TrsOk ts) : ∀ t ∈ ts, TrOk t := by
  induction ts with
  | nil => exact fun _ z => nomatch z
  | cons u r ih =>
    cases h with
    | cons a b =>
      intro t ht
      rcases List.mem_cons.mp ht with rfl | ht
      · exact a
      · exact ih b t ht
theorem sizes_mem {ts : List Tr} : ∀ t ∈ ts, t.size ≤ sizes ts := by
  induction ts with
  | nil => exact fun _ z => nomatch z
  | cons u r ih =>
    intro t ht
    simp only [sizes]
    rcases List.mem_cons.mp ht with rfl | ht
    · omega
    · have := ih t ht
      omega
theorem highs_mem {ts : List Tr} : ∀ t ∈ ts, t.high ≤ highs ts := by
  induction ts with
  | nil => exact fun _ z => nomatch z
  | cons u r ih =>
    intro t ht
    simp only [highs]
    rcases List.mem_cons.mp ht with rfl | ht
    · omega
    · have := ih t ht
      omega
theorem TrOk.parts {n : Str} {o : Int} {ps : List Tr} (h : TrOk (.mk n o ps)) : NameOk n ∧ 0 ≤ o ∧ o < 1000000 ∧ ps.length ≤ 2 ∧ TrsOk ps := by
  cases h with
  | mk a b c d e => exact ⟨a, b, c, d, e⟩
/-! ### their texts -/
mutual
/-- as the laws spell a tree -/
def Tr.text : Tr → Str
  | .mk n o ps => (n ++ Txt.mul (":" ++ Str.ofString (toString o)) (if decide (0 < o) = true then 1 else 0)) ++ Txt.mul (("(" ++ Txt.join "," (texts ps)) ++ ")") (if decide (ps ≠ []) = true then 1 else 0)
def texts : List Tr → List Str
  | [] => []
  | t :: r => t.text :: texts r
end
theorem texts_map (ts : List Tr) : texts ts = ts.map Tr.text := by
  induction ts with
  | nil => simp only [texts, List.map_nil]
  | cons t r ih => simp only [texts, List.map_cons, ih]
theorem mul0 (u : Str) : Txt.mul u 0 = ⟨#[]⟩ := rfl
theorem mul1 (u : Str) : Txt.mul u 1 = u := rfl
theorem num_len {o : Int} (h0 : 0 ≤ o) (h1 : o < 1000000) : (Str.ofString (toString o)).length ≤ 7 := by
  have := int_text_length_le10 (a := o) (k := 6) (by decide) (by omega)
  rw [PySem.ofString_length]
  omega
mutual
theorem text_len : ∀ {t : Tr}, TrOk t → t.text.length ≤ 20 * t.size
  | .mk n o ps, h => by
    obtain ⟨h1, h2, h3, h4, h5⟩ := h.parts
    have ih := texts_len h5
    have hn := h1.l6
    have ho := num_len h2 h3
    have e1 : (Str.ofString ":").length = 1 := by decide
    have e2 : (Str.ofString "(").length = 1 := by decide
    have e3 : (Str.ofString ")").length = 1 := by decide
    have e4 : (Str.ofString ",").length = 1 := by decide
    have hj : (Txt.join "," (texts ps)).length ≤ 20 * sizes ps + 1 := by
      have e : (Txt.join "," (texts ps)).length = ((texts ps).map (·.length)).sum + ((texts ps).length - 1) * 1 := by
        have := size_glued "," (texts ps)
        rw [e4] at this
        exact this
      have hl : (texts ps).length = ps.length := by rw [texts_map, List.length_map]
      omega
    have m1 : (Txt.mul (":" ++ Str.ofString (toString o)) (if decide (0 < o) = true then 1 else 0)).length ≤ 8 := by
      split
      · rw [mul1, strLen_append]; omega
      · rw [mul0]; show 0 ≤ _; omega
    have m2 : (Txt.mul (("(" ++ Txt.join "," (texts ps)) ++ ")") (if decide (ps ≠ []) = true then 1 else 0)).length ≤ 20 * sizes ps + 3 := by
      split
      · rw [mul1, strLen_append, strLen_append]; omega
      · rw [mul0]; show 0 ≤ _; omega
    simp only [Tr.text, Tr.size]
    rw [strLen_append, strLen_append]
    omega
theorem texts_len : ∀ {ts : List Tr}, TrsOk ts → ((texts ts).map (·.length)).sum ≤ 20 * sizes ts
  | [], _ => by simp [texts, sizes]
  | t :: r, h => by
    cases h with
    | cons a b =>
      have h1 := text_len a
      have h2 := texts_len b
      simp only [texts, sizes, List.map_cons, List.sum_cons]
      omega
end
theorem name_lay {n : Str} (h : NameOk n) : PyData.canLay0 (.str n) = true := by
  simp only [PyData.canLay0, PyData.strOk]
  rw [← Array.all_toList]
  refine List.all_eq_true.mpr fun c hc => ?_
  have := h.small c hc
  exact decide_eq_true (by omega)
mutual
theorem data_lay : ∀ {t : Tr}, TrOk t → PyData.canLay0 t.data = true ∧ t.data.depth = 2 * t.high
  | .mk n o ps, h => by
    obtain ⟨h1, _, _, _, h5⟩ := h.parts
    obtain ⟨a, b⟩ := datas_lay h5
    simp only [Tr.data, Tr.high, PyData.canLay0, PyData.canLayAll0, PyData.depth, PyData.depthAll]
    have := name_lay h1
    simp only [PyData.canLay0] at this
    rw [this, a]
    exact ⟨rfl, by omega⟩
theorem datas_lay : ∀ {ts : List Tr}, TrsOk ts → PyData.canLayAll0 (datas ts) = true ∧ PyData.depthAll (datas ts) = 2 * highs ts
  | [], _ => by simp [datas, highs, PyData.canLayAll0, PyData.depthAll]
  | t :: r, h => by
    cases h with
    | cons a b =>
      obtain ⟨c1, c2⟩ := data_lay a
      obtain ⟨d1, d2⟩ := datas_lay b
      simp only [datas, highs, PyData.canLayAll0, PyData.depthAll, c1, d1, c2, d2]
      exact ⟨rfl, by omega⟩
end
theorem parts_shaped {ts : List Tr} (h : TrsOk ts) (hh : highs ts ≤ 31) : SeqAt.shaped (.tuple (datas ts)) = true := by
  obtain ⟨a, b⟩ := datas_lay h
  unfold SeqAt.shaped
  simp only [PyData.canLay0, PyData.depth, a, b, Bool.true_and]
  exact decide_eq_true (by omega)
/-! ### more steps -/
section
variable {σ : L2.St} {H H0 : Hp} {K : PySem.W.Frag} {Q : VK} {p q b : Addr} {xs : List V} {m n : Int} {Ms M0 : List Addr} {L : List (Addr × HO)} {R : List Fa} {ds : List PyData} {o : HO}
/-- several ways to a value, one way on -/
theorem x_via {te : TE} (C : VK → Prop) (h : ∀ Q', C Q' → te σ H Q') (k : C Q) : te σ H Q := h Q k
/-- several ways through a statement, one way on -/
theorem x_seqVia {t1 t2 : TS} {D : Ends} (C : (L2.St → Hp → Prop) → Prop) (h : ∀ N, C N → t1 { D with nx := N } σ H) (k : C (t2 D)) : tSeq t1 t2 D σ H := h _ k
theorem x_mulB {u : Str} {b : Bool} (h : u.length ≤ 1000000) (k : Q (.str (Txt.mul u (if b = true then 1 else 0))) H) : rMulS (.str u) (.int (if b = true then 1 else 0)) H Q := by
  cases b
  · exact ⟨u, 0, rfl, rfl, by decide, by omega, k⟩
  · exact ⟨u, 1, rfl, rfl, by decide, by omega, k⟩
theorem x_neD {x y : V} {d e : PyData} (h1 : Dp K H x d) (h2 : Dp K H y e) (s1 : SeqAt.shaped d = true) (s2 : SeqAt.shaped e = true) (q : Q (.bl (!PyData.eqv d e)) H) : uNe K x y H Q := .inr ⟨d, e, h1, h2, s1, s2, q⟩
theorem x_eqD {x y : V} {d e : PyData} (h1 : Dp K H x d) (h2 : Dp K H y e) (s1 : SeqAt.shaped d = true) (s2 : SeqAt.shaped e = true) (q : Q (.bl (PyData.eqv d e)) H) : uEq K x y H Q := .inr ⟨d, e, h1, h2, s1, s2, q⟩
theorem x_strI {i : Int} (h : i.natAbs < 10 ^ 60) (k : Q (.str (Str.ofString (toString i))) H) : (fun (xs : List V) (H : Hp) (Q : VK) => ∃ i, xs = [.int i] ∧ i.natAbs.log2 < 1920 ∧ Q (.str (toString i)) H) [.int i] H Q := ⟨i, rfl, log_of h, k⟩
/-- a tree: its name, number and parts -/
theorem W.tree {v : V} {n : Str} {o : Int} {ps : List Tr} (hw : W K H0 Ms M0 H L R) (i : Nat) (h : R[i]? = some (.rp v (Tr.mk n o ps).data)) : ∃ a pt : Addr, v = .ref a ∧ W K H0 Ms M0 H L (.tp a [.str n, .int o, .ref pt] :: .rp (.ref pt) (.tuple (datas ps)) :: R) := by
  have h := hw.rep _ (List.mem_of_getElem? h)
  simp only [Tr.data] at h
  have h : Dd K (del H (av L M0)) v (.tuple [.str n, .int o, .tuple (datas ps)]) := h
  cases h with
  | @tup a xs _ q r =>
    obtain ⟨v1, vs, rfl, h1, r⟩ := RpAll.cons_inv (K := K) (M0 := av L M0) (H := H) r
    obtain ⟨v2, vs, rfl, h2, r⟩ := RpAll.cons_inv (K := K) (M0 := av L M0) (H := H) r
    obtain ⟨v3, vs, rfl, h3, r⟩ := RpAll.cons_inv (K := K) (M0 := av L M0) (H := H) r
    cases RpAll.nil_inv (K := K) (M0 := av L M0) (H := H) r
    cases Rp.str_inv h1
    cases Rp.int_inv h2
    have h3' := h3
    cases h3 with
    | @tup pt _ _ q3 r3 => exact ⟨a, pt, rfl, (hw.addF (r := .rp (.ref pt) (.tuple (datas ps))) h3').addF (r := .tp a _) q⟩
theorem ite_min (a b : Int) : (if b < a then b else a) = min a b := by
  rw [Int.min_def]
  split <;> split <;> omega
theorem ite_max (a b : Int) : (if b > a then b else a) = max a b := by
  rw [Int.max_def]
  split <;> split <;> omega
theorem x_minM (k : Q (.int (min m n)) H) : uMin K [.int m, .int n] H Q := x_min2 (by rw [ite_min]; exact k)
theorem x_maxM (k : Q (.int (max m n)) H) : uMax K [.int m, .int n] H Q := x_max2 (by rw [ite_max]; exact k)
theorem w_tupleA (hw : W K H0 Ms M0 H L R) (h : H p = some (.lst xs)) (hd : RpAll K (av L M0) H xs ds) (k : ∀ p H', H p = none → W K H0 Ms M0 H' L (.rp (.ref p) (.tuple ds) :: R) → Q (.ref p) H') : uTuple K [.ref p] H Q :=
  ⟨p, xs, rfl, .inl ⟨SqL.of h, fun l hl => k l _ hl (hw.newTup hl hd)⟩⟩
theorem W.knA (hw : W K H0 Ms M0 H L R) (i : Nat) (h : R[i]? = some (.kn p o)) : del H (av L M0) p = some o := hw.rep _ (List.mem_of_getElem? h)
theorem W.knNe (hw : W K H0 Ms M0 H L R) (i j : Nat) {o' : HO} (h : R[i]? = some (.kn p o)) (hj : L[j]? = some (b, o')) : p ≠ b := fun e => by
  have h1 := (del_some (hw.knA i h)).1
  exact h1 (List.mem_append_left _ (List.mem_map.mpr ⟨_, List.mem_of_getElem? hj, e.symm⟩))
/-- facts that don't touch M stand without b of M, too -/
theorem fa_in {M : List Addr} {r : Fa} (h : r.ok K (del H M)) (hb : b ∈ M) : r.ok K (del H (b :: M)) := Fa.ext (del_sub fun x hx => (List.mem_cons.mp hx).elim (fun e => e ▸ hb) id) h
end
end Fw
namespace Fw
open PySem PySem.Spec PyProof.Rows L2
theorem DdAll.item {K : PySem.W.Frag} {H : Hp} : ∀ {vs : List V} {ds : List PyData} {i : Nat} {v : V}, DdAll K H vs ds → vs[i]? = some v → ∃ d, ds[i]? = some d ∧ Dd K H v d
  | _, _, _, _, .nil, e => by simp at e
  | _, _, 0, _, .cons a _, e => by simp at e; subst e; exact ⟨_, rfl, a⟩
  | _, _, i + 1, _, .cons _ b, e => by
    obtain ⟨d, h1, h2⟩ := DdAll.item (i := i) b (by simpa using e)
    exact ⟨d, by simpa using h1, h2⟩
theorem texts_take {ps : List Tr} {i : Nat} {t : Tr} (h : ps[i]? = some t) : texts (ps.take (i + 1)) = texts (ps.take i) ++ [t.text] := by
  rw [texts_map, texts_map, List.take_add_one, h, List.map_append]
  rfl
end Fw
namespace Fw
open PySem PySem.Spec PyProof.Rows L2
section
variable {σ : L2.St} {H : Hp} {Q : VK} {K : PySem.W.Frag} {c : TT} {tb : TS} {D : Ends} {i m : Nat}
/-! ### while -/
def WhB (I : Nat → L2.St → Hp → Prop) (m : Nat) (tb : TS) (D : Ends) (σ : L2.St) (H1 : Hp) : Prop :=
  ∃ N : L2.St → Hp → Prop, (∀ σ' H', N σ' H' → ∃ m', m' < m ∧ I m' σ' H') ∧ tb { D with nx := N, ct := N, bk := D.nx } σ H1
theorem w_while (I : Nat → L2.St → Hp → Prop) (m0 : Nat) (h0 : I m0 σ H) (hs : ∀ m σ H, I m σ H → c σ H fun b H1 => if b = true then WhB I m tb D σ H1 else D.nx σ H1) : tWhile c tb D σ H := ⟨I, ⟨m0, h0⟩, hs⟩
theorem x_whB {I : Nat → L2.St → Hp → Prop} (k : tb (Ends.mk (fun σ' H' => ∃ m', m' < m ∧ I m' σ' H') D.rt D.nx (fun σ' H' => ∃ m', m' < m ∧ I m' σ' H')) σ H) : WhB I m tb D σ H := ⟨_, fun _ _ h => h, k⟩
theorem x_aug {te : TE} {ti : TIp} {x : V} (h : σ[i]? = some (some x)) (k : te σ H fun y H1 => ti x y H1 fun z H2 => D.nx (σ.set i (some z)) H2) : tAug i te ti D σ H := ⟨x, h, k⟩
theorem x_ipI {f : Int → Int → Int} {a b : Int} (k : Q (.int (f a b)) H) : ipI f (.int a) (.int b) H Q := ⟨a, b, rfl, rfl, k⟩
theorem x_orT {ta tc : TE} (k : ta σ H fun x H1 => ∃ k, TruV K x H1 k ∧ if k = true then Q x H1 else tc σ H1 Q) : tOrT K ta tc σ H Q := k
theorem x_truS {u : Str} {F : Bool → Prop} (h : u.length ≤ 1000000) (k : F (decide (u.length ≠ 0))) : ∃ c, TruV K (.str u) H c ∧ F c := by
  refine ⟨_, ⟨Nat.le_trans h (by rw [sizeLine_eq]; decide), rfl⟩, ?_⟩
  have e : ((u.length : Int) != 0) = decide (u.length ≠ 0) := by
    by_cases z : u.length = 0
    · rw [z]; rfl
    · rw [decide_eq_true z]
      simpa using z
  rw [e]
  exact k
end
theorem pe_orK {X : Cx} {K : PySem.W.Frag} {a b : Expr} {rest : List Expr} {ta tb : TE} {pos : Pos} (ha : PE X a ta) (hb : PE X (.BoolOp .Or (b :: rest) pos) tb) (hK : X.K = K := by rfl) : PE X (.BoolOp .Or (a :: b :: rest) pos) (tOrT K ta tb) := hK ▸ pe_orT ha hb
end Fw
namespace Fw
open PySem PySem.Spec PyProof.Rows L2
section
variable {K : PySem.W.Frag} {H0 H H' : Hp} {Ms M0 : List Addr} {L L' : List (Addr × HO)} {R R' : List Fa} {a b c : Addr × HO}
/-- all cells handed on; they stay where they are -/
theorem W.handM (w : W K H0 Ms M0 H L R) : W K H (L.map (·.1)) (L.map (·.1) ++ M0) H L R := by
  refine ⟨Ex.refl, fun x hx => ?_, w.nd, w.cell, fun p hp => .inl (List.mem_map.mpr ⟨p, hp, rfl⟩), fun r hr => Fa.ext (del_sub fun x hx => ?_) (w.rep r hr)⟩
  · exact w.alloc' x hx
  · rcases List.mem_append.mp hx with z | z
    · exact List.mem_append_left _ z
    · exact z
theorem W.lessM {A : List Addr} (w : W K H0 Ms (A ++ M0) H L R) : W K H0 Ms M0 H L R := by
  refine ⟨w.ex, fun x hx => w.al x (List.mem_append_right _ hx), w.nd, w.cell, fun p hp => ?_, fun r hr => Fa.ext (del_sub fun x hx => ?_) (w.rep r hr)⟩
  · exact (w.own p hp).imp id fun z => ⟨z.1, fun y => z.2 (List.mem_append_right _ y)⟩
  · rcases List.mem_append.mp hx with z | z
    · exact List.mem_append_left _ z
    · exact List.mem_append_right _ (List.mem_append_right _ z)
theorem W.backM (w : W K H0 Ms M0 H L R) (w' : W K H (L.map (·.1)) (L.map (·.1) ++ M0) H' L' R') : W K H0 Ms M0 H' L' (R' ++ R) := w.back w'.lessM
theorem W.exBack (w : W K H0 Ms M0 H L R) (e : Ex (L.map (·.1)) H H') : Ex Ms H0 H' := fun x o n z => by
  refine e x o (fun hx => ?_) (w.ex x o n z)
  obtain ⟨q, hq, rfl⟩ := List.mem_map.mp hx
  rcases w.own q hq with h | h
  · exact n h
  · exact nomatch h.1.symm.trans z
theorem W.fresh2 {p : Addr} (w : W K H0 Ms M0 H L R) (h : H p = none) (hs : ∀ x ∈ Ms, x ∈ M0) : H0 p = none := w.fresh h fun z => w.al p (hs p z) h
theorem W.rotL (w : W K H0 Ms M0 H (a :: b :: c :: L) R) : W K H0 Ms M0 H (b :: c :: a :: L) R := w.perm (by
  refine .trans (.cons b (.swap a c L)) ?_
  exact .swap a b (c :: L))
theorem W.rotR (w : W K H0 Ms M0 H (a :: b :: c :: L) R) : W K H0 Ms M0 H (c :: a :: b :: L) R := w.perm (by
  refine .trans (.swap a c (b :: L)) ?_
  exact .cons a (.swap b c L))
end
end Fw
namespace Fw
open PySem PySem.Spec PyProof.Rows L2
/-! ### an own exception class called: the exception as a value -/
section
variable {M : Model} {A : Around} {E : Value → Shared → Prop} {h : Heap} {g : Array GenState} {d : Drawn} {t : Nat} {os : OsState} {nm q : Str} {C N0 : Addr} {bs bm tN : List Value} {hdct : Bool} {sn : List Str} {sub : List Value} {ab : Bool} {col : Option Bool} {dd : Option Addr} {k0 k1 k2 k3 k5 : Option Value} {x : Str} {B N nI iI iN : String} {tl : List Value} {kw : List (Str × Value)}
theorem ask_newK (F : ExcBaseFacts N nI iN tN) (hN : bm.contains (.type N) = true) {rest : List Value} {Q : Unit → Shared → Prop} (hC : h.get? C = some (excClassObj nm q C N0 bs bm hdct sn sub ab col dd k0 k1 k2 k3 k5 nI)) (hq : Q () ⟨h, g, d, t, os⟩) :
    wpAny M A (checkBuiltinCall nI ⟨.ref C :: rest, kw⟩) Q E ⟨h, g, d, t, os⟩ := by
  have has : (Value.ref C :: bm).contains (.type N) = true := by rw [List.contains_cons, hN, Bool.or_true]
  have star := F.noStar
  simp only [checkBuiltinCall, F.newKind, F.newSplit, F.newRow]
  repeat (first | refine wpAny_loadPart_at hC ?_ | (refine wpAny_isSubtype_exc hC ?_; rw [has]) | refine wpAny_staticBase_exc hC ?_ | refine wpAny_madeBy_exc hC ?_ | simp only [bne_self_eq_false, Bool.false_eq_true, if_false] | wp_step)
  exact hq
theorem ask_typeK {rest : List Value} {Q : Unit → Shared → Prop} (hC : h.get? C = some (excClassObj nm q C N0 bs bm hdct sn sub ab col dd k0 k1 k2 k3 k5 nI))
    (hq : Q () ⟨h, g, d, t, os⟩) : wpAny M A (checkBuiltinCall "type.__call__" ⟨.ref C :: rest, kw⟩) Q E ⟨h, g, d, t, os⟩ := by
  have f3 := tc_sub
  have hT : (⟨h, g, d, t, os⟩ : Shared).TypeIs (.ref C) "type" := ⟨_, hC, rfl⟩
  simp only [checkBuiltinCall, tc_kind, tc_split]
  repeat (any_goals (first | assumption | with_reducible refine wpAny_loadPart_at hC ?_ | with_reducible refine wpAny_onRaise ?_ | with_reducible refine wpAny_map ?_ | wp_step))
end
section
variable {prog : Program} {w : World} {A : Around} {E : Value → Shared → Prop} {R : Result → Shared → Prop} {h : Heap} {g : Array GenState} {d : Drawn} {t : Nat} {os : OsState} {nm q : Str} {C N0 : Addr} {bs bm tN : List Value} {hdct : Bool} {sn : List Str} {sub : List Value} {ab : Bool} {col : Option Bool} {dd : Option Addr} {k0 k1 k2 k3 k5 : Option Value} {x : Str} {B N nI iI iN : String} {tl : List Value} {kw : List (Str × Value)}
theorem run_newKw (F : ExcBaseFacts N nI iN tN) (hN : bm.contains (.type N) = true) (hA : bm.contains (.type "AttributeError") = false) (hM : bm.contains (.type "NameError") = false) {rest : List Value} (hC : h.get? C = some (excClassObj nm q C N0 bs bm hdct sn sub ab col dd k0 k1 k2 k3 k5 nI))
    (hq : R (.ok (.ret (.ref (h.objs.size + 1)))) ⟨(h.push (PySem.W.kdv_tup rest)).push (PySem.HandSPX.excO C h.objs.size), g, d, t, os⟩) (hrest : rest.length ≤ sizeLine) :
    codeAny (model prog w) A (.builtin nI ⟨.ref C :: rest, kw⟩) R ⟨h, g, d, t, os⟩ := by
  have ends := F.ends
  have has : (Value.ref C :: bm).contains (.type N) = true := by rw [List.contains_cons, hN, Bool.or_true]
  have noa : (Value.ref C :: bm).contains (.type "AttributeError") = false := by rw [List.contains_cons, hA]; rfl
  have non : (Value.ref C :: bm).contains (.type "NameError") = false := by rw [List.contains_cons, hM]; rfl
  refine codeAny_builtinAt F.entry ?_
  unfold Builtin.«BaseException.__new__»
  refine PySem.wpAt_bind ?_
  show PySem.wpAt _ _ _ (stack >>= _) _ _ _
  refine PySem.wpAt_bind (PySem.wpAt_stack fun p below => PySem.wpAt_of_wpAny ?_)
  wp_walk
  refine PySem.wpAt_of_wpAny ?_
  rw [F.owner]
  repeat (first | with_reducible refine wpAny_madeHere_exc F.canon hC ?_ | with_reducible refine wpAny_loadPart_at hC ?_ | (with_reducible refine wpAny_isSubtype_exc hC ?_; first | rw [has] | rw [noa] | rw [non]) | wp_step)
  show R _ _
  rw [Heap.size_push]
  exact hq
theorem run_clsK (F : ExcBaseFacts N nI iN tN) (hN : bm.contains (.type N) = true) (hA : bm.contains (.type "AttributeError") = false) (hM : bm.contains (.type "NameError") = false) {rest : List Value} {fI : Addr} (hC : h.get? C = some (excClassObj nm q C N0 bs bm hdct sn sub ab col dd k0 k1 k2 k3 k5 nI))
    (hi : PySem.W.Looks (model prog w) h (typeLookup (.ref C) "__init__") (some (.ref fI))) (hb : ∀ self, PySem.W.Looks (model prog w) h (bindSpecial (.ref fI) self) (.ref fI, [self])) (hrest : rest.length ≤ sizeLine)
    (hq : codeAny (model prog w) (A.under (.builtin "type.__call__" ⟨.ref C :: rest, kw⟩)) (.call (.ref fI) ⟨.ref (h.objs.size + 1) :: rest, kw⟩) (PySem.W.InitBack (h.objs.size + 1) R) ⟨(h.push (PySem.W.kdv_tup rest)).push (PySem.HandSPX.excO C h.objs.size), g, d, t, os⟩) :
    codeAny (model prog w) A (.call (.ref C) ⟨rest, kw⟩) R ⟨h, g, d, t, os⟩ := by
  have f1 := tc_lookup
  have f2 := tc_bind (.ref C)
  have isT : (⟨h, g, d, t, os⟩ : Shared).TypeIs (.ref C) "type" := ⟨_, hC, rfl⟩
  refine codeAny_of_tree ?_
  show wpAny _ _ (callAny (.ref C) _) _ _ _
  repeat (any_goals (first | assumption | with_reducible refine wpAny_loadPart_at hC ?_ | wp_step))
  refine ⟨rfl, codeAny_call_builtin_at (Code.quiet_builtin _ (by decide +kernel)) entry_typeCall (ask_typeK hC ?_)⟩
  show wpAny _ _ (Builtin.«type.__call__» ⟨.ref C :: rest, kw⟩) _ _ _
  repeat (first | with_reducible refine wpAny_loadPart_at hC ?_ | with_reducible refine wpAny_madeBy_exc hC ?_ | wp_step)
  refine codeAny_call_builtin_code (Code.quiet_builtin _ F.quiet) (ask_newK F hN hC (run_newKw F hN hA hM hC ?_ hrest))
  show wpAny _ _ _ _ _ _
  have k : ∀ b o, h.get? b = some o → ((h.push (PySem.W.kdv_tup rest)).push (PySem.HandSPX.excO C h.objs.size)).get? b = some o := fun b o e => Heap.get?_push_of_some _ (Heap.get?_push_of_some _ e)
  have hC1 := k _ _ hC
  have hget : ((h.push (PySem.W.kdv_tup rest)).push (PySem.HandSPX.excO C h.objs.size)).get? (h.objs.size + 1) = some (PySem.HandSPX.excO C h.objs.size) := by heap_get
  have me : (Value.ref C :: bm).contains (.ref C) = true := by simp
  unfold isInstance
  repeat (first | with_reducible refine wpAny_loadPart_at hget ?_ | (with_reducible refine wpAny_isSubtype_exc hC1 ?_; rw [me]) | wp_step)
  show wpAny _ _ (typeLookup (.ref C) _) _ _ _
  refine (hi.keeps k).at (wpAny_holding (wpAny_bind (((hb (.ref (h.objs.size + 1))).keeps k).at (wpAny_bind (wpAny_call (codeAny_mono hq fun r s' z => ?_))))))
  rcases r with e | (v | _ | _ | _) <;> first | exact z | exact z.elim | skip
  obtain ⟨rfl, z⟩ := z
  first
    | exact wpAny_pure (wpAny_pure z)
    | (wp_walk; exact z)
end
/-- the class at C, called x, its own __init__ laying the fields fs: n things by place, those of ks by name -/
structure Cl (P : Program) (w : World) (K : PySem.W.Frag) (mg : Str → Option Value) (base : Heap) (x : Str) (C : Addr) (n : Nat) (ks : List Str) (fs : List V → List V → List (Str × V)) : Prop where
  ex : ∃ (fI : Addr) (fd : FuncData) (ps : List Str) (g : List Value → List Value → List Value) (gV : List V → List V → List V) (sp : Sp) (xB : Str) (B nI iI : String) (tl : List Value), Bs xB B nI iI tl ∧ Own K C nI tl ∧
    PySem.W.findIn K (.ref C) "__init__" = some (some (.ref fI)) ∧ PySem.W.typeIn K (.ref fI) = some (.type "function") ∧ FnOk P w K mg base CX0 1 fI fd ps sp ∧ KBn K fd ps (n + 1) ks g gV ∧ mg x = some (.ref C) ∧ n ≤ 1000 ∧
    ∀ (vs zs : List V) (a : Addr) (H : Hp) (Q : VK) (E : XK), vs.length = n → zs.length = ks.length → H a = none → (∀ d, H d = none → d ≠ a → Q .non (upd (upd H d (exd d (fs vs zs))) a (exo a C (some d)))) → sp (gV (.ref a :: vs) zs) (upd H a (exo a C none)) Q E
def MkK (C : Addr) (fs : List (Str × V)) (H : Hp) (Q : VK) : Prop := ∀ a d, H a = none → H d = none → d ≠ a → Q (.ref a) (upd (upd H d (.xd fs)) a (exk a (.ref C) (some d)))
def tMade (C : Addr) (n m : Nat) (fs : List V → List V → List (Str × V)) (ta tk : TA) : TE := fun σ H Q => ta σ H fun vs H1 => tk σ H1 fun zs H2 => vs.length = n ∧ zs.length = m ∧ MkK C (fs vs zs) H2 Q
theorem x_made {C : Addr} {n m : Nat} {fs : List V → List V → List (Str × V)} {ta tk : TA} {σ : L2.St} {H : Hp} {Q : VK} (q : ta σ H fun vs H1 => tk σ H1 fun zs H2 => vs.length = n ∧ zs.length = m ∧ MkK C (fs vs zs) H2 Q) : tMade C n m fs ta tk σ H Q := q
section
variable {X : Cx} {x : Str} {C : Addr} {n j : Nat} {ks : List Str} {fs : List V → List V → List (Str × V)} {e : Expr} {es : List Expr} {kws : List Keyword} {ta tk : TA} {p pos : Pos}
theorem run_made {pins : List (Addr × Obj)} {σ : L2.St} {H : Hp} {s : Shared} {Q : VK} {us ws : List Value} {vs zs : List V} (F : Cl X.prog X.w X.K X.mg X.base x C n ks fs) (hr : Room j X.A) (hk : 2 ≤ j) (hx : Passes CX0 X (fun _ _ _ => False))
    (I : Inv X pins σ H s) (r : Vals vs us) (rz : Vals zs ws) (l1 : vs.length = n) (l2 : zs.length = ks.length)
    (q : ∀ a d, H a = none → H d = none → d ≠ a → Q (.ref a) (upd (upd H d (.xd (fs vs zs))) a (exk a (.ref C) (some d)))) : wpAny (model X.prog X.w) X.A (call (.ref C) us (ks.zip ws)) (EP X pins σ Q) X.xe s := by
  obtain ⟨fI, fd, ps, g, gV, sp, xB, B, nI, iI, tl, F, T, iC, tI, F1, hb, hm, hn, hsp⟩ := F.ex
  obtain ⟨nm, N, qn, bs, bm, hd, sn, sub, ab, col, dd, k0, k1, k2, k3, k5, hC, hT⟩ := PySem.W.excInit_of I.kIn T.inn
  obtain ⟨hp, g0, dr, tk, os⟩ := s
  have hsz : hp.objs.size ≤ hp.objs.size + 1 := Nat.le_succ _
  have kk : ∀ b o, hp.get? b = some o → ((hp.push (PySem.W.kdv_tup us)).push (PySem.HandSPX.excO C hp.objs.size)).get? b = some o := fun b o e => Heap.get?_push_of_some _ (Heap.get?_push_of_some _ e)
  have hget : ((hp.push (PySem.W.kdv_tup us)).push (PySem.HandSPX.excO C hp.objs.size)).get? (hp.objs.size + 1) = some (PySem.HandSPX.excO C hp.objs.size) := by heap_get
  have hna : H (hp.objs.size + 1) = none := I.hok.fresh hsz
  have I2 := I.laid (t' := tk) (a := hp.objs.size + 1) (o := exo (hp.objs.size + 1) C none) kk hsz (exo_ok hget)
  have r1 : Vals (V.ref (hp.objs.size + 1) :: vs) (Value.ref (hp.objs.size + 1) :: us) := .cons rfl r
  have r2 := hb.rel r1 rz
  have hus : us.length ≤ sizeLine := by rw [← Paired.length r, sizeLine_eq]; omega
  have bd := hb.to ⟨(hp.push (PySem.W.kdv_tup us)).push (PySem.HandSPX.excO C hp.objs.size), g0, dr, tk, os⟩ (Value.ref (hp.objs.size + 1) :: us) ws I2.kIn (by rw [List.length_cons, ← Paired.length r, l1]) (rz.length.symm.trans l2)
  obtain ⟨N, iN, tN, FN, hN⟩ := F.new
  have hq := hsp vs zs (hp.objs.size + 1) H (fun v H2 => v = .non ∧ ∃ (d : Addr), H2 (hp.objs.size + 1) = some (exo (hp.objs.size + 1) C (some d)) ∧ H2 d = some (exd d (fs vs zs)) ∧ H d = none ∧ d ≠ hp.objs.size + 1 ∧ H2 = upd (upd H d (exd d (fs vs zs))) (hp.objs.size + 1) (exo (hp.objs.size + 1) C (some d))) (fun _ _ _ => False) l1 l2 hna
    (fun d h1 h2 => ⟨rfl, d, upd_same, (upd_ne h2).trans upd_same, h1, h2, rfl⟩)
  refine wpAny_call (run_clsK FN ((hT _).trans hN) ((hT _).trans F.noA) ((hT _).trans F.noN) hC (PySem.W.looks_findIn I.kIn iC) (fun self => PySem.W.bind_fn I.kIn self tI) hus
    (codeAny_mono (F1.run _ X.stack _ _ ⟨Value.ref (hp.objs.size + 1) :: us, ks.zip ws⟩ _ _ _ (fun _ _ _ => False) ((hr.mono hk).make C us (ks.zip ws)) (I2.env0.make C us (ks.zip ws)) bd r2 hq) fun r s' hq' => ?_))
  cases r with
  | error er => exact hx pins σ _ _ er s' I2 hq'
  | ok fl =>
    cases fl with
    | ret u =>
      obtain ⟨v, H2, os2, bare2, un2, hok2, rv, ev, d, ea, ed, hd1, hne, eH⟩ := hq'
      subst ev
      obtain ⟨h2, g2, d2, t2, os'⟩ := s'
      obtain ⟨t0, G, J, kG, ge, hoe, na⟩ := mk_end0 (d2 := d2) (t2 := t2) I hsz kk un2 hok2 os2 bare2 ea ed hd1
      have J2 := J.laidN (h' := h2) (t' := t2) (o := exk (hp.objs.size + 1) (.ref C) (some d)) kG ge na (exk_ok hoe ⟨rfl, rfl⟩ rfl)
      refine ⟨rv, V.ref (hp.objs.size + 1), _, J2, rfl, ?_⟩
      have e : upd (upd (L2.del H2 (hp.objs.size + 1)) d (.xd (fs vs zs))) (hp.objs.size + 1) (exk (hp.objs.size + 1) (.ref C) (some d)) = upd (upd H d (.xd (fs vs zs))) (hp.objs.size + 1) (exk (hp.objs.size + 1) (.ref C) (some d)) := by
        funext b
        by_cases h1 : b = hp.objs.size + 1
        · rw [h1, upd_same, upd_same]
        · rw [upd_ne h1, upd_ne h1]
          by_cases h2 : b = d
          · rw [h2, upd_same, upd_same]
          · rw [upd_ne h2, upd_ne h2, del_ne h1, eH, upd_ne h1, upd_ne h2]
      rw [e]
      exact q _ d hna hd1 hne
    | next => exact False.elim hq'
    | brk => exact False.elim hq'
    | cont => exact False.elim hq'
theorem pe_made (F : Cl X.prog X.w X.K X.mg X.base x C n [] fs) (hr : Room j X.A) (hk : 2 ≤ j) (hx : Passes CX0 X (fun _ _ _ => False)) (hg : Gl X x) (ha : PA X (e :: es) ta)
    (hdb : (x == ("__debug__" : Str)) = false := by decide) (he : starEach (e :: es) X.env = (false, eval e X.env) :: starEach es X.env := by rfl) (hpl : (backTo pos (starEach es X.env)).any (·.1) = false := by rfl) :
    PE X (.Call (.Name x p) (e :: es) [] pos) (tMade C n 0 fs ta tNil) := by
  obtain ⟨fI, fd, ps, g, gV, sp, xB, B, nI, iI, tl, _, T, _, _, _, _, hm, _⟩ := F.ex
  refine ⟨fun pins s σ H Q I h => ?_⟩
  refine wpAny_Call_Name_kw (ld_glob I hg hm ?_ hdb)
  refine PySem.W.callWith_K (h₀ := X.base) I.ok.mod.kin T.kp (thn (ha.run pos pins s σ H _ I h) fun us s1 ⟨vs, H1, I1, r1, l1, l2, q1⟩ => ⟨I1.kIn, ?_⟩) he hpl
  exact run_made (ws := []) F hr hk hx I1 r1 .nil l1 l2 q1
theorem pe_madeK (F : Cl X.prog X.w X.K X.mg X.base x C 0 ks fs) (hr : Room j X.A) (hk : 2 ≤ j) (hx : Passes CX0 X (fun _ _ _ => False)) (hg : Gl X x) (hkw : PK X kws tk) (hall : (backToKw pos (keywordEach kws X.env)).all (·.1.isSome) = true := by rfl) (hks : (backToKw pos (keywordEach kws X.env)).filterMap (·.1) = ks := by rfl)
    (hdb : (x == ("__debug__" : Str)) = false := by decide)
    (hpl : ((backTo pos (starEach [] X.env)).any (·.1) || (backToKw pos (keywordEach kws X.env)).any (·.1.isNone)) = false := by rfl) :
    PE X (.Call (.Name x p) [] kws pos) (tMade C 0 ks.length fs tNil tk) := by
  obtain ⟨fI, fd, ps, g, gV, sp, xB, B, nI, iI, tl, _, T, _, _, _, _, hm, _⟩ := F.ex
  refine ⟨fun pins s σ H Q I h => ?_⟩
  refine wpAny_Call_Name_kw (ld_glob I hg hm ?_ hdb)
  refine PySem.W.callWith_KW0 (h₀ := X.base) I.ok.mod.kin T.kp hall ?_ hpl
  refine thn (hkw.run pos pins s σ H _ I h) fun ws s2 ⟨zs, H2, I2, rz, l1, l2, q2⟩ => ⟨I2.kIn, ?_⟩
  rw [hks]
  exact run_made (us := []) F hr hk hx I2 .nil rz l1 l2 q2
end
/-! ### exceptions as things -/
/-- v is an exception of the class at C with the fields fs -/
def ob (v : V) (C : Addr) (fs : List (Str × V)) (H : Hp) : Prop := ∃ a d : Addr, v = .ref a ∧ H a = some (exk a (.ref C) (some d)) ∧ H d = some (.xd fs)
theorem ob_mono {v : V} {C : Addr} {fs : List (Str × V)} {H H' : Hp} (e : Ext H H') (h : ob v C fs H) : ob v C fs H' := by
  obtain ⟨a, d, h1, h2, h3⟩ := h
  exact ⟨a, d, h1, e _ _ h2, e _ _ h3⟩
abbrev Fa.ob (v : V) (C : Addr) (fs : List (Str × V)) : Fa := .px (Fw.ob v C fs) ob_mono
section
variable {K : PySem.W.Frag} {H0 H : Hp} {Ms M0 : List Addr} {L : List (Addr × HO)} {R : List Fa} {C : Addr} {fs : List (Str × V)} {Q : VK} {v : V}
theorem W.ob (w : W K H0 Ms M0 H L R) (i : Nat) (h : R[i]? = some (.ob v C fs)) : Fw.ob v C fs H := ob_mono del_all (w.px i h)
theorem W.addX {q : Hp → Prop} {m : ∀ {H H' : Hp}, Ext H H' → q H → q H'} (w : W K H0 Ms M0 H L R) (h : q (del H (av L M0))) : W K H0 Ms M0 H L (.px q m :: R) := w.addF (r := .px q m) h
theorem w_made (hw : W K H0 Ms M0 H L R) (q : ∀ v H', W K H0 Ms M0 H' L (.ob v C fs :: R) → Q v H') :
    MkK C fs H Q := by
  refine fun a d ha hd hne => q _ _ ?_
  have w1 := hw.new hd (.xd fs)
  have ha1 : upd H d (.xd fs) a = none := by rw [upd_ne (Ne.symm hne)]; exact ha
  have w2 := w1.new ha1 (exk a (.ref C) (some d))
  have w3 := (w2.keep fun z => hw.al a z ha).keep fun z => hw.al d z hd
  exact (w3.addX (q := Fw.ob (.ref a) C fs) (m := ob_mono) ⟨a, d, rfl, w3.knA 1 rfl, w3.knA 0 rfl⟩).sub fun r hr => by
    rcases List.mem_cons.mp hr with rfl | hr
    · exact List.mem_cons_self ..
    · exact List.mem_cons_of_mem _ (List.mem_cons_of_mem _ (List.mem_cons_of_mem _ hr))
theorem x_isO {c : V} {u : Value} {b : Bool} {nI : String} {tl : List Value} (h : Fw.ob v C fs H) (T : Own K C nI tl) (k : ClsV c u) (e : PySem.W.kitOne K (.ref C) u = some b) (q : Q (.bl b) H) : uIsX K [v, c] H Q := by
  obtain ⟨a, d, rfl, h2, h3⟩ := h
  exact ⟨a, C, d, nI, tl, fs, b, h2, h3, T, q, .inl ⟨c, u, rfl, k, e⟩⟩
theorem x_fldO {f : Str} {y : V} {nI : String} {tl : List Value} (h : Fw.ob v C fs H) (T : Own K C nI tl) (hf : PySem.W.findIn K (.ref C) f = some none) (hl : fs.lookup f = some y) (q : Q y H) :
    ∃ (a C dd : Addr) (nI : String) (tl : List Value) (fs : List (Str × V)) (z : V), v = .ref a ∧ H a = some (exk a (.ref C) (some dd)) ∧ H dd = some (.xd fs) ∧ Own K C nI tl ∧ PySem.W.findIn K (.ref C) f = some none ∧ fs.lookup f = some z ∧ Q z H := by
  obtain ⟨a, d, rfl, h2, h3⟩ := h
  exact ⟨a, C, d, nI, tl, fs, y, rfl, h2, h3, T, hf, hl, q⟩
end
/-! the two makes of classes -/
section
variable {P : Program} {w : World} {K : PySem.W.Frag} {mg : Str → Option Value} {base : Heap} {x f g xB : Str} {C fI : Addr} {fd : FuncData} {B nI iI : String} {tl : List Value} {n : Nat} {ks : List Str}
def fs1 (f : Str) (l : List V) : List (Str × V) := [(f, l.headD .non)]
def fs2 (f g : Str) (l : List V) : List (Str × V) := [(g, l.getD 1 .non), (f, l.headD .non)]
theorem cl1 (F : Bs xB B nI iI tl) (T : Own K C nI tl) (iC : PySem.W.findIn K (.ref C) "__init__" = some (some (.ref fI))) (tI : PySem.W.typeIn K (.ref fI) = some (.type "function")) (F1 : FnOk P w K mg base CX0 1 fI fd ["self", f] (spInit1 C f)) (hm : mg x = some (.ref C))
    (hb : KBn K fd ["self", f] (n + 1) ks (fun us ws => us ++ ws) (fun vs zs => vs ++ zs)) (hn : n + ks.length = 1) : Cl P w K mg base x C n ks (fun vs zs => fs1 f (vs ++ zs)) := by
  refine ⟨fI, fd, _, _, _, _, xB, B, nI, iI, tl, F, T, iC, tI, F1, hb, hm, by omega, fun vs zs a H Q E l1 l2 ha q => ?_⟩
  have hl : (vs ++ zs).length = 1 := by rw [List.length_append]; omega
  obtain ⟨v, e⟩ : ∃ v, vs ++ zs = [v] := by
    match vs ++ zs, hl with
    | [v], _ => exact ⟨v, rfl⟩
  refine ⟨a, v, by rw [List.cons_append, e], upd_same, fun d hd hne => ?_⟩
  rw [upd_ne hne] at hd
  have h := q d hd hne
  rw [e] at h
  have e2 : upd (upd (upd H a (exo a C none)) d (exd d [(f, v)])) a (exo a C (some d)) = upd (upd H d (exd d [(f, v)])) a (exo a C (some d)) := by
    funext b
    by_cases h1 : b = a
    · rw [h1, upd_same, upd_same]
    · rw [upd_ne h1, upd_ne h1]
      by_cases h2 : b = d
      · rw [h2, upd_same, upd_same]
      · rw [upd_ne h2, upd_ne h2, upd_ne h1]
  rw [e2]
  exact h
theorem cl2 (F : Bs xB B nI iI tl) (T : Own K C nI tl) (iC : PySem.W.findIn K (.ref C) "__init__" = some (some (.ref fI))) (tI : PySem.W.typeIn K (.ref fI) = some (.type "function")) (F1 : FnOk P w K mg base CX0 1 fI fd ["self", f, g] (spInit2 C f g)) (hm : mg x = some (.ref C))
    (hb : KBn K fd ["self", f, g] (n + 1) ks (fun us ws => us ++ ws.reverse) (fun vs zs => vs ++ zs.reverse)) (hn : n + ks.length = 2) : Cl P w K mg base x C n ks (fun vs zs => fs2 f g (vs ++ zs.reverse)) := by
  refine ⟨fI, fd, _, _, _, _, xB, B, nI, iI, tl, F, T, iC, tI, F1, hb, hm, by omega, fun vs zs a H Q E l1 l2 ha q => ?_⟩
  have hl : (vs ++ zs.reverse).length = 2 := by rw [List.length_append, List.length_reverse]; omega
  obtain ⟨v, y, e⟩ : ∃ v y, vs ++ zs.reverse = [v, y] := by
    match vs ++ zs.reverse, hl with
    | [v, y], _ => exact ⟨v, y, rfl⟩
  refine ⟨a, v, y, by rw [List.cons_append, e], upd_same, fun d hd hne => ?_⟩
  rw [upd_ne hne] at hd
  have h := q d hd hne
  rw [e] at h
  have e2 : upd (upd (upd (upd H a (exo a C none)) d (exd d [(f, v)])) a (exo a C (some d))) d (exd d [(g, y), (f, v)]) = upd (upd H d (exd d [(g, y), (f, v)])) a (exo a C (some d)) := by
    funext b
    by_cases h2 : b = d
    · rw [h2, upd_same, upd_ne hne, upd_same]
    · rw [upd_ne h2]
      by_cases h1 : b = a
      · rw [h1, upd_same, upd_same]
      · rw [upd_ne h1, upd_ne h1, upd_ne h2, upd_ne h2, upd_ne h1]
  rw [e2]
  exact h
end
end Fw
namespace Fw
open PySem PySem.Spec PyProof.Rows L2
/-! ### further steps -/
theorem x_gSub {to ti : TE} {t : TSet} {v : V} {σ : L2.St} {H : Hp} {QS : L2.St → Hp → Prop} (q : to σ H fun o H2 => ti σ H2 fun k H3 => t o k v H3 fun H4 => QS σ H4) : gSub to ti t v σ H QS := q
theorem x_iZipA {K : PySem.W.Frag} {ta : TA} {σ : L2.St} {H : Hp} {R : It → Hp → Prop} (q : ta σ H fun vs H1 => ∃ a b xs ys, vs = [.ref a, .ref b] ∧ ((SqL K H1 a xs ∧ SqL K H1 b ys ∧ R (Itz K a b) H1) ∨ (SqT K H1 a xs ∧ SqT K H1 b ys ∧ R (RZ.ItzT K a b) H1))) : RZ.iZipA K ta σ H R := q
theorem walk_zipT {K : PySem.W.Frag} {a b : Addr} {xs ys : List V} {n : Nat} (hn : n = min xs.length ys.length) : Walk (RZ.ItzT K a b) n (fun H => SqT K H a xs ∧ SqT K H b ys) (YPair (fun i => xs[i]?) (fun i => ys[i]?)) := by
  subst hn
  refine ⟨fun i _ hi q => ?_, fun _ q => ⟨xs, ys, q.1, q.2, by omega⟩, fun i H v H' _ q y => ?_⟩
  · have h1 : i < xs.length := by omega
    have h2 : i < ys.length := by omega
    exact ⟨xs, ys, xs[i], ys[i], q.1, q.2, by simp [h1], by simp [h2]⟩
  · obtain ⟨T, x, z, h1, h2, h3, h4, h5⟩ := y
    exact ⟨T, x, z, h1, h2, h3, h4 xs q.1, h5 ys q.2⟩
section
variable {K : PySem.W.Frag} {H0 H : Hp} {Ms M0 : List Addr} {L : List (Addr × HO)} {R R' : List Fa}
theorem W.subS (w : W K H0 Ms M0 H L R) (h : R'.Sublist R) : W K H0 Ms M0 H L R' := w.sub fun _ hr => h.subset hr
theorem w_repD {p : Addr} {ds : List PyData} {Q : VK} (n : Nat) (hw : W K H0 Ms M0 H L R) (h1 : Rp K (av L M0) H (.ref p) (.list ds)) (h2 : n ≤ 100) (h3 : ds.length ≤ 100) (k : ∀ p H', H p = none → W K H0 Ms M0 H' L (.rp (.ref p) (.list (List.replicate n ds).flatten) :: R) → Q (.ref p) H') : uMul K (.ref p) (.int (n : Int)) H Q := by
  obtain ⟨xs, hx, rx⟩ := Rp.unL h1
  have key : ∀ n, RpAll K (av L M0) H (List.replicate n xs).flatten (List.replicate n ds).flatten := fun n => by
    induction n with
    | zero => exact .nil
    | succ n ih => rw [List.replicate_succ, List.replicate_succ, List.flatten_cons, List.flatten_cons]; exact rx.append ih
  refine .inr (.inl ⟨p, n, xs, rfl, rfl, hx, by omega, by omega, ?_, fun l hl => k l _ hl (hw.newLst hl (key n))⟩)
  rw [rx.length, Int.toNat_natCast]
  exact sz_of (Nat.le_trans (Nat.mul_le_mul h3 h2) (by decide))
end
end Fw
namespace Law
open PySem PySem.Spec PyProof.Rows L2 Fw
def topS (i : Nat) : Stmt := PySem.Challenge.pw_threereckons_k05_errors_and_limits.main.body.getD i (.Pass ⟨0, 0, 0, 0⟩)
structure Blt (mg : Str → Option Value) : Prop where
  len : mg "len" = none
  abs : mg "abs" = none
  int' : mg "int" = none
  list : mg "list" = none
  range : mg "range" = none
  enumerate : mg "enumerate" = none
/-! ### the draws -/
structure Bx (a s c : Int) : Prop where
  a0 : 0 ≤ a
  s0 : 0 ≤ s
  s1 : s < 2 ^ 62
  c0 : 0 ≤ c
abbrev box (a s c : Int) : HO := .lst [.int a, .int s, .int c]
abbrev s_law_take : Stmt := topS 23
theorem sc_law_take : FnScope ["_law_box", "_law_wide", "_law_found", "_law_once", "_law_twice"] ["_law_box", "_law_wide"] (defScope s_law_take) := ⟨rfl, rfl, rfl, by decide +kernel, rfl, by decide +kernel, by decide +kernel⟩

def spTake : Sp := fun vs H Q _ => ∃ (b : Addr) (a s c m : Int), vs = [.ref b, .int m] ∧ H b = some (box a s c) ∧ Bx a s c ∧ c < 2 ^ 40 ∧ 0 < m ∧ m < 2 ^ 30 ∧
  ∀ r a' c' H', 0 ≤ r → r < m → Bx a' s c' → c' ≤ c + 1 → Ex [b] H H' → H' b = some (box a' s c') → Q (.int r) H'
section
variable {P : Program} {w : World} {K : PySem.W.Frag} {mg : Str → Option Value} {base : Heap}
theorem ok_take {f : Addr} {fd : FuncData} {k : Nat} (F : Fun K "_law_take" "_law_take" s_law_take f fd) (B : Blt mg) : FnOk P w K mg base CX0 (k + 1) f fd ["_law_box", "_law_wide"] spTake := by
  refine okS F sc_law_take (fun vs H Q E h => ?_) (fun cdv A outer s H0 vs Q E hr h => ?_)
  · obtain ⟨b, a, s, c, m, rfl, _⟩ := h
    rfl
  obtain ⟨b, a, s, c, m, rfl, hb, bx, hc, h0, h1, q⟩ := h
  have hA := bx.a0
  have hS := bx.s0
  have hS1 := bx.s1
  have hC := bx.c0
  have hw : W K H0 [b] [] H0 [(b, box a s c)] [] := W.start1 hb (fun _ z => nomatch z) (fun _ z => nomatch z)
  refine ⟨_, [some (.ref b), some (.int m), none, none, none], (pss_cons (ps_if (pt_cmpR (op_gt) (pe_ix (ix_U (K := K)) (pv 0) pe_int (fun _ _ => rfl)) pe_int (nomark _)) (pss_cons (ps_set (i := 2) sc_law_take.nd rfl (Or.inl rfl) (pe_op op_mod (pe_ix (ix_U (K := K)) (pv 0) pe_int (fun _ _ => rfl)) (pv 1)))
  (pss_cons (ps_asg (pe_op op_fdiv (pe_ix (ix_U (K := K)) (pv 0) pe_int (fun _ _ => rfl)) (pv 1)) (pg_sub (pv 0) pe_int set_list))
  (pss_one (ps_ret (pv 2))))) pss_nil)
  (pss_cons (ps_asg (pe_op (op_addU (K := K)) (pe_ix (ix_U (K := K)) (pv 0) pe_int (fun _ _ => rfl)) pe_int) (pg_sub (pv 0) pe_int set_list))
  (pss_cons (ps_set (i := 3) sc_law_take.nd rfl (Or.inl rfl) (pe_op op_mod (pe_op op_pow (pe_op (op_addU (K := K)) (pe_ix (ix_U (K := K)) (pv 0) pe_int (fun _ _ => rfl)) (pe_op (op_mulU (K := K)) pe_int (pe_ix (ix_U (K := K)) (pv 0) pe_int (fun _ _ => rfl)))) pe_int) pe_int))
  (pss_cons (ps_set (i := 4) sc_law_take.nd rfl (Or.inl rfl) (pe_op op_mod (pe_op (op_mulU (K := K)) (pe_op (op_addU (K := K)) (pe_op (op_addU (K := K)) (pv 3) (pe_ix (ix_U (K := K)) (pv 0) pe_int (fun _ _ => rfl))) (pe_op op_fdiv (pe_ix (ix_U (K := K)) (pv 0) pe_int (fun _ _ => rfl)) pe_int)) (pe_op (op_addU (K := K)) (pe_op (op_addU (K := K)) (pe_op op_mod (pv 3) pe_int) pe_int) (pe_ix (ix_U (K := K)) (pv 0) pe_int (fun _ _ => rfl)))) pe_int))
  (pss_one (ps_ret (pe_op op_mod (pe_op op_fdiv (pe_op op_mod (pe_op (op_addU (K := K)) (pe_op (op_mulU (K := K)) (pv 4) pe_int) (pv 3)) pe_int) pe_int) (pv 1)))))))), rfl, ?_⟩
  walk_at "sx"
  refine x_ifd (fun c1 => ?_) (fun c1 => ?_)
  · walk_at "sx"
    exact q _ _ _ _ (Int.emod_nonneg _ (by omega)) (Int.emod_lt_of_pos _ h0) ⟨Int.ediv_nonneg hA (by omega), hS, hS1, hC⟩ (by omega) hw.ex (hw.at 0 rfl)
  · walk_at "sx"
    exact q _ _ _ _ (Int.emod_nonneg _ (by omega)) (Int.emod_lt_of_pos _ h0) ⟨hA, hS, hS1, by omega⟩ (by omega) hw.ex (hw.at 0 rfl)
end
theorem x_take {K : PySem.W.Frag} {H0 H : Hp} {Ms M0 : List Addr} {L : List (Addr × HO)} {R : List Fa} {b : Addr} {a s c m : Int} {Q : VK} {E : XK} (hw : W K H0 Ms M0 H L R) (n : Nat) (hL : L[n]? = some (b, box a s c)) (bx : Bx a s c) (hc : c < 2 ^ 40) (h0 : 0 < m) (h1 : m < 2 ^ 30)
    (q : ∀ r a' c' H', 0 ≤ r → r < m → Bx a' s c' → c' ≤ c + 1 → W K H0 Ms M0 H' (L.set n (b, box a' s c')) R → Q (.int r) H') : spTake ([.ref b, .int m] ++ []) H Q E :=
  ⟨b, a, s, c, m, rfl, hw.at n hL, bx, hc, h0, h1, fun r a' c' H' r0 r1 bx' c1 e hb => q r a' c' H' r0 r1 bx' c1 (hw.call n hL e hb)⟩
abbrev s_law_dip : Stmt := topS 22
theorem sc_law_dip : FnScope ["_law_script", "_law_k", "_law_cell"] ["_law_script", "_law_k"] (defScope s_law_dip) := ⟨rfl, rfl, rfl, by decide +kernel, rfl, by decide +kernel, by decide +kernel⟩

/-- a new box of a list's k-th number -/
def spDip (K : PySem.W.Frag) : Sp := fun vs H Q _ => ∃ (M : List Addr) (a : Addr) (ns : List Int) (k : Int), vs = [.ref a, .int k] ∧ Al M H ∧ Rp K M H (.ref a) (.list (ns.map .int)) ∧ 0 ≤ k ∧ k ≤ 1000 ∧
  ∀ x y p H', Bx x y 0 → H p = none → Ex [] H H' → H' p = some (box x y 0) → Q (.ref p) H'
theorem at_ints {ns : List Int} {k : Int} (h0 : 0 ≤ k) (h1 : k < ns.length) : atI (ns.map V.int) k = some (.int (ns[k.toNat]'(by omega))) := by
  have e : k = ((k.toNat : Nat) : Int) := by omega
  have q : atI (ns.map V.int) ((k.toNat : Nat) : Int) = some (.int (ns[k.toNat]'(by omega))) := atI_nat (by rw [List.getElem?_map, List.getElem?_eq_getElem (by omega)]; rfl)
  rw [← e] at q
  exact q
theorem mul_nn {x : Int} (b : Bool) (h : 0 ≤ x) : 0 ≤ x * (if b then 1 else 0) := by
  cases b
  · simp
  · simp; exact h
section
variable {P : Program} {w : World} {K : PySem.W.Frag} {mg : Str → Option Value} {base : Heap}
theorem ok_dip {f : Addr} {fd : FuncData} {k : Nat} (F : Fun K "_law_dip" "_law_dip" s_law_dip f fd) (B : Blt mg) : FnOk P w K mg base CX0 (k + 1) f fd ["_law_script", "_law_k"] (spDip K) := by
  refine okS F sc_law_dip (fun vs H Q E h => ?_) (fun cdv A outer s H0 vs Q E hr h => ?_)
  · obtain ⟨M, a, ns, k, rfl, _⟩ := h
    rfl
  obtain ⟨M, a, ns, k, rfl, hM, hb, h0, h1, q⟩ := h
  have hw : W K H0 [] M H0 [] [.rp (.ref a) (.list (ns.map .int))] := W.start0 hM (fun r z => by rw [List.mem_singleton.mp z]; exact hb)
  refine ⟨_, [some (.ref a), some (.int k), none], (pss_cons (ps_set (i := 2) sc_law_dip.nd rfl (Or.inl rfl) (pe_ifExp (pt_cmpR (op_lt) (pv 1) (pe_callB (call_lenU (K := K)) (by rfl) B.len (by decide +kernel) (pa_cons (pv 0) pa_nil)) (nomark _)) (pe_ix (ix_U (K := K)) (pv 0) (pv 1) (fun _ _ => rfl)) pe_int))
  (pss_one (ps_ret (pe_lst (pa_cons (pe_op (op_mulU (K := K)) (pe_callB call_absU (by rfl) B.abs (by decide +kernel) (pa_cons (pv 2) pa_nil)) (pe_callTy call_intU (by rfl) B.int' (by decide +kernel) (pa_cons (pe_cmpR (op_ge) (pe_callB call_absU (by rfl) B.abs (by decide +kernel) (pa_cons (pv 2) pa_nil)) (pe_powc (z := 1000000000000000000) ⟨by decide, by decide, by decide⟩ (by rfl)) (nomark _)) pa_nil))) (pa_cons (pe_op (op_addU (K := K)) (pe_op (op_addU (K := K)) (pe_op op_mod (pv 2) pe_int) (pe_op (op_mulU (K := K)) pe_int (pv 1))) pe_int) (pa_cons pe_int pa_nil))))))), rfl, ?_⟩
  walk_at "sx"
  refine x_ifd (fun c1 => ?_) (fun c1 => ?_)
  · rw [List.length_map] at c1
    refine x_op (x_var rfl (x_var rfl (x_ixL (SqL.of hb.ints) (at_ints h0 c1) ?_)))
    generalize ns[k.toNat]'_ = n
    walk_at "sx"
    exact q _ _ p H ⟨mul_nn _ (by split <;> omega), by omega, by omega, by omega⟩ hp hw.ex (hw.at 0 rfl)
  · walk_at "sx"
    exact q _ _ p H ⟨mul_nn _ (by split <;> omega), by omega, by omega, by omega⟩ hp hw.ex (hw.at 0 rfl)
end
abbrev s_law_folded : Stmt := topS 24
theorem sc_law_folded : FnScope ["_law_script", "_law_size", "_law_cells", "_law_k", "_law_cell"] ["_law_script", "_law_size"] (defScope s_law_folded) := ⟨rfl, rfl, rfl, by decide +kernel, rfl, by decide +kernel, by decide +kernel⟩

/-- a new list of numbers, at most z of them, one at least where there is one -/
def spFolded (K : PySem.W.Frag) : Sp := fun vs H Q _ => ∃ (a : Addr) (ns : List Int) (z : Nat), vs = [.ref a, .int (z : Int)] ∧ SqL K H a (ns.map V.int) ∧ 0 < z ∧ z ≤ 1000 ∧ ns.length ≤ 1000 ∧
  ∀ (ms : List Int) p H', ms.length = min z ns.length → H p = none → Ex [] H H' → H' p = some (.lst (ms.map V.int)) → Q (.ref p) H'
theorem cut_to {xs : List V} (z : Nat) : cutV xs none (some (z : Int)) = xs.take z := by
  unfold cutV
  rw [HT.sIx_none, HT.sIx_nat, List.drop_zero, Nat.sub_zero]
  by_cases h : z ≤ xs.length
  · rw [Nat.min_eq_left h]
  · rw [Nat.min_eq_right (by omega), List.take_length, List.take_of_length_le (by omega)]
theorem cut_from {xs : List V} (z : Nat) (u : Option Int) (h : xs.length ≤ z) : cutV xs (some (z : Int)) u = [] := by
  unfold cutV
  rw [HT.sIx_nat, Nat.min_eq_right h, List.drop_length, List.take_nil]
theorem cut_mem {ns : List Int} {lo hi : Option Int} {i : Nat} {x : V} (h : (cutV (ns.map V.int) lo hi)[i]? = some x) : ∃ n, x = .int n := by
  have h1 : x ∈ ns.map V.int := List.mem_of_mem_drop (List.mem_of_mem_take (List.mem_of_getElem? h))
  obtain ⟨n, _, e⟩ := List.mem_map.mp h1
  exact ⟨n, e.symm⟩
section
variable {P : Program} {w : World} {K : PySem.W.Frag} {mg : Str → Option Value} {base : Heap}
theorem ok_folded {f : Addr} {fd : FuncData} {k : Nat} (F : Fun K "_law_folded" "_law_folded" s_law_folded f fd) (B : Blt mg) : FnOk P w K mg base CX0 (k + 1) f fd ["_law_script", "_law_size"] (spFolded K) := by
  refine okS F sc_law_folded (fun vs H Q E h => ?_) (fun cdv A outer s H0 vs Q E hr h => ?_)
  · obtain ⟨a, ns, z, rfl, _⟩ := h
    rfl
  obtain ⟨a, ns, z, rfl, hb, z0, z1, hn, q⟩ := h
  have hw : W K H0 [] [] H0 [] [] := W.start0 (fun _ z => nomatch z) (fun _ z => nomatch z)
  refine ⟨_, [some (.ref a), some (.int z), none, none, none], (pss_cons (ps_set (i := 2) sc_law_folded.nd rfl (Or.inl rfl) (pe_callTy (call_listU (K := K)) (by rfl) B.list (by decide +kernel) (pa_cons (pe_slice (sl_U (K := K)) (pv 0) po_none (po_some (pv 1))) pa_nil)))
  (pss_cons (ps_for PassesOwn.never rfl (pi_En (K := K) (by rfl) B.enumerate (pa_cons (pe_slice (sl_U (K := K)) (pv 0) (po_some (pv 1)) (po_some pe_int)) pa_nil)) (pg_T (K := K) (n := 2) rfl (pgs_cons (pg_name (i := 3) sc_law_folded.nd rfl (Or.inl rfl)) (pgs_cons (pg_name (i := 4) sc_law_folded.nd rfl (Or.inl rfl)) pgs_nil))) (pss_one (ps_asg (pe_op (op_addU (K := K)) (pe_ix (ix_U (K := K)) (pv 2) (pe_op op_mod (pv 3) (pv 1)) (fun _ _ => rfl)) (pe_op (op_mulU (K := K)) (pv 4) (pe_op (op_addU (K := K)) (pv 3) pe_int))) (pg_sub (pv 2) (pe_op op_mod (pv 3) (pv 1)) set_list))))
  (pss_one (ps_ret (pv 2))))), rfl, ?_⟩
  walk_at "sx"
  rename_i p2 _ _ _ p1 _ _ _
  refine w_for (walk_enum (xs := cutV (ns.map V.int) (some z) (some 63))) (fun i σ H' => ∃ (ms : List Int) (y3 y4 : Option V), σ = [some (.ref a), some (.int z), some (.ref p1), y3, y4] ∧ ms.length = min z ns.length ∧
    W K H0 [] [] H' [(p, .lst (cutV (ns.map V.int) (some z) (some 63))), (p1, .lst (ms.map V.int)), (p2, .lst (cutV (ns.map V.int) none (some z)))] []) ?_ ?_ ?_ ?_
  · rw [cut_to, ← List.map_take] at hw
    rw [cut_to]
    refine ⟨ns.take z, none, none, rfl, by rw [List.length_take], ?_⟩
    rw [← List.map_take]
    exact hw
  · rintro i σ H' _ ⟨ms, y3, y4, rfl, _, hw⟩
    exact SqL.of (hw.at 0 rfl)
  · rintro i x σ H H' hi ⟨ms, y3, y4, rfl, hl, hw⟩ ⟨T, x, y, rfl, hT, rfl, e1, e2⟩
    cases e1
    obtain ⟨n, rfl⟩ := cut_mem e2
    have hz : z < ns.length := by
      rcases Nat.lt_or_ge z ns.length with h | h
      · exact h
      · rw [cut_from z _ (by rw [List.length_map]; exact h)] at hi
        exact absurd hi (Nat.not_lt_zero _)
    have hw := hw.pure (Ex.new (o := .tup [.int i, .int n]) hT)
    have hTT : SqT K (upd H T (.tup [.int i, .int n])) T [.int i, .int n] := .inl (.inl upd_same)
    have h63 : i < 1000 := by
      have := hi
      unfold cutV at this
      rw [List.length_take, List.length_drop, List.length_map] at this
      omega
    have hmod0 : 0 ≤ (i : Int) % z := Int.emod_nonneg _ (by omega)
    have hmod1 : (i : Int) % z < z := Int.emod_lt_of_pos _ (by omega)
    have hat : atI (ms.map V.int) ((i : Int) % z) = some (.int (ms[((i : Int) % z).toNat]'(by omega))) := at_ints hmod0 (by omega)
    have hix : ixN (ms.map V.int).length ((i : Int) % z) = some ((i : Int) % z).toNat := by
      unfold ixN
      rw [if_pos hmod0, if_pos (by rw [List.length_map]; omega)]
    generalize ms[((i : Int) % z).toNat]'_ = mm at hat
    walk_at "sx"
    refine ⟨ms.set ((i : Int) % z).toNat (mm + n * ((i : Int) + 2)), _, _, rfl, by rw [List.length_set]; exact hl, ?_⟩
    rw [List.map_set]
    exact hw
  · rintro σ H ⟨ms, y3, y4, rfl, hl, hw⟩
    walk_at "sx"
    exact q ms p1 H hl (hw.fresh0 1 rfl) (hw.ex) (hw.at 1 rfl)
end
end Law
namespace Law
open PySem PySem.Spec PyProof.Rows L2 Fw
abbrev s_law_made : Stmt := topS 28
theorem sc_law_made : FnScope ["_law_a", "_law_b", "_law_found"] ["_law_a", "_law_b"] (defScope s_law_made) := ⟨rfl, rfl, rfl, by decide +kernel, rfl, by decide +kernel, by decide +kernel⟩

abbrev s_law_called : Stmt := topS 29
theorem sc_law_called : FnScope ["_law_a", "_law_b", "_law_found"] ["_law_a", "_law_b"] (defScope s_law_called) := ⟨rfl, rfl, rfl, by decide +kernel, rfl, by decide +kernel, by decide +kernel⟩

/-- the fields of the i-th error, made of va and vb -/
def fsA (va vb : V) : Nat → List (Str × V)
  | 0 => fs2 "part" "row" [va, vb]
  | 1 => fs1 "row" [va]
  | 2 => fs1 "at" [va]
  | 3 => fs1 "thing" [va]
  | 4 => fs1 "thing" [va]
  | 5 => fs2 "op" "under" [va, vb]
  | 6 => fs1 "under" [va]
  | 7 => fs1 "name" [va]
  | 8 => fs1 "op" [va]
  | 9 => fs1 "making" [va]
  | 10 => fs1 "spot" [va]
  | 11 => fs1 "path" [va]
  | 12 => fs1 "ring" [va]
  | 13 => fs2 "least" "ring" [va, vb]
  | 14 => fs1 "clash" [va]
  | 15 => fs1 "name" [va]
  | 16 => fs1 "spots" [va]
  | 17 => fs1 "many" [va]
  | _ => []
def obsG (cs : Nat → Addr) (fs : Nat → List (Str × V)) : Nat → List V → Hp → Prop
  | _, [], _ => True
  | i, v :: r, H => ob v (cs i) (fs i) H ∧ obsG cs fs (i + 1) r H
theorem obsG_mono {cs : Nat → Addr} {fs : Nat → List (Str × V)} {H H' : Hp} (e : Ext H H') : ∀ {i : Nat} {us : List V}, obsG cs fs i us H → obsG cs fs i us H'
  | _, [], _ => trivial
  | _, _ :: _, ⟨h1, h2⟩ => ⟨ob_mono e h1, obsG_mono e h2⟩
theorem obsG_at {cs : Nat → Addr} {fs : Nat → List (Str × V)} {H : Hp} : ∀ {i : Nat} {us : List V} {k : Nat} {v : V}, obsG cs fs i us H → us[k]? = some v → ob v (cs (i + k)) (fs (i + k)) H
  | _, _ :: _, 0, _, ⟨h1, _⟩, e => by cases e; exact h1
  | i, _ :: _, k + 1, _, ⟨_, h2⟩, e => by
    have := obsG_at (k := k) h2 e
    rw [show i + (k + 1) = i + 1 + k by omega]
    exact this
def spMade (cs : Nat → Addr) : Sp := fun vs H Q _ => ∃ (M : List Addr) (va vb : V), vs = [va, vb] ∧ Al M H ∧ ∀ p us H', us.length = 18 → H p = none → Ex [] H H' → H' p = some (.lst us) → obsG cs (fsA va vb) 0 us (del H' (p :: M)) → Q (.ref p) H'
section
variable {P : Program} {w : World} {K : PySem.W.Frag} {mg : Str → Option Value} {base : Heap} {f : Addr} {fd : FuncData} {k : Nat} {kws : List (Str × V)} {cs : Nat → Addr}
theorem ok_made (F : FunD K "_law_made" "_law_made" (defArgs s_law_made) (defBody s_law_made) (defScope s_law_made) [] kws f fd) (MBadGrammar : Cl P w K mg base "BadGrammar" (cs 0) 2 [] (fun vs zs => fs2 "part" "row" (vs ++ zs.reverse))) (MBadRow : Cl P w K mg base "BadRow" (cs 1) 1 [] (fun vs zs => fs1 "row" (vs ++ zs))) (MBadText : Cl P w K mg base "BadText" (cs 2) 1 [] (fun vs zs => fs1 "at" (vs ++ zs))) (MNoTree : Cl P w K mg base "NoTree" (cs 3) 1 [] (fun vs zs => fs1 "thing" (vs ++ zs))) (MNoGiven : Cl P w K mg base "NoGiven" (cs 4) 1 [] (fun vs zs => fs1 "thing" (vs ++ zs))) (MNotLet : Cl P w K mg base "NotLet" (cs 5) 2 [] (fun vs zs => fs2 "op" "under" (vs ++ zs.reverse))) (MNoCap : Cl P w K mg base "NoCap" (cs 6) 1 [] (fun vs zs => fs1 "under" (vs ++ zs))) (MNoName : Cl P w K mg base "NoName" (cs 7) 1 [] (fun vs zs => fs1 "name" (vs ++ zs))) (MNoOp : Cl P w K mg base "NoOp" (cs 8) 1 [] (fun vs zs => fs1 "op" (vs ++ zs))) (MNoRow : Cl P w K mg base "NoRow" (cs 9) 1 [] (fun vs zs => fs1 "making" (vs ++ zs))) (MNoSpot : Cl P w K mg base "NoSpot" (cs 10) 1 [] (fun vs zs => fs1 "spot" (vs ++ zs))) (MNoNode : Cl P w K mg base "NoNode" (cs 11) 1 [] (fun vs zs => fs1 "path" (vs ++ zs))) (MRing : Cl P w K mg base "Ring" (cs 12) 1 [] (fun vs zs => fs1 "ring" (vs ++ zs))) (MRinged : Cl P w K mg base "Ringed" (cs 13) 2 [] (fun vs zs => fs2 "least" "ring" (vs ++ zs.reverse))) (MClash : Cl P w K mg base "Clash" (cs 14) 1 [] (fun vs zs => fs1 "clash" (vs ++ zs))) (MTaken : Cl P w K mg base "Taken" (cs 15) 1 [] (fun vs zs => fs1 "name" (vs ++ zs))) (MLacks : Cl P w K mg base "Lacks" (cs 16) 1 [] (fun vs zs => fs1 "spots" (vs ++ zs))) (MTooMuch : Cl P w K mg base "TooMuch" (cs 17) 1 [] (fun vs zs => fs1 "many" (vs ++ zs))) : FnG P w K mg base CX0 3 f fd ["_law_a", "_law_b"] (spMade cs) := by
  refine okG F sc_law_made (fun vs H Q E h => ?_) (fun cdv A outer s H0 vs Q E hG hr h => ?_)
  · obtain ⟨M, va, vb, rfl, _⟩ := h
    rfl
  obtain ⟨M, va, vb, rfl, hM, q⟩ := h
  have hw : W K H0 [] M H0 [] [] := W.start0 hM (fun _ z => nomatch z)
  refine ⟨_, [some va, some vb, none], (pss_cons (ps_set (i := 2) sc_law_made.nd rfl (Or.inl rfl) (pe_lst (pa_cons (pe_made MBadGrammar hr (by first | decide | omega) pass0 (by rfl) (pa_cons (pv 0) (pa_cons (pv 1) pa_nil))) (pa_cons (pe_made MBadRow hr (by first | decide | omega) pass0 (by rfl) (pa_cons (pv 0) pa_nil)) (pa_cons (pe_made MBadText hr (by first | decide | omega) pass0 (by rfl) (pa_cons (pv 0) pa_nil)) (pa_cons (pe_made MNoTree hr (by first | decide | omega) pass0 (by rfl) (pa_cons (pv 0) pa_nil)) (pa_cons (pe_made MNoGiven hr (by first | decide | omega) pass0 (by rfl) (pa_cons (pv 0) pa_nil)) (pa_cons (pe_made MNotLet hr (by first | decide | omega) pass0 (by rfl) (pa_cons (pv 0) (pa_cons (pv 1) pa_nil))) (pa_cons (pe_made MNoCap hr (by first | decide | omega) pass0 (by rfl) (pa_cons (pv 0) pa_nil)) (pa_cons (pe_made MNoName hr (by first | decide | omega) pass0 (by rfl) (pa_cons (pv 0) pa_nil)) (pa_cons (pe_made MNoOp hr (by first | decide | omega) pass0 (by rfl) (pa_cons (pv 0) pa_nil)) pa_nil)))))))))))
  (pss_cons (ps_set (i := 2) sc_law_made.nd rfl (Or.inl rfl) (pe_op (op_addU (K := K)) (pv 2) (pe_lst (pa_cons (pe_made MNoRow hr (by first | decide | omega) pass0 (by rfl) (pa_cons (pv 0) pa_nil)) (pa_cons (pe_made MNoSpot hr (by first | decide | omega) pass0 (by rfl) (pa_cons (pv 0) pa_nil)) (pa_cons (pe_made MNoNode hr (by first | decide | omega) pass0 (by rfl) (pa_cons (pv 0) pa_nil)) (pa_cons (pe_made MRing hr (by first | decide | omega) pass0 (by rfl) (pa_cons (pv 0) pa_nil)) (pa_cons (pe_made MRinged hr (by first | decide | omega) pass0 (by rfl) (pa_cons (pv 0) (pa_cons (pv 1) pa_nil))) (pa_cons (pe_made MClash hr (by first | decide | omega) pass0 (by rfl) (pa_cons (pv 0) pa_nil)) (pa_cons (pe_made MTaken hr (by first | decide | omega) pass0 (by rfl) (pa_cons (pv 0) pa_nil)) (pa_cons (pe_made MLacks hr (by first | decide | omega) pass0 (by rfl) (pa_cons (pv 0) pa_nil)) pa_nil)))))))))))
  (pss_one (ps_ret (pe_op (op_addU (K := K)) (pv 2) (pe_lst (pa_cons (pe_made MTooMuch hr (by first | decide | omega) pass0 (by rfl) (pa_cons (pv 0) pa_nil)) pa_nil))))))), rfl, ?_⟩
  walk_at "sx"
  refine q p _ _ rfl (hw.fresh0 0 rfl) hw.ex (hw.at 0 rfl) (obsG_mono (del_sub fun x hx => ?_) (show obsG cs (fsA va vb) 0 _ (del _ (av _ M)) from ⟨hw.px 17 rfl, hw.px 16 rfl, hw.px 15 rfl, hw.px 14 rfl, hw.px 13 rfl, hw.px 12 rfl, hw.px 11 rfl, hw.px 10 rfl, hw.px 9 rfl, hw.px 8 rfl, hw.px 7 rfl, hw.px 6 rfl, hw.px 5 rfl, hw.px 4 rfl, hw.px 3 rfl, hw.px 2 rfl, hw.px 1 rfl, hw.px 0 rfl, trivial⟩))
  rcases List.mem_cons.mp hx with rfl | hx
  · exact List.mem_append_left _ (by simp)
  · exact List.mem_append_right _ hx
theorem ok_called (F : FunD K "_law_called" "_law_called" (defArgs s_law_called) (defBody s_law_called) (defScope s_law_called) [] kws f fd) (MkBadGrammar : Cl P w K mg base "BadGrammar" (cs 0) 0 ["row", "part"] (fun vs zs => fs2 "part" "row" (vs ++ zs.reverse))) (MkBadRow : Cl P w K mg base "BadRow" (cs 1) 0 ["row"] (fun vs zs => fs1 "row" (vs ++ zs))) (MkBadText : Cl P w K mg base "BadText" (cs 2) 0 ["at"] (fun vs zs => fs1 "at" (vs ++ zs))) (MkNoTree : Cl P w K mg base "NoTree" (cs 3) 0 ["thing"] (fun vs zs => fs1 "thing" (vs ++ zs))) (MkNoGiven : Cl P w K mg base "NoGiven" (cs 4) 0 ["thing"] (fun vs zs => fs1 "thing" (vs ++ zs))) (MkNotLet : Cl P w K mg base "NotLet" (cs 5) 0 ["under", "op"] (fun vs zs => fs2 "op" "under" (vs ++ zs.reverse))) (MkNoCap : Cl P w K mg base "NoCap" (cs 6) 0 ["under"] (fun vs zs => fs1 "under" (vs ++ zs))) (MkNoName : Cl P w K mg base "NoName" (cs 7) 0 ["name"] (fun vs zs => fs1 "name" (vs ++ zs))) (MkNoOp : Cl P w K mg base "NoOp" (cs 8) 0 ["op"] (fun vs zs => fs1 "op" (vs ++ zs))) (MkNoRow : Cl P w K mg base "NoRow" (cs 9) 0 ["making"] (fun vs zs => fs1 "making" (vs ++ zs))) (MkNoSpot : Cl P w K mg base "NoSpot" (cs 10) 0 ["spot"] (fun vs zs => fs1 "spot" (vs ++ zs))) (MkNoNode : Cl P w K mg base "NoNode" (cs 11) 0 ["path"] (fun vs zs => fs1 "path" (vs ++ zs))) (MkRing : Cl P w K mg base "Ring" (cs 12) 0 ["ring"] (fun vs zs => fs1 "ring" (vs ++ zs))) (MkRinged : Cl P w K mg base "Ringed" (cs 13) 0 ["ring", "least"] (fun vs zs => fs2 "least" "ring" (vs ++ zs.reverse))) (MkClash : Cl P w K mg base "Clash" (cs 14) 0 ["clash"] (fun vs zs => fs1 "clash" (vs ++ zs))) (MkTaken : Cl P w K mg base "Taken" (cs 15) 0 ["name"] (fun vs zs => fs1 "name" (vs ++ zs))) (MkLacks : Cl P w K mg base "Lacks" (cs 16) 0 ["spots"] (fun vs zs => fs1 "spots" (vs ++ zs))) (MkTooMuch : Cl P w K mg base "TooMuch" (cs 17) 0 ["many"] (fun vs zs => fs1 "many" (vs ++ zs))) : FnG P w K mg base CX0 3 f fd ["_law_a", "_law_b"] (spMade cs) := by
  refine okG F sc_law_called (fun vs H Q E h => ?_) (fun cdv A outer s H0 vs Q E hG hr h => ?_)
  · obtain ⟨M, va, vb, rfl, _⟩ := h
    rfl
  obtain ⟨M, va, vb, rfl, hM, q⟩ := h
  have hw : W K H0 [] M H0 [] [] := W.start0 hM (fun _ z => nomatch z)
  refine ⟨_, [some va, some vb, none], (pss_cons (ps_set (i := 2) sc_law_called.nd rfl (Or.inl rfl) (pe_lst (pa_cons (pe_madeK MkBadGrammar hr (by first | decide | omega) pass0 (by rfl) (pk_cons (pv 1) (pk_cons (pv 0) pk_nil))) (pa_cons (pe_madeK MkBadRow hr (by first | decide | omega) pass0 (by rfl) (pk_cons (pv 0) pk_nil)) (pa_cons (pe_madeK MkBadText hr (by first | decide | omega) pass0 (by rfl) (pk_cons (pv 0) pk_nil)) (pa_cons (pe_madeK MkNoTree hr (by first | decide | omega) pass0 (by rfl) (pk_cons (pv 0) pk_nil)) (pa_cons (pe_madeK MkNoGiven hr (by first | decide | omega) pass0 (by rfl) (pk_cons (pv 0) pk_nil)) pa_nil)))))))
  (pss_cons (ps_set (i := 2) sc_law_called.nd rfl (Or.inl rfl) (pe_op (op_addU (K := K)) (pv 2) (pe_lst (pa_cons (pe_madeK MkNotLet hr (by first | decide | omega) pass0 (by rfl) (pk_cons (pv 1) (pk_cons (pv 0) pk_nil))) (pa_cons (pe_madeK MkNoCap hr (by first | decide | omega) pass0 (by rfl) (pk_cons (pv 0) pk_nil)) (pa_cons (pe_madeK MkNoName hr (by first | decide | omega) pass0 (by rfl) (pk_cons (pv 0) pk_nil)) (pa_cons (pe_madeK MkNoOp hr (by first | decide | omega) pass0 (by rfl) (pk_cons (pv 0) pk_nil)) (pa_cons (pe_madeK MkNoRow hr (by first | decide | omega) pass0 (by rfl) (pk_cons (pv 0) pk_nil)) pa_nil))))))))
  (pss_cons (ps_set (i := 2) sc_law_called.nd rfl (Or.inl rfl) (pe_op (op_addU (K := K)) (pv 2) (pe_lst (pa_cons (pe_madeK MkNoSpot hr (by first | decide | omega) pass0 (by rfl) (pk_cons (pv 0) pk_nil)) (pa_cons (pe_madeK MkNoNode hr (by first | decide | omega) pass0 (by rfl) (pk_cons (pv 0) pk_nil)) (pa_cons (pe_madeK MkRing hr (by first | decide | omega) pass0 (by rfl) (pk_cons (pv 0) pk_nil)) (pa_cons (pe_madeK MkRinged hr (by first | decide | omega) pass0 (by rfl) (pk_cons (pv 1) (pk_cons (pv 0) pk_nil))) (pa_cons (pe_madeK MkClash hr (by first | decide | omega) pass0 (by rfl) (pk_cons (pv 0) pk_nil)) pa_nil))))))))
  (pss_one (ps_ret (pe_op (op_addU (K := K)) (pv 2) (pe_lst (pa_cons (pe_madeK MkTaken hr (by first | decide | omega) pass0 (by rfl) (pk_cons (pv 0) pk_nil)) (pa_cons (pe_madeK MkLacks hr (by first | decide | omega) pass0 (by rfl) (pk_cons (pv 0) pk_nil)) (pa_cons (pe_madeK MkTooMuch hr (by first | decide | omega) pass0 (by rfl) (pk_cons (pv 0) pk_nil)) pa_nil)))))))))), rfl, ?_⟩
  walk_at "sx"
  refine q p _ _ rfl (hw.fresh0 0 rfl) hw.ex (hw.at 0 rfl) (obsG_mono (del_sub fun x hx => ?_) (show obsG cs (fsA va vb) 0 _ (del _ (av _ M)) from ⟨hw.px 17 rfl, hw.px 16 rfl, hw.px 15 rfl, hw.px 14 rfl, hw.px 13 rfl, hw.px 12 rfl, hw.px 11 rfl, hw.px 10 rfl, hw.px 9 rfl, hw.px 8 rfl, hw.px 7 rfl, hw.px 6 rfl, hw.px 5 rfl, hw.px 4 rfl, hw.px 3 rfl, hw.px 2 rfl, hw.px 1 rfl, hw.px 0 rfl, trivial⟩))
  rcases List.mem_cons.mp hx with rfl | hx
  · exact List.mem_append_left _ (by simp)
  · exact List.mem_append_right _ hx
end
end Law
namespace Law
open PySem PySem.Spec PyProof.Rows L2 Fw
structure Blt5 (mg : Str → Option Value) : Prop extends Blt mg where
  isinstance : mg "isinstance" = none
  zip : mg "zip" = none
  tuple : mg "tuple" = none
  str : mg "str" = none
  bool : mg "bool" = none
  all : mg "all" = none
  ValueError : mg "ValueError" = none
  KeyError : mg "KeyError" = none
  LookupError : mg "LookupError" = none
  IndexError : mg "IndexError" = none
  RuntimeError : mg "RuntimeError" = none
  ArithmeticError : mg "ArithmeticError" = none
  OverflowError : mg "OverflowError" = none
structure Gc (mg : Str → Option Value) (cs : Nat → Addr) : Prop where
  BadGrammar : mg "BadGrammar" = some (.ref (cs 0))
  BadRow : mg "BadRow" = some (.ref (cs 1))
  BadText : mg "BadText" = some (.ref (cs 2))
  NoTree : mg "NoTree" = some (.ref (cs 3))
  NoGiven : mg "NoGiven" = some (.ref (cs 4))
  NotLet : mg "NotLet" = some (.ref (cs 5))
  NoCap : mg "NoCap" = some (.ref (cs 6))
  NoName : mg "NoName" = some (.ref (cs 7))
  NoOp : mg "NoOp" = some (.ref (cs 8))
  NoRow : mg "NoRow" = some (.ref (cs 9))
  NoSpot : mg "NoSpot" = some (.ref (cs 10))
  NoNode : mg "NoNode" = some (.ref (cs 11))
  Ring : mg "Ring" = some (.ref (cs 12))
  Ringed : mg "Ringed" = some (.ref (cs 13))
  Clash : mg "Clash" = some (.ref (cs 14))
  Taken : mg "Taken" = some (.ref (cs 15))
  Lacks : mg "Lacks" = some (.ref (cs 16))
  TooMuch : mg "TooMuch" = some (.ref (cs 17))
def words : List Str := ["value", "key", "lookup", "index", "runtime", "sums", "over"]
/-- the words of Python's classes above the i-th error -/
def flags : Nat → List Bool
  | 0 => [true, false, false, false, false, false, false]
  | 1 => [true, false, false, false, false, false, false]
  | 2 => [true, false, false, false, false, false, false]
  | 3 => [true, false, false, false, false, false, false]
  | 4 => [true, false, false, false, false, false, false]
  | 5 => [true, false, false, false, false, false, false]
  | 6 => [true, false, false, false, false, false, false]
  | 7 => [false, true, true, false, false, false, false]
  | 8 => [false, true, true, false, false, false, false]
  | 9 => [false, true, true, false, false, false, false]
  | 10 => [false, false, true, false, false, false, false]
  | 11 => [false, false, true, true, false, false, false]
  | 12 => [false, false, false, false, true, false, false]
  | 13 => [false, false, false, false, true, false, false]
  | 14 => [false, false, false, false, true, false, false]
  | 15 => [false, false, false, false, true, false, false]
  | 16 => [false, false, false, false, false, true, false]
  | 17 => [false, false, false, false, false, true, true]
  | _ => []
def overs (i : Nat) : List Str := ((words.zip (flags i)).filter (·.2)).map (·.1)
structure Er (K : PySem.W.Frag) (cs : Nat → Addr) : Prop where
  own : ∀ i, i < 18 → ∃ (nI : String) (tl : List Value), Own K (cs i) nI tl
  one : ∀ i, i < 18 → ∀ j, j < 18 → PySem.W.kitOne K (.ref (cs i)) (.ref (cs j)) = some (decide (i = j))
  u0 : ∀ i, i < 18 → PySem.W.kitOne K (.ref (cs i)) (.type "ValueError") = some ((flags i).getD 0 false)
  u1 : ∀ i, i < 18 → PySem.W.kitOne K (.ref (cs i)) (.type "KeyError") = some ((flags i).getD 1 false)
  u2 : ∀ i, i < 18 → PySem.W.kitOne K (.ref (cs i)) (.type "LookupError") = some ((flags i).getD 2 false)
  u3 : ∀ i, i < 18 → PySem.W.kitOne K (.ref (cs i)) (.type "IndexError") = some ((flags i).getD 3 false)
  u4 : ∀ i, i < 18 → PySem.W.kitOne K (.ref (cs i)) (.type "RuntimeError") = some ((flags i).getD 4 false)
  u5 : ∀ i, i < 18 → PySem.W.kitOne K (.ref (cs i)) (.type "ArithmeticError") = some ((flags i).getD 5 false)
  u6 : ∀ i, i < 18 → PySem.W.kitOne K (.ref (cs i)) (.type "OverflowError") = some ((flags i).getD 6 false)
abbrev s_law_own : Stmt := topS 26
theorem sc_law_own : FnScope ["_law_one", "_law_found", "_law_k", "_law_is_one"] ["_law_one"] (defScope s_law_own) := ⟨rfl, rfl, rfl, by decide +kernel, rfl, by decide +kernel, by decide +kernel⟩

abbrev s_law_over : Stmt := topS 27
theorem sc_law_over : FnScope ["_law_one", "_law_words", "_law_found", "_law_word", "_law_is_one"] ["_law_one"] (defScope s_law_over) := ⟨rfl, rfl, rfl, by decide +kernel, rfl, by decide +kernel, by decide +kernel⟩

def spOwn (cs : Nat → Addr) : Sp := fun vs H Q _ => ∃ (v : V) (i : Nat) (fs : List (Str × V)), vs = [v] ∧ i < 18 ∧ ob v (cs i) fs H ∧ ∀ p H', H p = none → Ex [] H H' → H' p = some (.lst [.int i]) → Q (.ref p) H'
def spOver (cs : Nat → Addr) : Sp := fun vs H Q _ => ∃ (v : V) (i : Nat) (fs : List (Str × V)), vs = [v] ∧ i < 18 ∧ ob v (cs i) fs H ∧ ∀ p H', H p = none → Ex [] H H' → H' p = some (.lst ((overs i).map V.str)) → Q (.ref p) H'
theorem own_list (i : Nat) : ([V.bl (decide (i = 0)), V.bl (decide (i = 1)), V.bl (decide (i = 2)), V.bl (decide (i = 3))] ++ [V.bl (decide (i = 4)), V.bl (decide (i = 5)), V.bl (decide (i = 6))] ++ [V.bl (decide (i = 7)), V.bl (decide (i = 8)), V.bl (decide (i = 9)), V.bl (decide (i = 10))] ++ [V.bl (decide (i = 11)), V.bl (decide (i = 12)), V.bl (decide (i = 13)), V.bl (decide (i = 14))] ++ [V.bl (decide (i = 15)), V.bl (decide (i = 16)), V.bl (decide (i = 17))]) = (List.range 18).map fun j => V.bl (decide (i = j)) := rfl
theorem flags_len {i : Nat} (h : i < 18) : (flags i).length = 7 := by
  have : ∀ i : Fin 18, (flags i.val).length = 7 := by decide
  exact this ⟨i, h⟩
theorem over_list {i : Nat} (h : i < 18) : [V.bl ((flags i).getD 0 false), V.bl ((flags i).getD 1 false), V.bl ((flags i).getD 2 false), V.bl ((flags i).getD 3 false), V.bl ((flags i).getD 4 false), V.bl ((flags i).getD 5 false), V.bl ((flags i).getD 6 false)] = (flags i).map V.bl := by
  have : ∀ i : Fin 18, ([(flags i.val).getD 0 false, (flags i.val).getD 1 false, (flags i.val).getD 2 false, (flags i.val).getD 3 false, (flags i.val).getD 4 false, (flags i.val).getD 5 false, (flags i.val).getD 6 false] : List Bool) = flags i.val := by decide
  have e := congrArg (List.map V.bl) (this ⟨i, h⟩)
  exact e
section
variable {P : Program} {w : World} {K : PySem.W.Frag} {mg : Str → Option Value} {base : Heap} {f : Addr} {fd : FuncData} {k : Nat} {kws : List (Str × V)} {cs : Nat → Addr}
theorem ok_own (F : FunD K "_law_own" "_law_own" (defArgs s_law_own) (defBody s_law_own) (defScope s_law_own) [] kws f fd) (B : Blt5 mg) (GC : Gc mg cs) (E5 : Er K cs) : FnG P w K mg base CX0 1 f fd ["_law_one"] (spOwn cs) := by
  refine okG F sc_law_own (fun vs H Q E h => ?_) (fun cdv A outer s H0 vs Q E hG hr h => ?_)
  · obtain ⟨v, i, fs, rfl, _⟩ := h
    rfl
  obtain ⟨v, i, fs, rfl, hi, ho, q⟩ := h
  have hw : W K H0 [] [] H0 [] [.ob v (cs i) fs] := W.start0 (fun _ z => nomatch z) (fun r z => by rw [List.mem_singleton.mp z]; rw [del_nil]; exact ho)
  obtain ⟨nI, tl, T⟩ := E5.own i hi
  refine ⟨_, [some v, none, none, none], (pss_cons (ps_set (i := 1) sc_law_own.nd rfl (Or.inl rfl) (pe_lst (pa_cons (pe_callB (call_isX (K := K)) (by rfl) B.isinstance (by decide +kernel) (pa_cons (pv 0) (pa_cons (pe_gR (by rfl) GC.BadGrammar) pa_nil))) (pa_cons (pe_callB (call_isX (K := K)) (by rfl) B.isinstance (by decide +kernel) (pa_cons (pv 0) (pa_cons (pe_gR (by rfl) GC.BadRow) pa_nil))) (pa_cons (pe_callB (call_isX (K := K)) (by rfl) B.isinstance (by decide +kernel) (pa_cons (pv 0) (pa_cons (pe_gR (by rfl) GC.BadText) pa_nil))) (pa_cons (pe_callB (call_isX (K := K)) (by rfl) B.isinstance (by decide +kernel) (pa_cons (pv 0) (pa_cons (pe_gR (by rfl) GC.NoTree) pa_nil))) pa_nil))))))
  (pss_cons (ps_set (i := 1) sc_law_own.nd rfl (Or.inl rfl) (pe_op (op_addU (K := K)) (pv 1) (pe_lst (pa_cons (pe_callB (call_isX (K := K)) (by rfl) B.isinstance (by decide +kernel) (pa_cons (pv 0) (pa_cons (pe_gR (by rfl) GC.NoGiven) pa_nil))) (pa_cons (pe_callB (call_isX (K := K)) (by rfl) B.isinstance (by decide +kernel) (pa_cons (pv 0) (pa_cons (pe_gR (by rfl) GC.NotLet) pa_nil))) (pa_cons (pe_callB (call_isX (K := K)) (by rfl) B.isinstance (by decide +kernel) (pa_cons (pv 0) (pa_cons (pe_gR (by rfl) GC.NoCap) pa_nil))) pa_nil))))))
  (pss_cons (ps_set (i := 1) sc_law_own.nd rfl (Or.inl rfl) (pe_op (op_addU (K := K)) (pv 1) (pe_lst (pa_cons (pe_callB (call_isX (K := K)) (by rfl) B.isinstance (by decide +kernel) (pa_cons (pv 0) (pa_cons (pe_gR (by rfl) GC.NoName) pa_nil))) (pa_cons (pe_callB (call_isX (K := K)) (by rfl) B.isinstance (by decide +kernel) (pa_cons (pv 0) (pa_cons (pe_gR (by rfl) GC.NoOp) pa_nil))) (pa_cons (pe_callB (call_isX (K := K)) (by rfl) B.isinstance (by decide +kernel) (pa_cons (pv 0) (pa_cons (pe_gR (by rfl) GC.NoRow) pa_nil))) (pa_cons (pe_callB (call_isX (K := K)) (by rfl) B.isinstance (by decide +kernel) (pa_cons (pv 0) (pa_cons (pe_gR (by rfl) GC.NoSpot) pa_nil))) pa_nil)))))))
  (pss_cons (ps_set (i := 1) sc_law_own.nd rfl (Or.inl rfl) (pe_op (op_addU (K := K)) (pv 1) (pe_lst (pa_cons (pe_callB (call_isX (K := K)) (by rfl) B.isinstance (by decide +kernel) (pa_cons (pv 0) (pa_cons (pe_gR (by rfl) GC.NoNode) pa_nil))) (pa_cons (pe_callB (call_isX (K := K)) (by rfl) B.isinstance (by decide +kernel) (pa_cons (pv 0) (pa_cons (pe_gR (by rfl) GC.Ring) pa_nil))) (pa_cons (pe_callB (call_isX (K := K)) (by rfl) B.isinstance (by decide +kernel) (pa_cons (pv 0) (pa_cons (pe_gR (by rfl) GC.Ringed) pa_nil))) (pa_cons (pe_callB (call_isX (K := K)) (by rfl) B.isinstance (by decide +kernel) (pa_cons (pv 0) (pa_cons (pe_gR (by rfl) GC.Clash) pa_nil))) pa_nil)))))))
  (pss_cons (ps_set (i := 1) sc_law_own.nd rfl (Or.inl rfl) (pe_op (op_addU (K := K)) (pv 1) (pe_lst (pa_cons (pe_callB (call_isX (K := K)) (by rfl) B.isinstance (by decide +kernel) (pa_cons (pv 0) (pa_cons (pe_gR (by rfl) GC.Taken) pa_nil))) (pa_cons (pe_callB (call_isX (K := K)) (by rfl) B.isinstance (by decide +kernel) (pa_cons (pv 0) (pa_cons (pe_gR (by rfl) GC.Lacks) pa_nil))) (pa_cons (pe_callB (call_isX (K := K)) (by rfl) B.isinstance (by decide +kernel) (pa_cons (pv 0) (pa_cons (pe_gR (by rfl) GC.TooMuch) pa_nil))) pa_nil))))))
  (pss_one (ps_ret (pe_lc (own := [("_law_k", 2), ("_law_is_one", 3)]) rfl sc_law_own.nd (pi_En (K := K) (by rfl) B.enumerate (pa_cons (pv 1) pa_nil)) (blkOk_by (own := [("_law_k", 2), ("_law_is_one", 3)]) (N := ["_law_one", "_law_found", "_law_k", "_law_is_one"]) (sc := defScope s_law_own) (by decide +kernel)) (fun _ _ _ _ _ => (pg_T (K := K) (n := 2) rfl (pgs_cons (pg_name (i := 2) sc_law_own.nd rfl (Or.inl rfl)) (pgs_cons (pg_name (i := 3) sc_law_own.nd rfl (Or.inl rfl)) pgs_nil)))) (fun _ _ _ _ _ => (pts_one (pt_val (pv 3)))) (fun _ _ _ _ _ => (pv 2)))))))))), rfl, ?_⟩
  walk_at "sx"
  iterate 18 (refine x_isO (hw.ob 0 rfl) T (.own _) (E5.one i hi _ (by decide)) ?_; walk_at "sx")
  replace hw : W K H0 [] [] _ [(p, .lst ((List.range 18).map fun j => V.bl (decide (i = j))))] [.ob v (cs i) fs] := hw.cells [0] rfl (by simp)
  refine w_lcK hw (walk_enum (xs := (List.range 18).map fun j => V.bl (decide (i = j)))) (fun D j H' => W K H0 [] [] H' [(D, .lst (if i < j then [.int i] else [])), (p, .lst ((List.range 18).map fun j => V.bl (decide (i = j))))] [.ob v (cs i) fs]) ?_ ?_ ?_ ?_
  · intro D H _ hw
    exact hw
  · intro D j H _ hw
    exact SqL.of (hw.at 1 rfl)
  · rintro D j x H _ hj hw ⟨T1, x, y, rfl, hT, rfl, e1, e2⟩
    cases e1
    rw [List.length_map, List.length_range] at hj
    simp only [List.getElem?_map, List.getElem?_range hj, Option.map_some] at e2
    cases e2
    replace hw := hw.pure (Ex.new (o := .tup [.int j, .bl (decide (i = j))]) hT)
    have hTT : SqT K (upd H T1 (.tup [.int j, .bl (decide (i = j))])) T1 [.int j, .bl (decide (i = j))] := .inl (.inl upd_same)
    have hz : (if i < j then [V.int i] else []).length < sizeLine := sz_lt (by split <;> simp)
    walk_at "sx"
    refine x_ifd (fun c1 => ?_) (fun c1 => ?_)
    · subst c1
      walk_at "sx"
      rw [if_pos (by omega)]
      rw [if_neg (by omega)] at hw
      exact hw
    · walk_at "sx"
      by_cases c2 : i < j
      · rw [if_pos c2] at hw
        rw [if_pos (by omega)]
        exact hw
      · rw [if_neg c2] at hw
        rw [if_neg (by omega)]
        exact hw
  intro D H hw
  rw [List.length_map, List.length_range, if_pos hi] at hw
  walk_at "sx"
  exact q D _ (hw.fresh0 0 rfl) hw.ex (hw.at 0 rfl)
theorem ok_over (F : FunD K "_law_over" "_law_over" (defArgs s_law_over) (defBody s_law_over) (defScope s_law_over) [] kws f fd) (B : Blt5 mg) (E5 : Er K cs) : FnG P w K mg base CX0 1 f fd ["_law_one"] (spOver cs) := by
  refine okG F sc_law_over (fun vs H Q E h => ?_) (fun cdv A outer s H0 vs Q E hG hr h => ?_)
  · obtain ⟨v, i, fs, rfl, _⟩ := h
    rfl
  obtain ⟨v, i, fs, rfl, hi, ho, q⟩ := h
  have hw : W K H0 [] [] H0 [] [.ob v (cs i) fs] := W.start0 (fun _ z => nomatch z) (fun r z => by rw [List.mem_singleton.mp z]; rw [del_nil]; exact ho)
  obtain ⟨nI, tl, T⟩ := E5.own i hi
  refine ⟨_, [some v, none, none, none, none], (pss_cons (ps_set (i := 1) sc_law_over.nd rfl (Or.inl rfl) (pe_lst (pa_cons pe_str (pa_cons pe_str (pa_cons pe_str (pa_cons pe_str (pa_cons pe_str (pa_cons pe_str (pa_cons pe_str pa_nil)))))))))
  (pss_cons (ps_set (i := 2) sc_law_over.nd rfl (Or.inl rfl) (pe_lst (pa_cons (pe_callB (call_isX (K := K)) (by rfl) B.isinstance (by decide +kernel) (pa_cons (pv 0) (pa_cons (pe_bltn (v := .ty "ValueError") (by rfl) B.ValueError (by decide +kernel) rfl) pa_nil))) (pa_cons (pe_callB (call_isX (K := K)) (by rfl) B.isinstance (by decide +kernel) (pa_cons (pv 0) (pa_cons (pe_bltn (v := .ty "KeyError") (by rfl) B.KeyError (by decide +kernel) rfl) pa_nil))) (pa_cons (pe_callB (call_isX (K := K)) (by rfl) B.isinstance (by decide +kernel) (pa_cons (pv 0) (pa_cons (pe_bltn (v := .ty "LookupError") (by rfl) B.LookupError (by decide +kernel) rfl) pa_nil))) pa_nil)))))
  (pss_cons (ps_set (i := 2) sc_law_over.nd rfl (Or.inl rfl) (pe_op (op_addU (K := K)) (pv 2) (pe_lst (pa_cons (pe_callB (call_isX (K := K)) (by rfl) B.isinstance (by decide +kernel) (pa_cons (pv 0) (pa_cons (pe_bltn (v := .ty "IndexError") (by rfl) B.IndexError (by decide +kernel) rfl) pa_nil))) (pa_cons (pe_callB (call_isX (K := K)) (by rfl) B.isinstance (by decide +kernel) (pa_cons (pv 0) (pa_cons (pe_bltn (v := .ty "RuntimeError") (by rfl) B.RuntimeError (by decide +kernel) rfl) pa_nil))) (pa_cons (pe_callB (call_isX (K := K)) (by rfl) B.isinstance (by decide +kernel) (pa_cons (pv 0) (pa_cons (pe_bltn (v := .ty "ArithmeticError") (by rfl) B.ArithmeticError (by decide +kernel) rfl) pa_nil))) pa_nil))))))
  (pss_cons (ps_expr (Fw.pe_m1 (K := K) PySem.F.plainAttrs_list PySem.F.slot_list_append PySem.F.type_list_append mt_append (pv 2) (pa_cons (pe_callB (call_isX (K := K)) (by rfl) B.isinstance (by decide +kernel) (pa_cons (pv 0) (pa_cons (pe_bltn (v := .ty "OverflowError") (by rfl) B.OverflowError (by decide +kernel) rfl) pa_nil))) pa_nil)))
  (pss_one (ps_ret (pe_lc (own := [("_law_word", 3), ("_law_is_one", 4)]) rfl sc_law_over.nd (pi_zip (by rfl) B.zip (pa_cons (pv 1) (pa_cons (pv 2) pa_nil))) (blkOk_by (own := [("_law_word", 3), ("_law_is_one", 4)]) (N := ["_law_one", "_law_words", "_law_found", "_law_word", "_law_is_one"]) (sc := defScope s_law_over) (by decide +kernel)) (fun _ _ _ _ _ => (pg_T (K := K) (n := 2) rfl (pgs_cons (pg_name (i := 3) sc_law_over.nd rfl (Or.inl rfl)) (pgs_cons (pg_name (i := 4) sc_law_over.nd rfl (Or.inl rfl)) pgs_nil)))) (fun _ _ _ _ _ => (pts_one (pt_val (pv 4)))) (fun _ _ _ _ _ => (pv 3))))))))), rfl, ?_⟩
  walk_at "sx"
  refine x_isO (hw.ob 0 rfl) T (.ty _) (E5.u0 i hi) ?_
  walk_at "sx"
  refine x_isO (hw.ob 0 rfl) T (.ty _) (E5.u1 i hi) ?_
  walk_at "sx"
  refine x_isO (hw.ob 0 rfl) T (.ty _) (E5.u2 i hi) ?_
  walk_at "sx"
  refine x_isO (hw.ob 0 rfl) T (.ty _) (E5.u3 i hi) ?_
  walk_at "sx"
  refine x_isO (hw.ob 0 rfl) T (.ty _) (E5.u4 i hi) ?_
  walk_at "sx"
  refine x_isO (hw.ob 0 rfl) T (.ty _) (E5.u5 i hi) ?_
  walk_at "sx"
  refine x_isO (hw.ob 0 rfl) T (.ty _) (E5.u6 i hi) ?_
  walk_at "sx"
  rename_i pw _ _ _ _ _ _ _ _ _ _ _ _ _
  refine ⟨_, _, words.map V.str, (flags i).map V.bl, rfl, SqL.of (hw.at 3 rfl), by rw [← over_list hi]; exact SqL.of (hw.at 0 rfl), ?_⟩
  replace hw : W K H0 [] [] H [(p, .lst ((flags i).map V.bl)), (pw, .lst (words.map V.str))] [.ob v (cs i) fs] := by rw [← over_list hi]; exact hw.cells [0, 3] rfl (by simp)
  have hfl := flags_len hi
  have hwl : words.length = 7 := rfl
  refine w_lcK hw (walk_zip (n := 7) (xs := words.map V.str) (ys := (flags i).map V.bl) (by rw [List.length_map, List.length_map, hfl, hwl]; rfl)) (fun D j H' => W K H0 [] [] H' [(D, .lst (((((words.zip (flags i)).take j).filter (·.2)).map (·.1)).map V.str)), (p, .lst ((flags i).map V.bl)), (pw, .lst (words.map V.str))] [.ob v (cs i) fs]) ?_ ?_ ?_ ?_
  · intro D H _ hw
    exact hw
  · intro D j H _ hw
    exact ⟨SqL.of (hw.at 2 rfl), SqL.of (hw.at 1 rfl)⟩
  · rintro D j x H _ hj hw ⟨T1, x, y, rfl, hT, rfl, e1, e2⟩
    simp only [List.getElem?_map] at e1 e2
    obtain ⟨a, ha, rfl⟩ := Option.map_eq_some_iff.mp e1
    obtain ⟨b, hb, rfl⟩ := Option.map_eq_some_iff.mp e2
    have hzp : (words.zip (flags i))[j]? = some (a, b) := List.getElem?_zip_eq_some.mpr ⟨ha, hb⟩
    have htk : (words.zip (flags i)).take (j + 1) = (words.zip (flags i)).take j ++ [(a, b)] := by rw [List.take_add_one, hzp]; rfl
    replace hw := hw.pure (Ex.new (o := .tup [.str a, .bl b]) hT)
    have hTT : SqT K (upd H T1 (.tup [.str a, .bl b])) T1 [.str a, .bl b] := .inl (.inl upd_same)
    have hz : (((((words.zip (flags i)).take j).filter (·.2)).map (·.1)).map V.str).length < sizeLine := sz_lt (by
      rw [List.length_map, List.length_map]
      refine Nat.lt_of_le_of_lt (List.length_filter_le _ _) ?_
      rw [List.length_take]
      omega)
    rw [htk]
    cases b with
    | true =>
      walk_at "sx"
      simpa using hw
    | false =>
      walk_at "sx"
      simpa using hw
  intro D H hw
  rw [List.take_of_length_le (by rw [List.length_zip, hfl, hwl]; decide)] at hw
  walk_at "sx"
  exact q D _ (hw.fresh0 0 rfl) hw.ex (hw.at 0 rfl)
end
end Law
namespace Law
open PySem PySem.Spec PyProof.Rows L2 Fw
abbrev s_law_fields : Stmt := topS 30
theorem sc_law_fields : FnScope ["_law_some", "_law_found"] ["_law_some"] (defScope s_law_fields) := ⟨rfl, rfl, rfl, by decide +kernel, rfl, by decide +kernel, by decide +kernel⟩

abbrev s_law_thing : Stmt := topS 31
theorem sc_law_thing : FnScope ["_law_box", "_law_some"] ["_law_box"] (defScope s_law_thing) := ⟨rfl, rfl, rfl, by decide +kernel, rfl, by decide +kernel, by decide +kernel⟩

def fldN : Nat → List Str
  | 0 => ["part", "row"]
  | 1 => ["row"]
  | 2 => ["at"]
  | 3 => ["thing"]
  | 4 => ["thing"]
  | 5 => ["op", "under"]
  | 6 => ["under"]
  | 7 => ["name"]
  | 8 => ["op"]
  | 9 => ["making"]
  | 10 => ["spot"]
  | 11 => ["path"]
  | 12 => ["ring"]
  | 13 => ["least", "ring"]
  | 14 => ["clash"]
  | 15 => ["name"]
  | 16 => ["spots"]
  | 17 => ["many"]
  | _ => []
def dueD (da db : PyData) : List PyData := [.tuple [da, db], da, da, da, da, .tuple [da, db], da, da, da, da, da, da, da, .tuple [da, db], da, da, da, da]
def Flds (K : PySem.W.Frag) (cs : Nat → Addr) : Prop := ∀ i, i < 18 → ∀ f ∈ fldN i, PySem.W.findIn K (.ref (cs i)) f = some none
def spFields (K : PySem.W.Frag) (cs : Nat → Addr) : Sp := fun vs H Q _ => ∃ (M : List Addr) (p : Addr) (us : List V) (va vb : V) (da db : PyData), vs = [.ref p] ∧ Al M H ∧ H p = some (.lst us) ∧ us.length = 18 ∧ obsG cs (fsA va vb) 0 us (del H M) ∧ Rp K M H va da ∧ Rp K M H vb db ∧
  ∀ q H', Ex [] H H' → Rp K M H' (.ref q) (.list (dueD da db)) → Q (.ref q) H'
section
variable {P : Program} {w : World} {K : PySem.W.Frag} {mg : Str → Option Value} {base : Heap} {f : Addr} {fd : FuncData} {k : Nat} {kws : List (Str × V)} {cs : Nat → Addr}
theorem ok_fields (F : FunD K "_law_fields" "_law_fields" (defArgs s_law_fields) (defBody s_law_fields) (defScope s_law_fields) [] kws f fd) (E5 : Er K cs) (FL : Flds K cs) : FnG P w K mg base CX0 1 f fd ["_law_some"] (spFields K cs) := by
  refine okG F sc_law_fields (fun vs H Q E h => ?_) (fun cdv A outer s H0 vs Q E hG hr h => ?_)
  · obtain ⟨M, p, us, va, vb, da, db, rfl, _⟩ := h
    rfl
  obtain ⟨M, pp, us, va, vb, da, db, rfl, hM, hp, hl, ho, hva, hvb, q⟩ := h
  have hw : W K H0 [] M H0 [] [.rp va da, .rp vb db] := W.start0 hM (fun r z => by
    rcases List.mem_cons.mp z with rfl | z
    · exact hva
    · rw [List.mem_singleton.mp z]; exact hvb)
  replace ho := obsG_mono del_all ho
  have hsq : SqL K H0 pp us := SqL.of hp
  match us, hl with
  | [u0, u1, u2, u3, u4, u5, u6, u7, u8, u9, u10, u11, u12, u13, u14, u15, u16, u17], _ =>
    obtain ⟨n0, t0, T0⟩ := E5.own 0 (by decide)
    obtain ⟨n1, t1, T1⟩ := E5.own 1 (by decide)
    obtain ⟨n2, t2, T2⟩ := E5.own 2 (by decide)
    obtain ⟨n3, t3, T3⟩ := E5.own 3 (by decide)
    obtain ⟨n4, t4, T4⟩ := E5.own 4 (by decide)
    obtain ⟨n5, t5, T5⟩ := E5.own 5 (by decide)
    obtain ⟨n6, t6, T6⟩ := E5.own 6 (by decide)
    obtain ⟨n7, t7, T7⟩ := E5.own 7 (by decide)
    obtain ⟨n8, t8, T8⟩ := E5.own 8 (by decide)
    obtain ⟨n9, t9, T9⟩ := E5.own 9 (by decide)
    obtain ⟨n10, t10, T10⟩ := E5.own 10 (by decide)
    obtain ⟨n11, t11, T11⟩ := E5.own 11 (by decide)
    obtain ⟨n12, t12, T12⟩ := E5.own 12 (by decide)
    obtain ⟨n13, t13, T13⟩ := E5.own 13 (by decide)
    obtain ⟨n14, t14, T14⟩ := E5.own 14 (by decide)
    obtain ⟨n15, t15, T15⟩ := E5.own 15 (by decide)
    obtain ⟨n16, t16, T16⟩ := E5.own 16 (by decide)
    obtain ⟨n17, t17, T17⟩ := E5.own 17 (by decide)
    refine ⟨_, [some (.ref pp), none], (pss_cons (ps_set (i := 1) sc_law_fields.nd rfl (Or.inl rfl) (pe_lst (pa_cons (pe_tup (pa_cons (pe_fldOf (K := K) (pe_ix (ix_U (K := K)) (pv 0) pe_int (fun _ _ => rfl))) (pa_cons (pe_fldOf (K := K) (pe_ix (ix_U (K := K)) (pv 0) pe_int (fun _ _ => rfl))) pa_nil))) (pa_cons (pe_fldOf (K := K) (pe_ix (ix_U (K := K)) (pv 0) pe_int (fun _ _ => rfl))) (pa_cons (pe_fldOf (K := K) (pe_ix (ix_U (K := K)) (pv 0) pe_int (fun _ _ => rfl))) (pa_cons (pe_fldOf (K := K) (pe_ix (ix_U (K := K)) (pv 0) pe_int (fun _ _ => rfl))) (pa_cons (pe_fldOf (K := K) (pe_ix (ix_U (K := K)) (pv 0) pe_int (fun _ _ => rfl))) pa_nil)))))))
  (pss_cons (ps_set (i := 1) sc_law_fields.nd rfl (Or.inl rfl) (pe_op (op_addU (K := K)) (pv 1) (pe_lst (pa_cons (pe_tup (pa_cons (pe_fldOf (K := K) (pe_ix (ix_U (K := K)) (pv 0) pe_int (fun _ _ => rfl))) (pa_cons (pe_fldOf (K := K) (pe_ix (ix_U (K := K)) (pv 0) pe_int (fun _ _ => rfl))) pa_nil))) (pa_cons (pe_fldOf (K := K) (pe_ix (ix_U (K := K)) (pv 0) pe_int (fun _ _ => rfl))) (pa_cons (pe_fldOf (K := K) (pe_ix (ix_U (K := K)) (pv 0) pe_int (fun _ _ => rfl))) (pa_cons (pe_fldOf (K := K) (pe_ix (ix_U (K := K)) (pv 0) pe_int (fun _ _ => rfl))) (pa_cons (pe_fldOf (K := K) (pe_ix (ix_U (K := K)) (pv 0) pe_int (fun _ _ => rfl))) pa_nil))))))))
  (pss_cons (ps_set (i := 1) sc_law_fields.nd rfl (Or.inl rfl) (pe_op (op_addU (K := K)) (pv 1) (pe_lst (pa_cons (pe_fldOf (K := K) (pe_ix (ix_U (K := K)) (pv 0) pe_int (fun _ _ => rfl))) (pa_cons (pe_fldOf (K := K) (pe_ix (ix_U (K := K)) (pv 0) pe_int (fun _ _ => rfl))) (pa_cons (pe_fldOf (K := K) (pe_ix (ix_U (K := K)) (pv 0) pe_int (fun _ _ => rfl))) (pa_cons (pe_tup (pa_cons (pe_fldOf (K := K) (pe_ix (ix_U (K := K)) (pv 0) pe_int (fun _ _ => rfl))) (pa_cons (pe_fldOf (K := K) (pe_ix (ix_U (K := K)) (pv 0) pe_int (fun _ _ => rfl))) pa_nil))) (pa_cons (pe_fldOf (K := K) (pe_ix (ix_U (K := K)) (pv 0) pe_int (fun _ _ => rfl))) pa_nil))))))))
  (pss_one (ps_ret (pe_op (op_addU (K := K)) (pv 1) (pe_lst (pa_cons (pe_fldOf (K := K) (pe_ix (ix_U (K := K)) (pv 0) pe_int (fun _ _ => rfl))) (pa_cons (pe_fldOf (K := K) (pe_ix (ix_U (K := K)) (pv 0) pe_int (fun _ _ => rfl))) (pa_cons (pe_fldOf (K := K) (pe_ix (ix_U (K := K)) (pv 0) pe_int (fun _ _ => rfl))) pa_nil)))))))))), rfl, ?_⟩
    walk_at "sxd"
    refine (ob_mono hw.ex.ext (obsG_at (i := 0) (k := 0) ho rfl)).elim fun a h => h.elim fun d h => ⟨a, cs 0, d, n0, t0, fsA va vb 0, va, h.1, h.2.1, h.2.2, T0, FL 0 (by decide) "part" (by decide), rfl, ?_⟩
    walk_at "sxd"
    refine (ob_mono hw.ex.ext (obsG_at (i := 0) (k := 0) ho rfl)).elim fun a h => h.elim fun d h => ⟨a, cs 0, d, n0, t0, fsA va vb 0, vb, h.1, h.2.1, h.2.2, T0, FL 0 (by decide) "row" (by decide), rfl, ?_⟩
    walk_at "sxd"
    refine (ob_mono hw.ex.ext (obsG_at (i := 0) (k := 1) ho rfl)).elim fun a h => h.elim fun d h => ⟨a, cs 1, d, n1, t1, fsA va vb 1, va, h.1, h.2.1, h.2.2, T1, FL 1 (by decide) "row" (by decide), rfl, ?_⟩
    walk_at "sxd"
    refine (ob_mono hw.ex.ext (obsG_at (i := 0) (k := 2) ho rfl)).elim fun a h => h.elim fun d h => ⟨a, cs 2, d, n2, t2, fsA va vb 2, va, h.1, h.2.1, h.2.2, T2, FL 2 (by decide) "at" (by decide), rfl, ?_⟩
    walk_at "sxd"
    refine (ob_mono hw.ex.ext (obsG_at (i := 0) (k := 3) ho rfl)).elim fun a h => h.elim fun d h => ⟨a, cs 3, d, n3, t3, fsA va vb 3, va, h.1, h.2.1, h.2.2, T3, FL 3 (by decide) "thing" (by decide), rfl, ?_⟩
    walk_at "sxd"
    refine (ob_mono hw.ex.ext (obsG_at (i := 0) (k := 4) ho rfl)).elim fun a h => h.elim fun d h => ⟨a, cs 4, d, n4, t4, fsA va vb 4, va, h.1, h.2.1, h.2.2, T4, FL 4 (by decide) "thing" (by decide), rfl, ?_⟩
    walk_at "sxd"
    refine (ob_mono hw.ex.ext (obsG_at (i := 0) (k := 5) ho rfl)).elim fun a h => h.elim fun d h => ⟨a, cs 5, d, n5, t5, fsA va vb 5, va, h.1, h.2.1, h.2.2, T5, FL 5 (by decide) "op" (by decide), rfl, ?_⟩
    walk_at "sxd"
    refine (ob_mono hw.ex.ext (obsG_at (i := 0) (k := 5) ho rfl)).elim fun a h => h.elim fun d h => ⟨a, cs 5, d, n5, t5, fsA va vb 5, vb, h.1, h.2.1, h.2.2, T5, FL 5 (by decide) "under" (by decide), rfl, ?_⟩
    walk_at "sxd"
    refine (ob_mono hw.ex.ext (obsG_at (i := 0) (k := 6) ho rfl)).elim fun a h => h.elim fun d h => ⟨a, cs 6, d, n6, t6, fsA va vb 6, va, h.1, h.2.1, h.2.2, T6, FL 6 (by decide) "under" (by decide), rfl, ?_⟩
    walk_at "sxd"
    refine (ob_mono hw.ex.ext (obsG_at (i := 0) (k := 7) ho rfl)).elim fun a h => h.elim fun d h => ⟨a, cs 7, d, n7, t7, fsA va vb 7, va, h.1, h.2.1, h.2.2, T7, FL 7 (by decide) "name" (by decide), rfl, ?_⟩
    walk_at "sxd"
    refine (ob_mono hw.ex.ext (obsG_at (i := 0) (k := 8) ho rfl)).elim fun a h => h.elim fun d h => ⟨a, cs 8, d, n8, t8, fsA va vb 8, va, h.1, h.2.1, h.2.2, T8, FL 8 (by decide) "op" (by decide), rfl, ?_⟩
    walk_at "sxd"
    refine (ob_mono hw.ex.ext (obsG_at (i := 0) (k := 9) ho rfl)).elim fun a h => h.elim fun d h => ⟨a, cs 9, d, n9, t9, fsA va vb 9, va, h.1, h.2.1, h.2.2, T9, FL 9 (by decide) "making" (by decide), rfl, ?_⟩
    walk_at "sxd"
    refine (ob_mono hw.ex.ext (obsG_at (i := 0) (k := 10) ho rfl)).elim fun a h => h.elim fun d h => ⟨a, cs 10, d, n10, t10, fsA va vb 10, va, h.1, h.2.1, h.2.2, T10, FL 10 (by decide) "spot" (by decide), rfl, ?_⟩
    walk_at "sxd"
    refine (ob_mono hw.ex.ext (obsG_at (i := 0) (k := 11) ho rfl)).elim fun a h => h.elim fun d h => ⟨a, cs 11, d, n11, t11, fsA va vb 11, va, h.1, h.2.1, h.2.2, T11, FL 11 (by decide) "path" (by decide), rfl, ?_⟩
    walk_at "sxd"
    refine (ob_mono hw.ex.ext (obsG_at (i := 0) (k := 12) ho rfl)).elim fun a h => h.elim fun d h => ⟨a, cs 12, d, n12, t12, fsA va vb 12, va, h.1, h.2.1, h.2.2, T12, FL 12 (by decide) "ring" (by decide), rfl, ?_⟩
    walk_at "sxd"
    refine (ob_mono hw.ex.ext (obsG_at (i := 0) (k := 13) ho rfl)).elim fun a h => h.elim fun d h => ⟨a, cs 13, d, n13, t13, fsA va vb 13, va, h.1, h.2.1, h.2.2, T13, FL 13 (by decide) "least" (by decide), rfl, ?_⟩
    walk_at "sxd"
    refine (ob_mono hw.ex.ext (obsG_at (i := 0) (k := 13) ho rfl)).elim fun a h => h.elim fun d h => ⟨a, cs 13, d, n13, t13, fsA va vb 13, vb, h.1, h.2.1, h.2.2, T13, FL 13 (by decide) "ring" (by decide), rfl, ?_⟩
    walk_at "sxd"
    refine (ob_mono hw.ex.ext (obsG_at (i := 0) (k := 14) ho rfl)).elim fun a h => h.elim fun d h => ⟨a, cs 14, d, n14, t14, fsA va vb 14, va, h.1, h.2.1, h.2.2, T14, FL 14 (by decide) "clash" (by decide), rfl, ?_⟩
    walk_at "sxd"
    refine (ob_mono hw.ex.ext (obsG_at (i := 0) (k := 15) ho rfl)).elim fun a h => h.elim fun d h => ⟨a, cs 15, d, n15, t15, fsA va vb 15, va, h.1, h.2.1, h.2.2, T15, FL 15 (by decide) "name" (by decide), rfl, ?_⟩
    walk_at "sxd"
    refine (ob_mono hw.ex.ext (obsG_at (i := 0) (k := 16) ho rfl)).elim fun a h => h.elim fun d h => ⟨a, cs 16, d, n16, t16, fsA va vb 16, va, h.1, h.2.1, h.2.2, T16, FL 16 (by decide) "spots" (by decide), rfl, ?_⟩
    walk_at "sxd"
    refine (ob_mono hw.ex.ext (obsG_at (i := 0) (k := 17) ho rfl)).elim fun a h => h.elim fun d h => ⟨a, cs 17, d, n17, t17, fsA va vb 17, va, h.1, h.2.1, h.2.2, T17, FL 17 (by decide) "many" (by decide), rfl, ?_⟩
    walk_at "sxd"
    exact q _ _ hw.ex (hw.rp 0 rfl)
end
def things (n : Int) : List PyData := [.int n, .str "plus", .str "abcdef", .tuple [], .tuple [.int 1, .int 2], .list [.tuple [.tuple [.int 1], .str "up"]], .tuple [.str "leaf", .int 0, .tuple []], .none, .str "", .tuple [.int 3, .str "x"]]
def spThing (K : PySem.W.Frag) : Sp := fun vs H Q _ => ∃ (M : List Addr) (b : Addr) (a s c : Int), vs = [.ref b] ∧ Al M H ∧ b ∈ M ∧ H b = some (box a s c) ∧ Bx a s c ∧ c + 2 < 2 ^ 40 ∧
  ∀ v d n a' c' H', d ∈ things n → Bx a' s c' → c' ≤ c + 2 → Ex [b] H H' → H' b = some (box a' s c') → Rp K M H' v d → Q v H'
section
variable {P : Program} {w : World} {K : PySem.W.Frag} {mg : Str → Option Value} {base : Heap} {f : Addr} {fd : FuncData} {k : Nat} {kws : List (Str × V)} {cs : Nat → Addr}
theorem ok_thing (F : FunD K "_law_thing" "_law_thing" (defArgs s_law_thing) (defBody s_law_thing) (defScope s_law_thing) [] kws f fd) (G_law_take : Fq P w K mg base CX0 1 "_law_take" ["_law_box", "_law_wide"] spTake) : FnG P w K mg base CX0 2 f fd ["_law_box"] (spThing K) := by
  refine okG F sc_law_thing (fun vs H Q E h => ?_) (fun cdv A outer s H0 vs Q E hG hr h => ?_)
  · obtain ⟨M, b, a, s, c, rfl, _⟩ := h
    rfl
  obtain ⟨M, b, a, s, c, rfl, hM, hbM, hb, bx, hc, q⟩ := h
  have hw : W K H0 [b] M H0 [(b, box a s c)] [] := W.start1 hb hM (fun _ z => nomatch z)
  refine ⟨_, [some (.ref b), none], (pss_cons (ps_set (i := 1) sc_law_thing.nd rfl (Or.inl rfl) (pe_lst (pa_cons (pe_fq hG G_law_take hr (by first | decide | omega) (by rfl) pass0 (pa_cons (pv 0) (pa_cons (pe_powc (z := 1000000) ⟨by decide, by decide, by decide⟩ (by rfl)) pa_nil))) (pa_cons pe_str (pa_cons pe_str (pa_cons (pe_tup pa_nil) (pa_cons (pe_tup (pa_cons pe_int (pa_cons pe_int pa_nil))) (pa_cons (pe_lst (pa_cons (pe_tup (pa_cons (pe_tup (pa_cons pe_int pa_nil)) (pa_cons pe_str pa_nil))) pa_nil)) (pa_cons (pe_tup (pa_cons pe_str (pa_cons pe_int (pa_cons (pe_tup pa_nil) pa_nil)))) (pa_cons pe_non (pa_cons pe_str (pa_cons (pe_tup (pa_cons pe_int (pa_cons pe_str pa_nil))) pa_nil))))))))))))
  (pss_one (ps_ret (pe_ix (ix_U (K := K)) (pv 1) (pe_fq hG G_law_take hr (by first | decide | omega) (by rfl) pass0 (pa_cons (pv 0) (pa_cons pe_int pa_nil))) (fun _ _ => rfl))))), rfl, ?_⟩
  walk_at "sxd"
  refine x_ixDL (hw.rp 0 rfl) hr0 hr1 fun v d hd hv => ?_
  refine q v d _ _ _ _ (List.mem_of_getElem? hd) bx (by omega) hw.ex (hw.at 0 rfl) (hv.less fun x hx => List.mem_append_right _ hx)
end
end Law
namespace Law
open PySem PySem.Spec PyProof.Rows L2 Fw
abbrev s_law_same : Stmt := topS 25
theorem sc_law_same : FnScope ["_law_found", "_law_due", "_law_one", "_law_other"] ["_law_found", "_law_due"] (defScope s_law_same) := ⟨rfl, rfl, rfl, by decide +kernel, rfl, by decide +kernel, by decide +kernel⟩

def flatD : PyData → Bool
  | .none => true
  | .bool _ => true
  | .int _ => true
  | .str _ => true
  | _ => false
def pl : Nat → PyData → Bool
  | n + 1, .list ds => decide (ds.length ≤ 1000) && ds.all (pl n)
  | n + 1, .tuple ds => decide (ds.length ≤ 1000) && ds.all (pl n)
  | _, d => flatD d
def spSame (K : PySem.W.Frag) (n : Nat) : Sp := fun vs H Q _ => ∃ (v u : V) (d : PyData), vs = [v, u] ∧ Dd K H v d ∧ Dd K H u d ∧ pl n d = true ∧ ∀ H', Ex [] H H' → Q (.bl true) H'
def prevQ (K : PySem.W.Frag) : Nat → Sp
  | 0 => fun _ _ _ _ => False
  | m + 1 => spSame K m
section
variable {P : Program} {w : World} {K : PySem.W.Frag} {mg : Str → Option Value} {base : Heap} {f : Addr} {fd : FuncData} {k : Nat} {kws : List (Str × V)} {cs : Nat → Addr}
theorem same_step (F : FunD K "_law_same" "_law_same" (defArgs s_law_same) (defBody s_law_same) (defScope s_law_same) [] kws f fd) (B : Blt5 mg) (n : Nat) (hn : n ≤ 32) (G_law_same : Fq P w K mg base CX0 n "_law_same" ["_law_found", "_law_due"] (prevQ K n)) : FnG P w K mg base CX0 (n + 1) f fd ["_law_found", "_law_due"] (spSame K n) := by
  refine okG F sc_law_same (fun vs H Q E h => ?_) (fun cdv A outer s H0 vs Q E hG hr h => ?_)
  · obtain ⟨v, u, d, rfl, _⟩ := h
    rfl
  obtain ⟨v, u, d, rfl, hv, hu, hpl, q⟩ := h
  have hw : W K H0 [] [] H0 [] [.rp v d, .rp u d] := W.start0 (fun _ z => nomatch z) (fun r z => by
    rw [del_nil]
    rcases List.mem_cons.mp z with rfl | z
    · exact hv
    · rw [List.mem_singleton.mp z]; exact hu)
  refine ⟨_, [some v, some u, none, none], (pss_cons (ps_if (pt_val (pe_callB (call_isiU (K := K)) (by rfl) B.isinstance (by decide +kernel) (pa_cons (pv 1) (pa_cons (pe_tup (pa_cons (pe_bltn (v := .ty "list") (by rfl) B.list (by decide +kernel) rfl) (pa_cons (pe_bltn (v := .ty "tuple") (by rfl) B.tuple (by decide +kernel) rfl) pa_nil))) pa_nil)))) (pss_cons (ps_if (PW.pt (pw_or (pt_cmpR (op_neU (K := K) hr) (pe_callB (call_isiU (K := K)) (by rfl) B.isinstance (by decide +kernel) (pa_cons (pv 0) (pa_cons (pe_bltn (v := .ty "list") (by rfl) B.list (by decide +kernel) rfl) pa_nil))) (pe_callB (call_isiU (K := K)) (by rfl) B.isinstance (by decide +kernel) (pa_cons (pv 1) (pa_cons (pe_bltn (v := .ty "list") (by rfl) B.list (by decide +kernel) rfl) pa_nil))) (nomark _)) (pw_or1 (pt_cmpR (op_neU (K := K) hr) (pe_callB (call_isiU (K := K)) (by rfl) B.isinstance (by decide +kernel) (pa_cons (pv 0) (pa_cons (pe_bltn (v := .ty "tuple") (by rfl) B.tuple (by decide +kernel) rfl) pa_nil))) (pe_callB (call_isiU (K := K)) (by rfl) B.isinstance (by decide +kernel) (pa_cons (pv 1) (pa_cons (pe_bltn (v := .ty "tuple") (by rfl) B.tuple (by decide +kernel) rfl) pa_nil))) (nomark _))))) (pss_one (ps_ret pe_bl)) pss_nil)
  (pss_one (ps_ret (pe_and (pe_cmpR (op_eqU (K := K) hr) (pe_callB (call_lenU (K := K)) (by rfl) B.len (by decide +kernel) (pa_cons (pv 0) pa_nil)) (pe_callB (call_lenU (K := K)) (by rfl) B.len (by decide +kernel) (pa_cons (pv 1) pa_nil)) (nomark _)) (pe_one (pe_callB (call_allU (K := K) rfl) (by rfl) B.all (by decide +kernel) (pa_cons (pe_lc (own := [("_law_one", 2), ("_law_other", 3)]) rfl sc_law_same.nd (RZ.pi_zipA (by rfl) B.zip (pa_cons (pv 0) (pa_cons (pv 1) pa_nil))) (blkOk_by (own := [("_law_one", 2), ("_law_other", 3)]) (N := ["_law_found", "_law_due", "_law_one", "_law_other"]) (sc := defScope s_law_same) (by decide +kernel)) (fun _ _ _ _ _ => (pg_T (K := K) (n := 2) rfl (pgs_cons (pg_name (i := 2) sc_law_same.nd rfl (Or.inl rfl)) (pgs_cons (pg_name (i := 3) sc_law_same.nd rfl (Or.inl rfl)) pgs_nil)))) (fun _ _ _ _ _ => pts_nil) (fun _ _ _ _ _ => (pe_fq hG G_law_same hr (by first | decide | omega) (by rfl) pass0 (pa_cons (pv 2) (pa_cons (pv 3) pa_nil))))) pa_nil))))))) pss_nil)
  (pss_cons (ps_if (PW.pt (pw_or (pt_cmpR (op_isU) (pv 1) pe_non (nomark _)) (pw_or1 (pt_cmpR (op_isU) (pv 0) pe_non (nomark _))))) (pss_one (ps_ret (pe_and (pe_cmpR (op_isU) (pv 1) pe_non (nomark _)) (pe_one (pe_cmpR (op_isU) (pv 0) pe_non (nomark _)))))) pss_nil)
  (pss_cons (ps_if (PW.pt (pw_or (pt_val (pe_callB (call_isiU (K := K)) (by rfl) B.isinstance (by decide +kernel) (pa_cons (pv 1) (pa_cons (pe_bltn (v := .ty "bool") (by rfl) B.bool (by decide +kernel) rfl) pa_nil)))) (pw_or1 (pt_val (pe_callB (call_isiU (K := K)) (by rfl) B.isinstance (by decide +kernel) (pa_cons (pv 1) (pa_cons (pe_bltn (v := .ty "str") (by rfl) B.str (by decide +kernel) rfl) pa_nil))))))) (pss_one (ps_ret (pe_and (pe_cmpR (op_eqU (K := K) hr) (pe_callB (call_isiU (K := K)) (by rfl) B.isinstance (by decide +kernel) (pa_cons (pv 0) (pa_cons (pe_bltn (v := .ty "bool") (by rfl) B.bool (by decide +kernel) rfl) pa_nil))) (pe_callB (call_isiU (K := K)) (by rfl) B.isinstance (by decide +kernel) (pa_cons (pv 1) (pa_cons (pe_bltn (v := .ty "bool") (by rfl) B.bool (by decide +kernel) rfl) pa_nil))) (nomark _)) (pe_one (pe_cmpR (op_eqU (K := K) hr) (pv 0) (pv 1) (nomark _)))))) pss_nil)
  (pss_one (ps_ret (pe_and (pe_callB (call_isiU (K := K)) (by rfl) B.isinstance (by decide +kernel) (pa_cons (pv 0) (pa_cons (pe_bltn (v := .ty "int") (by rfl) B.int' (by decide +kernel) rfl) pa_nil))) (pe_and (pe_not (pe_callB (call_isiU (K := K)) (by rfl) B.isinstance (by decide +kernel) (pa_cons (pv 0) (pa_cons (pe_bltn (v := .ty "bool") (by rfl) B.bool (by decide +kernel) rfl) pa_nil)))) (pe_one (pe_cmpR (op_eqU (K := K) hr) (pv 0) (pv 1) (nomark _)))))))))), rfl, ?_⟩
  walk_at "sx"
  cases hv with
  | non =>
    cases hu
    refine x_isiDT (b := false) (Rp.dd (hw.rp 1 rfl)) (hw.at 0 rfl) (.cons (.ty _) (.cons (.ty _) .nil)) (by rfl) ?_
    walk_at "sx"
    exact q _ hw.ex
  | bl x =>
    cases hu
    refine x_isiDT (b := false) (Rp.dd (hw.rp 1 rfl)) (hw.at 0 rfl) (.cons (.ty _) (.cons (.ty _) .nil)) (by rfl) ?_
    walk_at "sx"
    exact q _ hw.ex
  | int x =>
    cases hu
    refine x_isiDT (b := false) (Rp.dd (hw.rp 1 rfl)) (hw.at 0 rfl) (.cons (.ty _) (.cons (.ty _) .nil)) (by rfl) ?_
    walk_at "sx"
    exact q _ hw.ex
  | str x =>
    cases hu
    refine x_isiDT (b := false) (Rp.dd (hw.rp 1 rfl)) (hw.at 0 rfl) (.cons (.ty _) (.cons (.ty _) .nil)) (by rfl) ?_
    walk_at "sx"
    exact q _ hw.ex
  | lst ha hxs =>
    cases hu with
    | lst hb hys =>
    rename_i a xs ds b ys _
    have hsx : SqL K H0 a xs := SqL.of ha
    have hsy : SqL K H0 b ys := SqL.of hb
    have lx := hxs.length
    have ly := hys.length
    cases n with
    | zero => exact absurd hpl (by simp [pl, flatD])
    | succ n =>
    simp only [pl, Bool.and_eq_true, decide_eq_true_eq, List.all_eq_true] at hpl
    obtain ⟨hlen, hall⟩ := hpl
    refine x_isiDT (b := true) (Rp.dd (hw.rp 1 rfl)) (hw.at 0 rfl) (.cons (.ty _) (.cons (.ty _) .nil)) (by rfl) ?_
    walk_at "sx"
    refine x_isiD (Rp.dd (hw.rp 0 rfl)) (b := true) (by show kitB "list" "list" = _; decide +kernel) ?_
    walk_at "sx"
    refine x_isiD (Rp.dd (hw.rp 1 rfl)) (b := true) (by show kitB "list" "list" = _; decide +kernel) ?_
    walk_at "sx"
    refine x_isiD (Rp.dd (hw.rp 0 rfl)) (b := false) (by show kitB "list" "tuple" = _; decide +kernel) ?_
    walk_at "sx"
    refine x_isiD (Rp.dd (hw.rp 1 rfl)) (b := false) (by show kitB "list" "tuple" = _; decide +kernel) ?_
    walk_at "sx"
    refine x_iZipA ?_
    walk_at "sx"
    refine ⟨a, b, xs, ys, rfl, .inl ⟨hw.ex.ext.sqL hsx, hw.ex.ext.sqL hsy, ?_⟩⟩
    refine w_lcK hw (walk_zip (n := xs.length) (xs := xs) (ys := ys) (by omega)) (fun D i H' => W K H0 [] [] H' [(D, .lst (List.replicate i (.bl true)))] []) ?_ ?_ ?_ ?_
    · intro D H _ hw
      exact (hw.cells [0] rfl (by simp)).pick [] rfl
    · intro D i H _ hw
      exact ⟨hw.ex.ext.sqL hsx, hw.ex.ext.sqL hsy⟩
    · rintro D i x H _ hi hw ⟨T1, x, y, rfl, hT, rfl, e1, e2⟩
      replace hw := hw.pure (Ex.new (o := .tup [x, y]) hT)
      have hTT : SqT K (upd H T1 (.tup [x, y])) T1 [x, y] := .inl (.inl upd_same)
      obtain ⟨d, hd, hx⟩ := DdAll.item (DdAll.ext hw.ex.ext hxs) e1
      obtain ⟨d', hd', hy⟩ := DdAll.item (DdAll.ext hw.ex.ext hys) e2
      cases hd.symm.trans hd'
      have hz : (List.replicate i (V.bl true)).length < sizeLine := sz_lt (by simp; omega)
      walk_at "sx"
      refine ⟨x, y, d, rfl, hx, hy, hall d (List.mem_of_getElem? hd), fun H e => ?_⟩
      replace hw := hw.pure e
      walk_at "sx"
      rw [List.replicate_succ']
      exact hw
    intro D H hw
    walk_at "sx"
    refine x_allT (hw.at 0 rfl) ?_
    walk_at "sx"
    exact q _ hw.ex
  | tup ha hxs =>
    cases hu with
    | tup hb hys =>
    rename_i a xs ds b ys _
    have hsx : SqT K H0 a xs := ha
    have hsy : SqT K H0 b ys := hb
    have lx := hxs.length
    have ly := hys.length
    cases n with
    | zero => exact absurd hpl (by simp [pl, flatD])
    | succ n =>
    simp only [pl, Bool.and_eq_true, decide_eq_true_eq, List.all_eq_true] at hpl
    obtain ⟨hlen, hall⟩ := hpl
    refine x_isiDT (b := true) (Rp.dd (hw.rp 1 rfl)) (hw.at 0 rfl) (.cons (.ty _) (.cons (.ty _) .nil)) (by rfl) ?_
    walk_at "sx"
    refine x_isiD (Rp.dd (hw.rp 0 rfl)) (b := false) (by show kitB "tuple" "list" = _; decide +kernel) ?_
    walk_at "sx"
    refine x_isiD (Rp.dd (hw.rp 1 rfl)) (b := false) (by show kitB "tuple" "list" = _; decide +kernel) ?_
    walk_at "sx"
    refine x_isiD (Rp.dd (hw.rp 0 rfl)) (b := true) (by show kitB "tuple" "tuple" = _; decide +kernel) ?_
    walk_at "sx"
    refine x_isiD (Rp.dd (hw.rp 1 rfl)) (b := true) (by show kitB "tuple" "tuple" = _; decide +kernel) ?_
    walk_at "sx"
    refine x_lenT (hw.ex.ext.sqT hsx) ?_
    walk_at "sx"
    refine x_lenT (hw.ex.ext.sqT hsy) ?_
    walk_at "sx"
    refine x_iZipA ?_
    walk_at "sx"
    refine ⟨a, b, xs, ys, rfl, .inr ⟨hw.ex.ext.sqT hsx, hw.ex.ext.sqT hsy, ?_⟩⟩
    refine w_lcK hw (walk_zipT (n := xs.length) (xs := xs) (ys := ys) (by omega)) (fun D i H' => W K H0 [] [] H' [(D, .lst (List.replicate i (.bl true)))] []) ?_ ?_ ?_ ?_
    · intro D H _ hw
      exact (hw.cells [0] rfl (by simp)).pick [] rfl
    · intro D i H _ hw
      exact ⟨hw.ex.ext.sqT hsx, hw.ex.ext.sqT hsy⟩
    · rintro D i x H _ hi hw ⟨T1, x, y, rfl, hT, rfl, e1, e2⟩
      replace hw := hw.pure (Ex.new (o := .tup [x, y]) hT)
      have hTT : SqT K (upd H T1 (.tup [x, y])) T1 [x, y] := .inl (.inl upd_same)
      obtain ⟨d, hd, hx⟩ := DdAll.item (DdAll.ext hw.ex.ext hxs) e1
      obtain ⟨d', hd', hy⟩ := DdAll.item (DdAll.ext hw.ex.ext hys) e2
      cases hd.symm.trans hd'
      have hz : (List.replicate i (V.bl true)).length < sizeLine := sz_lt (by simp; omega)
      walk_at "sx"
      refine ⟨x, y, d, rfl, hx, hy, hall d (List.mem_of_getElem? hd), fun H e => ?_⟩
      replace hw := hw.pure e
      walk_at "sx"
      rw [List.replicate_succ']
      exact hw
    intro D H hw
    walk_at "sx"
    refine x_allT (hw.at 0 rfl) ?_
    walk_at "sx"
    exact q _ hw.ex
end
end Law
namespace Law
open PySem PySem.Spec PyProof.Rows L2 Fw
abbrev s_law_right : Stmt := topS 32
theorem sc_law_right : FnScope ["_law_a", "_law_b", "_law_over_here", "_law_due", "_law_some", "_law_one", "_law_k"] ["_law_a", "_law_b"] (defScope s_law_right) := ⟨rfl, rfl, rfl, by decide +kernel, rfl, by decide +kernel, by decide +kernel⟩

abbrev slaw : Stmt := topS 33
theorem sclaw : FnScope ["_law_script", "_law_cells", "_law_k", "_law_box", "_law_turn"] ["_law_script"] (defScope slaw) := ⟨rfl, rfl, rfl, by decide +kernel, rfl, by decide +kernel, by decide +kernel⟩

structure Con5 (mg : Str → Option Value) : Prop where
  LIMIT : ∃ t, mg "LIMIT" = some (.int 400 t)
  ROUNDS : ∃ t, mg "ROUNDS" = some (.int 120 t)
def spRight (K : PySem.W.Frag) : Sp := fun vs H Q _ => ∃ (va vb : V) (da db : PyData), vs = [va, vb] ∧ Dd K H va da ∧ Dd K H vb db ∧ pl 3 da = true ∧ pl 3 db = true ∧ ∀ H', Ex [] H H' → Q (.bl true) H'
def spLaw (K : PySem.W.Frag) : Sp := fun vs H Q _ => ∃ (a : Addr) (ns : List Int), vs = [.ref a] ∧ SqL K H a (ns.map V.int) ∧ ns.length ≤ 63 ∧ ∀ H', Q (.bl true) H'
theorem flat_pl : ∀ {n : Nat} {d : PyData}, flatD d = true → pl n d = true
  | 0, d, h => by unfold pl; exact h
  | n + 1, .none, _ => rfl
  | n + 1, .bool _, _ => rfl
  | n + 1, .int _, _ => rfl
  | n + 1, .str _, _ => rfl
theorem pl_up : ∀ {n : Nat} {d : PyData}, pl n d = true → pl (n + 1) d = true
  | 0, d, h => by unfold pl at h; exact flat_pl h
  | n + 1, .none, _ => rfl
  | n + 1, .bool _, _ => rfl
  | n + 1, .int _, _ => rfl
  | n + 1, .str _, _ => rfl
  | n + 1, .dict _, h => by simp [pl, flatD] at h
  | n + 1, .list ds, h => by
    simp only [pl, Bool.and_eq_true, decide_eq_true_eq, List.all_eq_true] at h ⊢
    exact ⟨h.1, fun d hd => pl_up (h.2 d hd)⟩
  | n + 1, .tuple ds, h => by
    simp only [pl, Bool.and_eq_true, decide_eq_true_eq, List.all_eq_true] at h ⊢
    exact ⟨h.1, fun d hd => pl_up (h.2 d hd)⟩
theorem due_pl {da db : PyData} (h1 : pl 3 da = true) (h2 : pl 3 db = true) : pl 5 (.list (dueD da db)) = true := by
  have h3 := pl_up h1
  simp only [dueD, pl, List.length_cons, List.length_nil, List.all_cons, List.all_nil, h1, h2, h3, Bool.and_true, Bool.and_self, decide_true]
  rfl
theorem things_pl {n : Int} {d : PyData} (h : d ∈ things n) : pl 3 d = true := by
  simp only [things, List.mem_cons, List.not_mem_nil, or_false] at h
  rcases h with rfl | rfl | rfl | rfl | rfl | rfl | rfl | rfl | rfl | rfl <;> rfl
def ownD (i : Nat) : List PyData := (List.range i).map fun (j : Nat) => .list [.int (j : Int)]
def overD (i : Nat) : List PyData := (List.range i).map fun j => .list ((overs j).map .str)
theorem ownD_succ (i : Nat) : ownD (i + 1) = ownD i ++ [.list [.int i]] := by unfold ownD; rw [List.range_succ, List.map_append]; rfl
theorem overD_succ (i : Nat) : overD (i + 1) = overD i ++ [.list ((overs i).map .str)] := by unfold overD; rw [List.range_succ, List.map_append]; rfl
section
variable {P : Program} {w : World} {K : PySem.W.Frag} {mg : Str → Option Value} {base : Heap} {f : Addr} {fd : FuncData} {k : Nat} {kws : List (Str × V)} {cs : Nat → Addr}
theorem same_fn (F : FunD K "_law_same" "_law_same" (defArgs s_law_same) (defBody s_law_same) (defScope s_law_same) [] kws f fd) (B : Blt5 mg) (gm : mg "_law_same" = some (.ref f)) : ∀ n, n ≤ 32 → FnG P w K mg base CX0 (n + 1) f fd ["_law_found", "_law_due"] (spSame K n)
  | 0, h => same_step F B 0 h (mkFq F gm (fun _ _ _ _ _ _ us hl => match us, hl with | [_, _], _ => rfl) ⟨fun _ _ _ _ z => z.elim, fun _ _ _ _ _ _ _ _ _ _ _ _ _ _ z => z.elim⟩)
  | n + 1, h => same_step F B (n + 1) h (mkFq F gm (fun _ _ _ _ _ _ us hl => match us, hl with | [_, _], _ => rfl) (same_fn F B gm n (by omega)))
theorem ok_right (F : FunD K "_law_right" "_law_right" (defArgs s_law_right) (defBody s_law_right) (defScope s_law_right) [] kws f fd) (B : Blt5 mg) (G_law_made : Fq P w K mg base CX0 3 "_law_made" ["_law_a", "_law_b"] (spMade cs)) (G_law_called : Fq P w K mg base CX0 3 "_law_called" ["_law_a", "_law_b"] (spMade cs))
    (G_law_own : Fq P w K mg base CX0 1 "_law_own" ["_law_one"] (spOwn cs)) (G_law_over : Fq P w K mg base CX0 1 "_law_over" ["_law_one"] (spOver cs)) (G_law_fields : Fq P w K mg base CX0 1 "_law_fields" ["_law_some"] (spFields K cs)) (G_law_same : Fq P w K mg base CX0 6 "_law_same" ["_law_found", "_law_due"] (spSame K 5)) : FnG P w K mg base CX0 7 f fd ["_law_a", "_law_b"] (spRight K) := by
  refine okG F sc_law_right (fun vs H Q E h => ?_) (fun cdv A outer s H0 vs Q E hG hr h => ?_)
  · obtain ⟨va, vb, da, db, rfl, _⟩ := h
    rfl
  obtain ⟨va, vb, da, db, rfl, hva, hvb, hpa, hpb, q⟩ := h
  have hw : W K H0 [] [] H0 [] [.rp va da, .rp vb db] := W.start0 (fun _ z => nomatch z) (fun r z => by
    rw [del_nil]
    rcases List.mem_cons.mp z with rfl | z
    · exact hva
    · rw [List.mem_singleton.mp z]; exact hvb)
  refine ⟨_, [some va, some vb, none, none, none, none, none], (pss_cons (ps_set (i := 2) sc_law_right.nd rfl (Or.inl rfl) (pe_op (op_addU (K := K)) (pe_op (op_addU (K := K)) (pe_op (op_addU (K := K)) (pe_op (op_mulU (K := K)) (pe_lst (pa_cons (pe_lst (pa_cons pe_str pa_nil)) pa_nil)) pe_int) (pe_op (op_mulU (K := K)) (pe_lst (pa_cons (pe_lst (pa_cons pe_str (pa_cons pe_str pa_nil))) pa_nil)) pe_int)) (pe_lst (pa_cons (pe_lst (pa_cons pe_str pa_nil)) (pa_cons (pe_lst (pa_cons pe_str (pa_cons pe_str pa_nil))) pa_nil)))) (pe_op (op_mulU (K := K)) (pe_lst (pa_cons (pe_lst (pa_cons pe_str pa_nil)) pa_nil)) pe_int)))
  (pss_cons (ps_set (i := 2) sc_law_right.nd rfl (Or.inl rfl) (pe_op (op_addU (K := K)) (pv 2) (pe_lst (pa_cons (pe_lst (pa_cons pe_str pa_nil)) (pa_cons (pe_lst (pa_cons pe_str (pa_cons pe_str pa_nil))) pa_nil)))))
  (pss_cons (ps_set (i := 3) sc_law_right.nd rfl (Or.inl rfl) (pe_op (op_mulU (K := K)) (pe_lst (pa_cons (pv 0) pa_nil)) pe_int))
  (pss_cons (ps_asg (pe_tup (pa_cons (pe_tup (pa_cons (pv 0) (pa_cons (pv 1) pa_nil))) (pa_cons (pe_tup (pa_cons (pv 0) (pa_cons (pv 1) pa_nil))) (pa_cons (pe_tup (pa_cons (pv 0) (pa_cons (pv 1) pa_nil))) pa_nil)))) (pg_T (K := K) (n := 3) rfl (pgs_cons (pg_sub (pv 3) pe_int set_list) (pgs_cons (pg_sub (pv 3) pe_int set_list) (pgs_cons (pg_sub (pv 3) pe_int set_list) pgs_nil)))))
  (pss_cons (ps_for PassesOwn.never rfl (pi_U (K := K) (pe_tup (pa_cons (pe_fq hG G_law_made hr (by first | decide | omega) (by rfl) pass0 (pa_cons (pv 0) (pa_cons (pv 1) pa_nil))) (pa_cons (pe_fq hG G_law_called hr (by first | decide | omega) (by rfl) pass0 (pa_cons (pv 0) (pa_cons (pv 1) pa_nil))) pa_nil)))) (pg_name (i := 4) sc_law_right.nd rfl (Or.inl rfl)) (pss_cons (ps_if (PW.pt (pw_or (pt_cmpR (op_neU (K := K) hr) (pe_lc (own := [("_law_one", 5)]) rfl sc_law_right.nd (pi_U (K := K) (pv 4)) (blkOk_by (own := [("_law_one", 5)]) (N := ["_law_a", "_law_b", "_law_over_here", "_law_due", "_law_some", "_law_one", "_law_k"]) (sc := defScope s_law_right) (by decide +kernel)) (fun _ _ _ _ _ => (pg_name (i := 5) sc_law_right.nd rfl (Or.inl rfl))) (fun _ _ _ _ _ => pts_nil) (fun _ _ _ _ _ => (pe_fq hG G_law_own hr (by first | decide | omega) (by rfl) pass0 (pa_cons (pv 5) pa_nil)))) (pe_lc (own := [("_law_k", 6)]) rfl sc_law_right.nd (pi_range1 (by rfl) B.range (pa_cons pe_int pa_nil)) (blkOk_by (own := [("_law_k", 6)]) (N := ["_law_a", "_law_b", "_law_over_here", "_law_due", "_law_some", "_law_one", "_law_k"]) (sc := defScope s_law_right) (by decide +kernel)) (fun _ _ _ _ _ => (pg_name (i := 6) sc_law_right.nd rfl (Or.inl rfl))) (fun _ _ _ _ _ => pts_nil) (fun _ _ _ _ _ => (pe_lst (pa_cons (pv 6) pa_nil)))) (nomark _)) (pw_or1 (pt_cmpR (op_neU (K := K) hr) (pe_lc (own := [("_law_one", 5)]) rfl sc_law_right.nd (pi_U (K := K) (pv 4)) (blkOk_by (own := [("_law_one", 5)]) (N := ["_law_a", "_law_b", "_law_over_here", "_law_due", "_law_some", "_law_one", "_law_k"]) (sc := defScope s_law_right) (by decide +kernel)) (fun _ _ _ _ _ => (pg_name (i := 5) sc_law_right.nd rfl (Or.inl rfl))) (fun _ _ _ _ _ => pts_nil) (fun _ _ _ _ _ => (pe_fq hG G_law_over hr (by first | decide | omega) (by rfl) pass0 (pa_cons (pv 5) pa_nil)))) (pv 2) (nomark _))))) (pss_one (ps_ret pe_bl)) pss_nil)
  (pss_one (ps_if (pt_not (pt_val (pe_fq hG G_law_same hr (by first | decide | omega) (by rfl) pass0 (pa_cons (pe_fq hG G_law_fields hr (by first | decide | omega) (by rfl) pass0 (pa_cons (pv 4) pa_nil)) (pa_cons (pv 3) pa_nil))))) (pss_one (ps_ret pe_bl)) pss_nil))))
  (pss_one (ps_ret pe_bl))))))), rfl, ?_⟩
  walk_at "sxd"
  refine w_repD 7 hw (hw.rp 0 rfl) (by decide) (by decide) fun p H hp hw => ?_
  walk_at "sxd"
  refine w_repD 3 hw (hw.rp 0 rfl) (by decide) (by decide) fun p H hp hw => ?_
  walk_at "sxd"
  refine w_repD 4 hw (hw.rp 0 rfl) (by decide) (by decide) fun p H hp hw => ?_
  walk_at "sxd"
  rename Addr => po
  replace hw : W K H0 [] [] H [] [.rp (.ref po) (.list (overD 18)), .rp va da, .rp vb db] := hw.pick [0, 19, 20] rfl
  refine w_lst hw (szl rfl) fun p1 H hp hw => ?_
  walk_at "sx"
  refine w_rep hw (hw.at 0 rfl) (by decide) (by decide) (szl rfl) fun pd H hp hw => ?_
  replace hw : W K H0 [] [] H [(pd, .lst (List.replicate 18 va))] _ := hw.cells [0] rfl (by simp)
  walk_at "sx"
  rename_i a0 _ _ _ a5 _ _ _ a13 _ _ _ _ _ _ _ _ _
  replace hw : W K H0 [] [] H [(a0, .tup [va, vb]), (a5, .tup [va, vb]), (a13, .tup [va, vb]), (pd, .lst [.ref a0, va, va, va, va, .ref a5, va, va, va, va, va, va, va, .ref a13, va, va, va, va])] _ := hw.cells [3, 2, 1, 4] rfl (by simp)
  replace hw := hw.freezeT0 (ds := [da, db]) (by walk_at "dd")
  replace hw := hw.freezeT0 (ds := [da, db]) (by walk_at "dd")
  replace hw := hw.freezeT0 (ds := [da, db]) (by walk_at "dd")
  replace hw := hw.freeze0 (ds := dueD da db) (by walk_at "dd")
  replace hw : W K H0 [] [] H [] [.rp (.ref pd) (.list (dueD da db)), .rp (.ref po) (.list (overD 18)), .rp va da, .rp vb db] := hw.pick [0, 4, 5, 6] rfl
  refine ⟨[], va, vb, rfl, (fun _ z => nomatch z), fun q1 us1 H hl1 hp1 e hq1 ho1 => ?_⟩
  replace hw := hw.adopt e hp1 hq1
  replace hw := hw.addX (q := obsG cs (fsA va vb) 0 us1) (m := fun e h => obsG_mono e h) ho1
  walk_at "sx"
  refine ⟨[q1], va, vb, rfl, (fun x z => by rw [List.mem_singleton.mp z, hw.at 0 rfl]; exact fun z => nomatch z), fun q2 us2 H hl2 hp2 e hq2 ho2 => ?_⟩
  replace hw := hw.adopt e hp2 hq2
  replace hw := hw.addX (q := obsG cs (fsA va vb) 0 us2) (m := fun e h => obsG_mono e h) ho2
  walk_at "sx"
  replace hw := hw.keep0.keep0.keep0
  refine w_for (walk_tup (xs := [.ref q1, .ref q2])) (fun i σ H' => ∃ (y4 y5 y6 : Option V), σ = [some va, some vb, some (.ref po), some (.ref pd), y4, y5, y6] ∧ W K H0 [] [] H' [] [.kn q1 (.lst us1), .kn q2 (.lst us2), .kn p (.tup [.ref q1, .ref q2]), .px (obsG cs (fsA va vb) 0 us2) (fun e h => obsG_mono e h), .px (obsG cs (fsA va vb) 0 us1) (fun e h => obsG_mono e h), .rp (.ref pd) (.list (dueD da db)), .rp (.ref po) (.list (overD 18)), .rp va da, .rp vb db]) ?_ ?_ ?_ ?_
  · exact ⟨_, _, _, rfl, hw⟩
  · rintro i σ H' _ ⟨y4, y5, y6, rfl, hw⟩
    exact SqT.of (hw.kn 2 rfl)
  · rintro i x σ _ H hi ⟨y4, y5, y6, rfl, hw⟩ ⟨rfl, hx⟩
    obtain ⟨qq, us, rfl, hl, hw⟩ : ∃ (qq : Addr) (us : List V), x = .ref qq ∧ us.length = 18 ∧ W K H0 [] [] H [] [.kn qq (.lst us), .px (obsG cs (fsA va vb) 0 us) (fun e h => obsG_mono e h), .kn q1 (.lst us1), .kn q2 (.lst us2), .kn p (.tup [.ref q1, .ref q2]), .px (obsG cs (fsA va vb) 0 us2) (fun e h => obsG_mono e h), .px (obsG cs (fsA va vb) 0 us1) (fun e h => obsG_mono e h), .rp (.ref pd) (.list (dueD da db)), .rp (.ref po) (.list (overD 18)), .rp va da, .rp vb db] := by
      match i, hi with
      | 0, _ => cases hx; exact ⟨q1, us1, rfl, hl1, hw.pick [0, 4, 0, 1, 2, 3, 4, 5, 6, 7, 8] rfl⟩
      | 1, _ => cases hx; exact ⟨q2, us2, rfl, hl2, hw.pick [1, 3, 0, 1, 2, 3, 4, 5, 6, 7, 8] rfl⟩
    obtain ⟨R0, hR0⟩ : ∃ R0, R0 = [Fa.kn q1 (.lst us1), .kn q2 (.lst us2), .kn p (.tup [.ref q1, .ref q2]), .px (obsG cs (fsA va vb) 0 us2) (fun e h => obsG_mono e h), .px (obsG cs (fsA va vb) 0 us1) (fun e h => obsG_mono e h), .rp (.ref pd) (.list (dueD da db)), .rp (.ref po) (.list (overD 18)), .rp va da, .rp vb db] := ⟨_, rfl⟩
    rw [← hR0]
    rw [← hR0] at hw
    walk_at "sx"
    refine w_lcK hw (walk_list (xs := us)) (fun D i H' => ∃ vs, vs.length = i ∧ W K H0 [] [] H' [(D, .lst vs)] (.al vs (ownD i) :: .kn qq (.lst us) :: .px (obsG cs (fsA va vb) 0 us) (fun e h => obsG_mono e h) :: R0)) ?_ ?_ ?_ ?_
    · intro D H _ hw
      exact ⟨[], rfl, hw.addA .nil⟩
    · rintro D i H _ ⟨vs, _, hw⟩
      exact SqL.of (hw.kn 1 rfl)
    · rintro D i x _ H hi ⟨vs, hvl, hw⟩ ⟨rfl, hx⟩
      have hz : vs.length < sizeLine := sz_lt (by omega)
      have hox := obsG_at (obsG_mono del_all (hw.px 2 rfl)) hx
      rw [Nat.zero_add] at hox
      walk_at "sx"
      refine ⟨x, i, _, rfl, by omega, hox, fun p' H hp' e hpp => ?_⟩
      replace hw := hw.adopt e hp' hpp
      replace hw := hw.freeze0 (ds := [.int i]) (by walk_at "dd")
      replace hw := hw.more
      rw [← ownD_succ] at hw
      walk_at "sx"
      exact ⟨_, by simp [hvl], hw⟩
    rintro D H ⟨vs, hvl, hw⟩
    rw [hl] at hw
    replace hw := hw.freeze0 (hw.all 0 rfl)
    walk_at "sx"
    refine w_lcK hw walk_range (fun D2 i H' => ∃ ws, ws.length = i ∧ W K H0 [] [] H' [(D2, .lst ws)] (.al ws (ownD i) :: .rp (.ref D) (.list (ownD 18)) :: .al vs (ownD 18) :: .kn qq (.lst us) :: .px (obsG cs (fsA va vb) 0 us) (fun e h => obsG_mono e h) :: R0)) ?_ ?_ ?_ ?_
    · intro D H _ hw
      exact ⟨[], rfl, hw.addA .nil⟩
    · intros
      trivial
    · rintro D i x _ H hi ⟨ws, hvl, hw⟩ ⟨rfl, rfl⟩
      have hz : ws.length < sizeLine := sz_lt (by omega)
      walk_at "sxd"
      rw [Int.zero_add] at hw
      replace hw := hw.more
      rw [← ownD_succ] at hw
      exact ⟨_, by simp [hvl], hw⟩
    rintro D2 H ⟨ws, hwl, hw⟩
    replace hw := hw.freeze0 (hw.all 0 rfl)
    refine x_neD (hw.rp 2 rfl).dp (hw.rp 0 rfl).dp (by decide +kernel) (by decide +kernel) ?_
    rw [show PyData.eqv (.list (ownD 18)) (.list (ownD (Int.toNat 18))) = true from by decide +kernel]
    walk_at "sx"
    replace hw : W K H0 [] [] H [] (.kn qq (.lst us) :: .px (obsG cs (fsA va vb) 0 us) (fun e h => obsG_mono e h) :: R0) := hw.sub fun r hr => List.mem_cons_of_mem _ (List.mem_cons_of_mem _ (List.mem_cons_of_mem _ (List.mem_cons_of_mem _ hr)))
    refine w_lcK hw (walk_list (xs := us)) (fun D i H' => ∃ vs, vs.length = i ∧ W K H0 [] [] H' [(D, .lst vs)] (.al vs (overD i) :: .kn qq (.lst us) :: .px (obsG cs (fsA va vb) 0 us) (fun e h => obsG_mono e h) :: R0)) ?_ ?_ ?_ ?_
    · intro D H _ hw
      exact ⟨[], rfl, hw.addA .nil⟩
    · rintro D i H _ ⟨vs, _, hw⟩
      exact SqL.of (hw.kn 1 rfl)
    · rintro D i x _ H hi ⟨vs, hvl, hw⟩ ⟨rfl, hx⟩
      have hz : vs.length < sizeLine := sz_lt (by omega)
      have hox := obsG_at (obsG_mono del_all (hw.px 2 rfl)) hx
      rw [Nat.zero_add] at hox
      walk_at "sx"
      refine ⟨x, i, _, rfl, by omega, hox, fun p' H hp' e hpp => ?_⟩
      replace hw := hw.adopt e hp' hpp
      replace hw := hw.freeze0 (DdAll.strs (overs i))
      replace hw := hw.more
      rw [← overD_succ] at hw
      walk_at "sx"
      exact ⟨_, by simp [hvl], hw⟩
    rintro D H ⟨vs, hvl, hw⟩
    rw [hl] at hw
    replace hw := hw.freeze0 (hw.all 0 rfl)
    subst hR0
    walk_at "sx"
    refine x_neD (hw.rp 0 rfl).dp (hw.rp 10 rfl).dp (by decide +kernel) (by decide +kernel) ?_
    rw [show PyData.eqv (.list (overD 18)) (.list (overD 18)) = true from by decide +kernel]
    walk_at "sx"
    refine ⟨[], qq, us, va, vb, da, db, rfl, (fun _ z => nomatch z), hw.kn 2 rfl, hl, hw.px 3 rfl, hw.rp 11 rfl, hw.rp 12 rfl, fun q4 H e hq => ?_⟩
    replace hw := (hw.pure e).add hq
    walk_at "sx"
    refine ⟨_, _, _, rfl, (hw.rp 0 rfl).dd, (hw.rp 10 rfl).dd, due_pl hpa hpb, fun H e => ?_⟩
    replace hw := hw.pure e
    walk_at "sx"
    exact ⟨_, _, _, rfl, hw.pick [5, 6, 7, 8, 9, 10, 11, 12, 13] rfl⟩
  · rintro σ H ⟨y4, y5, y6, rfl, hw⟩
    walk_at "sx"
    exact q _ hw.ex
theorem ok_law (F : FunD K "law" "law" (defArgs slaw) (defBody slaw) (defScope slaw) [] kws f fd) (B : Blt5 mg) (C : Con5 mg) (G_law_folded : Fq P w K mg base CX0 1 "_law_folded" ["_law_script", "_law_size"] (spFolded K)) (G_law_dip : Fq P w K mg base CX0 1 "_law_dip" ["_law_script", "_law_k"] (spDip K)) (G_law_thing : Fq P w K mg base CX0 2 "_law_thing" ["_law_box"] (spThing K)) (G_law_same : Fq P w K mg base CX0 6 "_law_same" ["_law_found", "_law_due"] (spSame K 5)) (G_law_right : Fq P w K mg base CX0 7 "_law_right" ["_law_a", "_law_b"] (spRight K)) : FnG P w K mg base CX0 8 f fd ["_law_script"] (spLaw K) := by
  refine okG F sclaw (fun vs H Q E h => ?_) (fun cdv A outer s H0 vs Q E hG hr h => ?_)
  · obtain ⟨a, ns, rfl, _⟩ := h
    rfl
  obtain ⟨a, ns, rfl, hb, hn, q⟩ := h
  have hw : W K H0 [] [] H0 [] [] := W.start0 (fun _ z => nomatch z) (fun _ z => nomatch z)
  refine ⟨_, [some (.ref a), none, none, none, none], (pss_cons (ps_set (i := 1) sclaw.nd rfl (Or.inl rfl) (pe_fq hG G_law_folded hr (by first | decide | omega) (by rfl) pass0 (pa_cons (pv 0) (pa_cons pe_int pa_nil))))
  (pss_cons (ps_for PassesOwn.never rfl (pi_range1 (by rfl) B.range (pa_cons (pe_op (op_addU (K := K)) pe_int (pe_callB (call_lenU (K := K)) (by rfl) B.len (by decide +kernel) (pa_cons (pv 1) pa_nil))) pa_nil)) (pg_name (i := 2) sclaw.nd rfl (Or.inl rfl)) (pss_cons (ps_set (i := 3) sclaw.nd rfl (Or.inr rfl) (pe_fq hG G_law_dip hr (by first | decide | omega) (by rfl) pass0 (pa_cons (pv 1) (pa_cons (pv 2) pa_nil))))
  (pss_one (ps_if (pt_not (pt_val (pe_callB (call_allU (K := K) rfl) (by rfl) B.all (by decide +kernel) (pa_cons (pe_lc (own := [("_law_turn", 4)]) rfl sclaw.nd (pi_range1 (by rfl) B.range (pa_cons pe_int pa_nil)) (blkOk_by (own := [("_law_turn", 4)]) (N := ["_law_script", "_law_cells", "_law_k", "_law_box", "_law_turn"]) (sc := defScope slaw) (by decide +kernel)) (fun _ _ _ _ _ => (pg_name (i := 4) sclaw.nd rfl (Or.inl rfl))) (fun _ _ _ _ _ => pts_nil) (fun _ _ _ _ _ => (pe_fq hG G_law_right hr (by first | decide | omega) (by rfl) pass0 (pa_cons (pe_fq hG G_law_thing hr (by first | decide | omega) (by rfl) pass0 (pa_cons (pv 3) pa_nil)) (pa_cons (pe_fq hG G_law_thing hr (by first | decide | omega) (by rfl) pass0 (pa_cons (pv 3) pa_nil)) pa_nil))))) pa_nil)))) (pss_one (ps_ret pe_bl)) pss_nil))))
  (pss_one (ps_ret (pe_fq hG G_law_same hr (by first | decide | omega) (by rfl) pass0 (pa_cons (pe_lst (pa_cons (pe_gI (by rfl) C.LIMIT) (pa_cons (pe_gI (by rfl) C.ROUNDS) pa_nil))) (pa_cons (pe_lst (pa_cons pe_int (pa_cons pe_int pa_nil))) pa_nil))))))), rfl, ?_⟩
  walk_at "sx"
  refine ⟨a, ns, 2, rfl, hb, by decide, by decide, by omega, fun ms pc H hm hpc e hc => ?_⟩
  replace hw := hw.pure e
  replace hw := hw.addF (r := .kn pc (.lst (ms.map V.int))) (by rw [av, List.map_nil, List.nil_append]; show Fw.del H [] pc = _; rw [del_nil]; exact hc)
  have hm3 : ms.length ≤ 2 := by omega
  walk_at "sx"
  refine w_for walk_range (fun i σ H' => ∃ (y2 y3 y4 : Option V), σ = [some (.ref a), some (.ref pc), y2, y3, y4] ∧ W K H0 [] [] H' [] [.kn pc (.lst (ms.map V.int))]) ?_ ?_ ?_ ?_
  · exact ⟨_, _, _, rfl, hw⟩
  · intros
    trivial
  · rintro i x σ _ H hi ⟨y2, y3, y4, rfl, hw⟩ ⟨rfl, rfl⟩
    rw [List.length_map] at hi
    have hi9 : i < 5 := by omega
    walk_at "sx"
    refine ⟨[], pc, ms, _, rfl, (fun _ z => nomatch z), .lst (by rw [del_nil]; exact hw.kn 0 rfl) (DdAll.ints ms), by omega, by omega, fun x y pb H bx hpb e hb => ?_⟩
    replace hw := hw.adopt e hpb hb
    walk_at "sx"
    refine w_lcK hw walk_range (fun D j H' => ∃ x c, Bx x y c ∧ c ≤ 4 * j ∧ W K H0 [] [] H' [(D, .lst (List.replicate j (.bl true))), (pb, box x y c)] [.kn pc (.lst (ms.map V.int))]) ?_ ?_ ?_ ?_
    · intro D H _ hw
      exact ⟨x, 0, bx, by omega, hw⟩
    · intros
      trivial
    · rintro D j z _ H hj ⟨x, c, bx, hc, hw⟩ ⟨rfl, rfl⟩
      have hj6 : j < 6 := hj
      have hzz : (List.replicate j (V.bl true)).length < sizeLine := sz_lt (by simp; omega)
      walk_at "sx"
      refine ⟨_, pb, x, y, c, rfl, hw.alloc', by simp, hw.at 1 rfl, bx, by omega, fun v1 d1 n1 x1 c1 H hd1 bx hc1 e hb hv1 => ?_⟩
      replace hw := hw.callD 1 rfl e hb hv1
      simp only [List.set_cons_zero, List.set_cons_succ] at hw
      walk_at "sx"
      refine ⟨_, pb, x1, y, c1, rfl, hw.alloc', by simp, hw.at 1 rfl, bx, by omega, fun v2 d2 n2 x2 c2 H hd2 bx hc2 e hb hv2 => ?_⟩
      replace hw := hw.callD 1 rfl e hb hv2
      simp only [List.set_cons_zero, List.set_cons_succ] at hw
      walk_at "sx"
      refine ⟨v1, v2, d1, d2, rfl, (hw.rp 1 rfl).dd, (hw.rp 0 rfl).dd, things_pl hd1, things_pl hd2, fun H e => ?_⟩
      replace hw := hw.pure e
      walk_at "sx"
      rw [List.replicate_succ']
      exact ⟨x2, c2, bx, by omega, hw.pick [2] rfl⟩
    rintro D H ⟨x, c, bx, hc, hw⟩
    walk_at "sx"
    refine x_allT (hw.at 0 rfl) ?_
    walk_at "sx"
    exact ⟨_, _, _, rfl, hw.drop1.drop1⟩
  · rintro σ H ⟨y2, y3, y4, rfl, hw⟩
    walk_at "sxd"
    refine ⟨_, _, .list [.int 400, .int 120], rfl, (hw.rp 1 rfl).dd, (hw.rp 0 rfl).dd, rfl, fun H e => ?_⟩
    exact q _
end
end Law
namespace Law
open PySem PySem.Spec PyProof.Rows L2 Fw
abbrev sBadGrammar_init : Stmt := inClass (topS 1) 0
theorem scBadGrammar_init : FnScope ["self", "part", "row"] ["self", "part", "row"] (defScope sBadGrammar_init) := ⟨rfl, rfl, rfl, by decide +kernel, rfl, by decide +kernel, by decide +kernel⟩

abbrev sBadRow_init : Stmt := inClass (topS 2) 0
theorem scBadRow_init : FnScope ["self", "row"] ["self", "row"] (defScope sBadRow_init) := ⟨rfl, rfl, rfl, by decide +kernel, rfl, by decide +kernel, by decide +kernel⟩

abbrev sBadText_init : Stmt := inClass (topS 3) 0
theorem scBadText_init : FnScope ["self", "at"] ["self", "at"] (defScope sBadText_init) := ⟨rfl, rfl, rfl, by decide +kernel, rfl, by decide +kernel, by decide +kernel⟩

abbrev sNoTree_init : Stmt := inClass (topS 4) 0
theorem scNoTree_init : FnScope ["self", "thing"] ["self", "thing"] (defScope sNoTree_init) := ⟨rfl, rfl, rfl, by decide +kernel, rfl, by decide +kernel, by decide +kernel⟩

abbrev sNoGiven_init : Stmt := inClass (topS 5) 0
theorem scNoGiven_init : FnScope ["self", "thing"] ["self", "thing"] (defScope sNoGiven_init) := ⟨rfl, rfl, rfl, by decide +kernel, rfl, by decide +kernel, by decide +kernel⟩

abbrev sNotLet_init : Stmt := inClass (topS 6) 0
theorem scNotLet_init : FnScope ["self", "op", "under"] ["self", "op", "under"] (defScope sNotLet_init) := ⟨rfl, rfl, rfl, by decide +kernel, rfl, by decide +kernel, by decide +kernel⟩

abbrev sNoCap_init : Stmt := inClass (topS 7) 0
theorem scNoCap_init : FnScope ["self", "under"] ["self", "under"] (defScope sNoCap_init) := ⟨rfl, rfl, rfl, by decide +kernel, rfl, by decide +kernel, by decide +kernel⟩

abbrev sNoName_init : Stmt := inClass (topS 8) 0
theorem scNoName_init : FnScope ["self", "name"] ["self", "name"] (defScope sNoName_init) := ⟨rfl, rfl, rfl, by decide +kernel, rfl, by decide +kernel, by decide +kernel⟩

abbrev sNoOp_init : Stmt := inClass (topS 9) 0
theorem scNoOp_init : FnScope ["self", "op"] ["self", "op"] (defScope sNoOp_init) := ⟨rfl, rfl, rfl, by decide +kernel, rfl, by decide +kernel, by decide +kernel⟩

abbrev sNoRow_init : Stmt := inClass (topS 10) 0
theorem scNoRow_init : FnScope ["self", "making"] ["self", "making"] (defScope sNoRow_init) := ⟨rfl, rfl, rfl, by decide +kernel, rfl, by decide +kernel, by decide +kernel⟩

abbrev sNoSpot_init : Stmt := inClass (topS 11) 0
theorem scNoSpot_init : FnScope ["self", "spot"] ["self", "spot"] (defScope sNoSpot_init) := ⟨rfl, rfl, rfl, by decide +kernel, rfl, by decide +kernel, by decide +kernel⟩

abbrev sNoNode_init : Stmt := inClass (topS 12) 0
theorem scNoNode_init : FnScope ["self", "path"] ["self", "path"] (defScope sNoNode_init) := ⟨rfl, rfl, rfl, by decide +kernel, rfl, by decide +kernel, by decide +kernel⟩

abbrev sRing_init : Stmt := inClass (topS 13) 0
theorem scRing_init : FnScope ["self", "ring"] ["self", "ring"] (defScope sRing_init) := ⟨rfl, rfl, rfl, by decide +kernel, rfl, by decide +kernel, by decide +kernel⟩

abbrev sRinged_init : Stmt := inClass (topS 14) 0
theorem scRinged_init : FnScope ["self", "least", "ring"] ["self", "least", "ring"] (defScope sRinged_init) := ⟨rfl, rfl, rfl, by decide +kernel, rfl, by decide +kernel, by decide +kernel⟩

abbrev sClash_init : Stmt := inClass (topS 15) 0
theorem scClash_init : FnScope ["self", "clash"] ["self", "clash"] (defScope sClash_init) := ⟨rfl, rfl, rfl, by decide +kernel, rfl, by decide +kernel, by decide +kernel⟩

abbrev sTaken_init : Stmt := inClass (topS 16) 0
theorem scTaken_init : FnScope ["self", "name"] ["self", "name"] (defScope sTaken_init) := ⟨rfl, rfl, rfl, by decide +kernel, rfl, by decide +kernel, by decide +kernel⟩

abbrev sLacks_init : Stmt := inClass (topS 17) 0
theorem scLacks_init : FnScope ["self", "spots"] ["self", "spots"] (defScope sLacks_init) := ⟨rfl, rfl, rfl, by decide +kernel, rfl, by decide +kernel, by decide +kernel⟩

abbrev sTooMuch_init : Stmt := inClass (topS 18) 0
theorem scTooMuch_init : FnScope ["self", "many"] ["self", "many"] (defScope sTooMuch_init) := ⟨rfl, rfl, rfl, by decide +kernel, rfl, by decide +kernel, by decide +kernel⟩

section
variable {P : Program} {w : World} {K : PySem.W.Frag} {mg : Str → Option Value} {base : Heap} {f : Addr} {fd : FuncData} {k : Nat} {kws : List (Str × V)}
theorem ok_BadGrammar {C : Addr} (F : Fun K "__init__" "BadGrammar.__init__" sBadGrammar_init f fd) (BValueError : mg "ValueError" = none) (T : Own K C "ValueError.__new__" (.type "ValueError" :: ceT)) (h0 : PySem.W.findIn K (.ref C) "part" = some none) (h1 : PySem.W.findIn K (.ref C) "row" = some none) : FnOk P w K mg base CX0 (k + 1) f fd ["self", "part", "row"] (spInit2 C "part" "row") := by
  refine okS F scBadGrammar_init (fun vs H Q E h => ?_) (fun cdv A outer s H0 vs Q E hr h => ?_)
  · obtain ⟨a, v0, v1, rfl, _⟩ := h
    rfl
  obtain ⟨a, v0, v1, rfl, ea, q⟩ := h
  exact ⟨_, [some (.ref a), some v0, some v1], (pss_cons (ps_expr (pe_binit bs_ValueError (by rfl) BValueError (pa_cons (pv 0) (pa_cons pe_str pa_nil))))
  (pss_cons (ps_fld bs_ValueError (pv 0) (pv 1))
  (pss_one (ps_fld bs_ValueError (pv 0) (pv 2))))), rfl, init2 T h0 h1 ea q⟩
theorem ok_BadRow {C : Addr} (F : Fun K "__init__" "BadRow.__init__" sBadRow_init f fd) (BValueError : mg "ValueError" = none) (T : Own K C "ValueError.__new__" (.type "ValueError" :: ceT)) (h0 : PySem.W.findIn K (.ref C) "row" = some none) : FnOk P w K mg base CX0 (k + 1) f fd ["self", "row"] (spInit1 C "row") := by
  refine okS F scBadRow_init (fun vs H Q E h => ?_) (fun cdv A outer s H0 vs Q E hr h => ?_)
  · obtain ⟨a, v0, rfl, _⟩ := h
    rfl
  obtain ⟨a, v0, rfl, ea, q⟩ := h
  exact ⟨_, [some (.ref a), some v0], (pss_cons (ps_expr (pe_binit bs_ValueError (by rfl) BValueError (pa_cons (pv 0) (pa_cons pe_str pa_nil))))
  (pss_one (ps_fld bs_ValueError (pv 0) (pv 1)))), rfl, init1 T h0 ea q⟩
theorem ok_BadText {C : Addr} (F : Fun K "__init__" "BadText.__init__" sBadText_init f fd) (BValueError : mg "ValueError" = none) (T : Own K C "ValueError.__new__" (.type "ValueError" :: ceT)) (h0 : PySem.W.findIn K (.ref C) "at" = some none) : FnOk P w K mg base CX0 (k + 1) f fd ["self", "at"] (spInit1 C "at") := by
  refine okS F scBadText_init (fun vs H Q E h => ?_) (fun cdv A outer s H0 vs Q E hr h => ?_)
  · obtain ⟨a, v0, rfl, _⟩ := h
    rfl
  obtain ⟨a, v0, rfl, ea, q⟩ := h
  exact ⟨_, [some (.ref a), some v0], (pss_cons (ps_expr (pe_binit bs_ValueError (by rfl) BValueError (pa_cons (pv 0) (pa_cons pe_str pa_nil))))
  (pss_one (ps_fld bs_ValueError (pv 0) (pv 1)))), rfl, init1 T h0 ea q⟩
theorem ok_NoTree {C : Addr} (F : Fun K "__init__" "NoTree.__init__" sNoTree_init f fd) (BValueError : mg "ValueError" = none) (T : Own K C "ValueError.__new__" (.type "ValueError" :: ceT)) (h0 : PySem.W.findIn K (.ref C) "thing" = some none) : FnOk P w K mg base CX0 (k + 1) f fd ["self", "thing"] (spInit1 C "thing") := by
  refine okS F scNoTree_init (fun vs H Q E h => ?_) (fun cdv A outer s H0 vs Q E hr h => ?_)
  · obtain ⟨a, v0, rfl, _⟩ := h
    rfl
  obtain ⟨a, v0, rfl, ea, q⟩ := h
  exact ⟨_, [some (.ref a), some v0], (pss_cons (ps_expr (pe_binit bs_ValueError (by rfl) BValueError (pa_cons (pv 0) (pa_cons pe_str pa_nil))))
  (pss_one (ps_fld bs_ValueError (pv 0) (pv 1)))), rfl, init1 T h0 ea q⟩
theorem ok_NoGiven {C : Addr} (F : Fun K "__init__" "NoGiven.__init__" sNoGiven_init f fd) (BValueError : mg "ValueError" = none) (T : Own K C "ValueError.__new__" (.type "ValueError" :: ceT)) (h0 : PySem.W.findIn K (.ref C) "thing" = some none) : FnOk P w K mg base CX0 (k + 1) f fd ["self", "thing"] (spInit1 C "thing") := by
  refine okS F scNoGiven_init (fun vs H Q E h => ?_) (fun cdv A outer s H0 vs Q E hr h => ?_)
  · obtain ⟨a, v0, rfl, _⟩ := h
    rfl
  obtain ⟨a, v0, rfl, ea, q⟩ := h
  exact ⟨_, [some (.ref a), some v0], (pss_cons (ps_expr (pe_binit bs_ValueError (by rfl) BValueError (pa_cons (pv 0) (pa_cons pe_str pa_nil))))
  (pss_one (ps_fld bs_ValueError (pv 0) (pv 1)))), rfl, init1 T h0 ea q⟩
theorem ok_NotLet {C : Addr} (F : Fun K "__init__" "NotLet.__init__" sNotLet_init f fd) (BValueError : mg "ValueError" = none) (T : Own K C "ValueError.__new__" (.type "ValueError" :: ceT)) (h0 : PySem.W.findIn K (.ref C) "op" = some none) (h1 : PySem.W.findIn K (.ref C) "under" = some none) : FnOk P w K mg base CX0 (k + 1) f fd ["self", "op", "under"] (spInit2 C "op" "under") := by
  refine okS F scNotLet_init (fun vs H Q E h => ?_) (fun cdv A outer s H0 vs Q E hr h => ?_)
  · obtain ⟨a, v0, v1, rfl, _⟩ := h
    rfl
  obtain ⟨a, v0, v1, rfl, ea, q⟩ := h
  exact ⟨_, [some (.ref a), some v0, some v1], (pss_cons (ps_expr (pe_binit bs_ValueError (by rfl) BValueError (pa_cons (pv 0) (pa_cons pe_str pa_nil))))
  (pss_cons (ps_fld bs_ValueError (pv 0) (pv 1))
  (pss_one (ps_fld bs_ValueError (pv 0) (pv 2))))), rfl, init2 T h0 h1 ea q⟩
theorem ok_NoCap {C : Addr} (F : Fun K "__init__" "NoCap.__init__" sNoCap_init f fd) (BValueError : mg "ValueError" = none) (T : Own K C "ValueError.__new__" (.type "ValueError" :: ceT)) (h0 : PySem.W.findIn K (.ref C) "under" = some none) : FnOk P w K mg base CX0 (k + 1) f fd ["self", "under"] (spInit1 C "under") := by
  refine okS F scNoCap_init (fun vs H Q E h => ?_) (fun cdv A outer s H0 vs Q E hr h => ?_)
  · obtain ⟨a, v0, rfl, _⟩ := h
    rfl
  obtain ⟨a, v0, rfl, ea, q⟩ := h
  exact ⟨_, [some (.ref a), some v0], (pss_cons (ps_expr (pe_binit bs_ValueError (by rfl) BValueError (pa_cons (pv 0) (pa_cons pe_str pa_nil))))
  (pss_one (ps_fld bs_ValueError (pv 0) (pv 1)))), rfl, init1 T h0 ea q⟩
theorem ok_NoName {C : Addr} (F : Fun K "__init__" "NoName.__init__" sNoName_init f fd) (BKeyError : mg "KeyError" = none) (T : Own K C "LookupError.__new__" keT) (h0 : PySem.W.findIn K (.ref C) "name" = some none) : FnOk P w K mg base CX0 (k + 1) f fd ["self", "name"] (spInit1 C "name") := by
  refine okS F scNoName_init (fun vs H Q E h => ?_) (fun cdv A outer s H0 vs Q E hr h => ?_)
  · obtain ⟨a, v0, rfl, _⟩ := h
    rfl
  obtain ⟨a, v0, rfl, ea, q⟩ := h
  exact ⟨_, [some (.ref a), some v0], (pss_cons (ps_expr (pe_binit bs_KeyError (by rfl) BKeyError (pa_cons (pv 0) (pa_cons pe_str pa_nil))))
  (pss_one (ps_fld bs_KeyError (pv 0) (pv 1)))), rfl, init1 T h0 ea q⟩
theorem ok_NoOp {C : Addr} (F : Fun K "__init__" "NoOp.__init__" sNoOp_init f fd) (BKeyError : mg "KeyError" = none) (T : Own K C "LookupError.__new__" keT) (h0 : PySem.W.findIn K (.ref C) "op" = some none) : FnOk P w K mg base CX0 (k + 1) f fd ["self", "op"] (spInit1 C "op") := by
  refine okS F scNoOp_init (fun vs H Q E h => ?_) (fun cdv A outer s H0 vs Q E hr h => ?_)
  · obtain ⟨a, v0, rfl, _⟩ := h
    rfl
  obtain ⟨a, v0, rfl, ea, q⟩ := h
  exact ⟨_, [some (.ref a), some v0], (pss_cons (ps_expr (pe_binit bs_KeyError (by rfl) BKeyError (pa_cons (pv 0) (pa_cons pe_str pa_nil))))
  (pss_one (ps_fld bs_KeyError (pv 0) (pv 1)))), rfl, init1 T h0 ea q⟩
theorem ok_NoRow {C : Addr} (F : Fun K "__init__" "NoRow.__init__" sNoRow_init f fd) (BKeyError : mg "KeyError" = none) (T : Own K C "LookupError.__new__" keT) (h0 : PySem.W.findIn K (.ref C) "making" = some none) : FnOk P w K mg base CX0 (k + 1) f fd ["self", "making"] (spInit1 C "making") := by
  refine okS F scNoRow_init (fun vs H Q E h => ?_) (fun cdv A outer s H0 vs Q E hr h => ?_)
  · obtain ⟨a, v0, rfl, _⟩ := h
    rfl
  obtain ⟨a, v0, rfl, ea, q⟩ := h
  exact ⟨_, [some (.ref a), some v0], (pss_cons (ps_expr (pe_binit bs_KeyError (by rfl) BKeyError (pa_cons (pv 0) (pa_cons pe_str pa_nil))))
  (pss_one (ps_fld bs_KeyError (pv 0) (pv 1)))), rfl, init1 T h0 ea q⟩
theorem ok_NoSpot {C : Addr} (F : Fun K "__init__" "NoSpot.__init__" sNoSpot_init f fd) (BLookupError : mg "LookupError" = none) (T : Own K C "LookupError.__new__" (.type "LookupError" :: ceT)) (h0 : PySem.W.findIn K (.ref C) "spot" = some none) : FnOk P w K mg base CX0 (k + 1) f fd ["self", "spot"] (spInit1 C "spot") := by
  refine okS F scNoSpot_init (fun vs H Q E h => ?_) (fun cdv A outer s H0 vs Q E hr h => ?_)
  · obtain ⟨a, v0, rfl, _⟩ := h
    rfl
  obtain ⟨a, v0, rfl, ea, q⟩ := h
  exact ⟨_, [some (.ref a), some v0], (pss_cons (ps_expr (pe_binit bs_LookupError (by rfl) BLookupError (pa_cons (pv 0) (pa_cons pe_str pa_nil))))
  (pss_one (ps_fld bs_LookupError (pv 0) (pv 1)))), rfl, init1 T h0 ea q⟩
theorem ok_NoNode {C : Addr} (F : Fun K "__init__" "NoNode.__init__" sNoNode_init f fd) (BIndexError : mg "IndexError" = none) (T : Own K C "IndexError.__new__" (.type "IndexError" :: .type "LookupError" :: ceT)) (h0 : PySem.W.findIn K (.ref C) "path" = some none) : FnOk P w K mg base CX0 (k + 1) f fd ["self", "path"] (spInit1 C "path") := by
  refine okS F scNoNode_init (fun vs H Q E h => ?_) (fun cdv A outer s H0 vs Q E hr h => ?_)
  · obtain ⟨a, v0, rfl, _⟩ := h
    rfl
  obtain ⟨a, v0, rfl, ea, q⟩ := h
  exact ⟨_, [some (.ref a), some v0], (pss_cons (ps_expr (pe_binit bs_IndexError (by rfl) BIndexError (pa_cons (pv 0) (pa_cons pe_str pa_nil))))
  (pss_one (ps_fld bs_IndexError (pv 0) (pv 1)))), rfl, init1 T h0 ea q⟩
theorem ok_Ring {C : Addr} (F : Fun K "__init__" "Ring.__init__" sRing_init f fd) (BRuntimeError : mg "RuntimeError" = none) (T : Own K C "RuntimeError.__new__" (.type "RuntimeError" :: ceT)) (h0 : PySem.W.findIn K (.ref C) "ring" = some none) : FnOk P w K mg base CX0 (k + 1) f fd ["self", "ring"] (spInit1 C "ring") := by
  refine okS F scRing_init (fun vs H Q E h => ?_) (fun cdv A outer s H0 vs Q E hr h => ?_)
  · obtain ⟨a, v0, rfl, _⟩ := h
    rfl
  obtain ⟨a, v0, rfl, ea, q⟩ := h
  exact ⟨_, [some (.ref a), some v0], (pss_cons (ps_expr (pe_binit bs_RuntimeError (by rfl) BRuntimeError (pa_cons (pv 0) (pa_cons pe_str pa_nil))))
  (pss_one (ps_fld bs_RuntimeError (pv 0) (pv 1)))), rfl, init1 T h0 ea q⟩
theorem ok_Ringed {C : Addr} (F : Fun K "__init__" "Ringed.__init__" sRinged_init f fd) (BRuntimeError : mg "RuntimeError" = none) (T : Own K C "RuntimeError.__new__" (.type "RuntimeError" :: ceT)) (h0 : PySem.W.findIn K (.ref C) "least" = some none) (h1 : PySem.W.findIn K (.ref C) "ring" = some none) : FnOk P w K mg base CX0 (k + 1) f fd ["self", "least", "ring"] (spInit2 C "least" "ring") := by
  refine okS F scRinged_init (fun vs H Q E h => ?_) (fun cdv A outer s H0 vs Q E hr h => ?_)
  · obtain ⟨a, v0, v1, rfl, _⟩ := h
    rfl
  obtain ⟨a, v0, v1, rfl, ea, q⟩ := h
  exact ⟨_, [some (.ref a), some v0, some v1], (pss_cons (ps_expr (pe_binit bs_RuntimeError (by rfl) BRuntimeError (pa_cons (pv 0) (pa_cons pe_str pa_nil))))
  (pss_cons (ps_fld bs_RuntimeError (pv 0) (pv 1))
  (pss_one (ps_fld bs_RuntimeError (pv 0) (pv 2))))), rfl, init2 T h0 h1 ea q⟩
theorem ok_Clash {C : Addr} (F : Fun K "__init__" "Clash.__init__" sClash_init f fd) (BRuntimeError : mg "RuntimeError" = none) (T : Own K C "RuntimeError.__new__" (.type "RuntimeError" :: ceT)) (h0 : PySem.W.findIn K (.ref C) "clash" = some none) : FnOk P w K mg base CX0 (k + 1) f fd ["self", "clash"] (spInit1 C "clash") := by
  refine okS F scClash_init (fun vs H Q E h => ?_) (fun cdv A outer s H0 vs Q E hr h => ?_)
  · obtain ⟨a, v0, rfl, _⟩ := h
    rfl
  obtain ⟨a, v0, rfl, ea, q⟩ := h
  exact ⟨_, [some (.ref a), some v0], (pss_cons (ps_expr (pe_binit bs_RuntimeError (by rfl) BRuntimeError (pa_cons (pv 0) (pa_cons pe_str pa_nil))))
  (pss_one (ps_fld bs_RuntimeError (pv 0) (pv 1)))), rfl, init1 T h0 ea q⟩
theorem ok_Taken {C : Addr} (F : Fun K "__init__" "Taken.__init__" sTaken_init f fd) (BRuntimeError : mg "RuntimeError" = none) (T : Own K C "RuntimeError.__new__" (.type "RuntimeError" :: ceT)) (h0 : PySem.W.findIn K (.ref C) "name" = some none) : FnOk P w K mg base CX0 (k + 1) f fd ["self", "name"] (spInit1 C "name") := by
  refine okS F scTaken_init (fun vs H Q E h => ?_) (fun cdv A outer s H0 vs Q E hr h => ?_)
  · obtain ⟨a, v0, rfl, _⟩ := h
    rfl
  obtain ⟨a, v0, rfl, ea, q⟩ := h
  exact ⟨_, [some (.ref a), some v0], (pss_cons (ps_expr (pe_binit bs_RuntimeError (by rfl) BRuntimeError (pa_cons (pv 0) (pa_cons pe_str pa_nil))))
  (pss_one (ps_fld bs_RuntimeError (pv 0) (pv 1)))), rfl, init1 T h0 ea q⟩
theorem ok_Lacks {C : Addr} (F : Fun K "__init__" "Lacks.__init__" sLacks_init f fd) (BArithmeticError : mg "ArithmeticError" = none) (T : Own K C "ArithmeticError.__new__" (.type "ArithmeticError" :: ceT)) (h0 : PySem.W.findIn K (.ref C) "spots" = some none) : FnOk P w K mg base CX0 (k + 1) f fd ["self", "spots"] (spInit1 C "spots") := by
  refine okS F scLacks_init (fun vs H Q E h => ?_) (fun cdv A outer s H0 vs Q E hr h => ?_)
  · obtain ⟨a, v0, rfl, _⟩ := h
    rfl
  obtain ⟨a, v0, rfl, ea, q⟩ := h
  exact ⟨_, [some (.ref a), some v0], (pss_cons (ps_expr (pe_binit bs_ArithmeticError (by rfl) BArithmeticError (pa_cons (pv 0) (pa_cons pe_str pa_nil))))
  (pss_one (ps_fld bs_ArithmeticError (pv 0) (pv 1)))), rfl, init1 T h0 ea q⟩
theorem ok_TooMuch {C : Addr} (F : Fun K "__init__" "TooMuch.__init__" sTooMuch_init f fd) (BOverflowError : mg "OverflowError" = none) (T : Own K C "OverflowError.__new__" (.type "OverflowError" :: .type "ArithmeticError" :: ceT)) (h0 : PySem.W.findIn K (.ref C) "many" = some none) : FnOk P w K mg base CX0 (k + 1) f fd ["self", "many"] (spInit1 C "many") := by
  refine okS F scTooMuch_init (fun vs H Q E h => ?_) (fun cdv A outer s H0 vs Q E hr h => ?_)
  · obtain ⟨a, v0, rfl, _⟩ := h
    rfl
  obtain ⟨a, v0, rfl, ea, q⟩ := h
  exact ⟨_, [some (.ref a), some v0], (pss_cons (ps_expr (pe_binit bs_OverflowError (by rfl) BOverflowError (pa_cons (pv 0) (pa_cons pe_str pa_nil))))
  (pss_one (ps_fld bs_OverflowError (pv 0) (pv 1)))), rfl, init1 T h0 ea q⟩
end
end Law
namespace Law
open PySem PySem.Spec PyProof.Rows L2 Fw L2H HotX
def clsN : List Str := ["BadGrammar", "BadRow", "BadText", "NoTree", "NoGiven", "NotLet", "NoCap", "NoName", "NoOp", "NoRow", "NoSpot", "NoNode", "Ring", "Ringed", "Clash", "Taken", "Lacks", "TooMuch"]
def csK (K : PySem.W.Frag) (i : Nat) : Addr := He.ga K (clsN.getD i "")
def ckOne (K : PySem.W.Frag) : Bool := (List.range 18).all fun i => (List.range 18).all fun j => decide (PySem.W.kitOne K (.ref (csK K i)) (.ref (csK K j)) = some (decide (i = j)))
def ckUp (K : PySem.W.Frag) (x : String) (n : Nat) : Bool := (List.range 18).all fun i => decide (PySem.W.kitOne K (.ref (csK K i)) (.type x) = some ((flags i).getD n false))
def ckFld (K : PySem.W.Frag) : Bool := (List.range 18).all fun i => (fldN i).all fun f => decide (PySem.W.findIn K (.ref (csK K i)) f = some none)
def ckIni (K : PySem.W.Frag) : Bool := (List.range 18).all fun i => decide (PySem.W.findIn K (.ref (csK K i)) "__init__" = some (some (.ref (He.ma K (csK K i) "__init__")))) && decide (PySem.W.typeIn K (.ref (He.ma K (csK K i) "__init__")) = some (.type "function"))
theorem all_at {n : Nat} {p : Nat → Bool} (h : (List.range n).all p = true) (i : Nat) (hi : i < n) : p i = true := List.all_eq_true.mp h i (List.mem_range.mpr hi)
/-! ### the head -/
def mkD (x : Str) (st : Stmt) (kwd : List (Str × He.Dv)) : He.DefD := ⟨(x, none), x, x, defArgs st, defBody st, defScope st, [], kwd⟩
def fn : List He.DefD := [mkD "_law_dip" s_law_dip [],
  mkD "_law_take" s_law_take [],
  mkD "_law_folded" s_law_folded [],
  mkD "_law_same" s_law_same [],
  mkD "_law_own" s_law_own [],
  mkD "_law_over" s_law_over [],
  mkD "_law_made" s_law_made [],
  mkD "_law_called" s_law_called [],
  mkD "_law_fields" s_law_fields [],
  mkD "_law_thing" s_law_thing [],
  mkD "_law_right" s_law_right [],
  mkD "law" slaw [],
  ⟨("BadGrammar", some "__init__"), "__init__", "BadGrammar.__init__", defArgs (inClass (topS 1) 0), defBody (inClass (topS 1) 0), defScope (inClass (topS 1) 0), [], []⟩,
  ⟨("BadRow", some "__init__"), "__init__", "BadRow.__init__", defArgs (inClass (topS 2) 0), defBody (inClass (topS 2) 0), defScope (inClass (topS 2) 0), [], []⟩,
  ⟨("BadText", some "__init__"), "__init__", "BadText.__init__", defArgs (inClass (topS 3) 0), defBody (inClass (topS 3) 0), defScope (inClass (topS 3) 0), [], []⟩,
  ⟨("NoTree", some "__init__"), "__init__", "NoTree.__init__", defArgs (inClass (topS 4) 0), defBody (inClass (topS 4) 0), defScope (inClass (topS 4) 0), [], []⟩,
  ⟨("NoGiven", some "__init__"), "__init__", "NoGiven.__init__", defArgs (inClass (topS 5) 0), defBody (inClass (topS 5) 0), defScope (inClass (topS 5) 0), [], []⟩,
  ⟨("NotLet", some "__init__"), "__init__", "NotLet.__init__", defArgs (inClass (topS 6) 0), defBody (inClass (topS 6) 0), defScope (inClass (topS 6) 0), [], []⟩,
  ⟨("NoCap", some "__init__"), "__init__", "NoCap.__init__", defArgs (inClass (topS 7) 0), defBody (inClass (topS 7) 0), defScope (inClass (topS 7) 0), [], []⟩,
  ⟨("NoName", some "__init__"), "__init__", "NoName.__init__", defArgs (inClass (topS 8) 0), defBody (inClass (topS 8) 0), defScope (inClass (topS 8) 0), [], []⟩,
  ⟨("NoOp", some "__init__"), "__init__", "NoOp.__init__", defArgs (inClass (topS 9) 0), defBody (inClass (topS 9) 0), defScope (inClass (topS 9) 0), [], []⟩,
  ⟨("NoRow", some "__init__"), "__init__", "NoRow.__init__", defArgs (inClass (topS 10) 0), defBody (inClass (topS 10) 0), defScope (inClass (topS 10) 0), [], []⟩,
  ⟨("NoSpot", some "__init__"), "__init__", "NoSpot.__init__", defArgs (inClass (topS 11) 0), defBody (inClass (topS 11) 0), defScope (inClass (topS 11) 0), [], []⟩,
  ⟨("NoNode", some "__init__"), "__init__", "NoNode.__init__", defArgs (inClass (topS 12) 0), defBody (inClass (topS 12) 0), defScope (inClass (topS 12) 0), [], []⟩,
  ⟨("Ring", some "__init__"), "__init__", "Ring.__init__", defArgs (inClass (topS 13) 0), defBody (inClass (topS 13) 0), defScope (inClass (topS 13) 0), [], []⟩,
  ⟨("Ringed", some "__init__"), "__init__", "Ringed.__init__", defArgs (inClass (topS 14) 0), defBody (inClass (topS 14) 0), defScope (inClass (topS 14) 0), [], []⟩,
  ⟨("Clash", some "__init__"), "__init__", "Clash.__init__", defArgs (inClass (topS 15) 0), defBody (inClass (topS 15) 0), defScope (inClass (topS 15) 0), [], []⟩,
  ⟨("Taken", some "__init__"), "__init__", "Taken.__init__", defArgs (inClass (topS 16) 0), defBody (inClass (topS 16) 0), defScope (inClass (topS 16) 0), [], []⟩,
  ⟨("Lacks", some "__init__"), "__init__", "Lacks.__init__", defArgs (inClass (topS 17) 0), defBody (inClass (topS 17) 0), defScope (inClass (topS 17) 0), [], []⟩,
  ⟨("TooMuch", some "__init__"), "__init__", "TooMuch.__init__", defArgs (inClass (topS 18) 0), defBody (inClass (topS 18) 0), defScope (inClass (topS 18) 0), [], []⟩]
def fa : List He.Fa := [.glo "_law_dip", .glo "_law_take", .glo "_law_folded", .glo "_law_same", .glo "_law_own", .glo "_law_over", .glo "_law_made", .glo "_law_called", .glo "_law_fields", .glo "_law_thing", .glo "_law_right", .glo "law", .glo "BadGrammar", .glo "BadRow", .glo "BadText", .glo "NoTree", .glo "NoGiven", .glo "NotLet", .glo "NoCap", .glo "NoName", .glo "NoOp", .glo "NoRow", .glo "NoSpot", .glo "NoNode", .glo "Ring", .glo "Ringed", .glo "Clash", .glo "Taken", .glo "Lacks", .glo "TooMuch", .free "len", .free "abs", .free "int", .free "list", .free "range", .free "enumerate", .free "isinstance", .free "zip", .free "tuple", .free "str", .free "bool", .free "all", .free "ValueError", .free "KeyError", .free "LookupError", .free "IndexError", .free "RuntimeError", .free "ArithmeticError", .free "OverflowError", .int "LIMIT" 400, .int "ROUNDS" 120]
def ts : List He.Tab := []
def exB : PySem.W.Frag → Bool := fun K => ckOne K && ckUp K "ValueError" 0 && ckUp K "KeyError" 1 && ckUp K "LookupError" 2 && ckUp K "IndexError" 3 && ckUp K "RuntimeError" 4 && ckUp K "ArithmeticError" 5 && ckUp K "OverflowError" 6 && ckFld K && ckIni K && Fw.ownB K (csK K 0) "ValueError.__new__" (.type "ValueError" :: ceT) && Fw.ownB K (csK K 1) "ValueError.__new__" (.type "ValueError" :: ceT) && Fw.ownB K (csK K 2) "ValueError.__new__" (.type "ValueError" :: ceT) && Fw.ownB K (csK K 3) "ValueError.__new__" (.type "ValueError" :: ceT) && Fw.ownB K (csK K 4) "ValueError.__new__" (.type "ValueError" :: ceT) && Fw.ownB K (csK K 5) "ValueError.__new__" (.type "ValueError" :: ceT) && Fw.ownB K (csK K 6) "ValueError.__new__" (.type "ValueError" :: ceT) && Fw.ownB K (csK K 7) "LookupError.__new__" keT && Fw.ownB K (csK K 8) "LookupError.__new__" keT && Fw.ownB K (csK K 9) "LookupError.__new__" keT && Fw.ownB K (csK K 10) "LookupError.__new__" (.type "LookupError" :: ceT) && Fw.ownB K (csK K 11) "IndexError.__new__" (.type "IndexError" :: .type "LookupError" :: ceT) && Fw.ownB K (csK K 12) "RuntimeError.__new__" (.type "RuntimeError" :: ceT) && Fw.ownB K (csK K 13) "RuntimeError.__new__" (.type "RuntimeError" :: ceT) && Fw.ownB K (csK K 14) "RuntimeError.__new__" (.type "RuntimeError" :: ceT) && Fw.ownB K (csK K 15) "RuntimeError.__new__" (.type "RuntimeError" :: ceT) && Fw.ownB K (csK K 16) "ArithmeticError.__new__" (.type "ArithmeticError" :: ceT) && Fw.ownB K (csK K 17) "OverflowError.__new__" (.type "OverflowError" :: .type "ArithmeticError" :: ceT)
abbrev R0 : PySem.W.OpenRow := PySem.W.OpenLaw.row PySem.Challenge.rw_threereckons_k05_errors_and_limits
abbrev hk : PySem.W.Hook := He.hookX 4 fa fn ts [] exB
def ob (s : PySem.W.SharedT) : He.AlX := He.obsX 4 fa fn ts [] exB (HandSHeadRun.getT s)
theorem ob_eq (s : PySem.W.SharedT) : ob s = hk.obs s.abs := He.obsX_eq (HandSHeadRun.getT_eq s)
def loose : List Str := (["BadGrammar", "BadRow", "BadText", "NoTree", "NoGiven", "NotLet", "NoCap", "NoName", "NoOp", "NoRow", "NoSpot", "NoNode", "Ring", "Ringed", "Clash", "Taken", "Lacks", "TooMuch", "LIMIT", "ROUNDS", "_law_dip", "_law_take", "_law_folded", "_law_same", "_law_own", "_law_over", "_law_made", "_law_called", "_law_fields", "_law_thing"] : List Str) ++ (["_law_right"] : List Str)
theorem runF (w : World) : HandSHeadRun.RunEq R0 (PySem.W.view R0.prog [33]) hk ob 10000 loose (w.withFollow "special-get-raises" false) := by intro os; kernel_rfl
theorem runT (w : World) : HandSHeadRun.RunEq R0 (PySem.W.view R0.prog [33]) hk ob 10000 loose (w.withFollow "special-get-raises" true) := by intro os; kernel_rfl
theorem topRun (w : World) : HandSHeadRun.RunEq R0 (PySem.W.view R0.prog [33]) hk ob 10000 loose w := PySem.W.byRow2 "special-get-raises" (P := fun w => HandSHeadRun.RunEq R0 (PySem.W.view R0.prog [33]) hk ob 10000 loose w) runF runT w

theorem ownsK {K : PySem.W.Frag} (h0 : Own K (csK K 0) "ValueError.__new__" (.type "ValueError" :: ceT)) (h1 : Own K (csK K 1) "ValueError.__new__" (.type "ValueError" :: ceT)) (h2 : Own K (csK K 2) "ValueError.__new__" (.type "ValueError" :: ceT)) (h3 : Own K (csK K 3) "ValueError.__new__" (.type "ValueError" :: ceT)) (h4 : Own K (csK K 4) "ValueError.__new__" (.type "ValueError" :: ceT)) (h5 : Own K (csK K 5) "ValueError.__new__" (.type "ValueError" :: ceT)) (h6 : Own K (csK K 6) "ValueError.__new__" (.type "ValueError" :: ceT)) (h7 : Own K (csK K 7) "LookupError.__new__" keT) (h8 : Own K (csK K 8) "LookupError.__new__" keT) (h9 : Own K (csK K 9) "LookupError.__new__" keT) (h10 : Own K (csK K 10) "LookupError.__new__" (.type "LookupError" :: ceT)) (h11 : Own K (csK K 11) "IndexError.__new__" (.type "IndexError" :: .type "LookupError" :: ceT)) (h12 : Own K (csK K 12) "RuntimeError.__new__" (.type "RuntimeError" :: ceT)) (h13 : Own K (csK K 13) "RuntimeError.__new__" (.type "RuntimeError" :: ceT)) (h14 : Own K (csK K 14) "RuntimeError.__new__" (.type "RuntimeError" :: ceT)) (h15 : Own K (csK K 15) "RuntimeError.__new__" (.type "RuntimeError" :: ceT)) (h16 : Own K (csK K 16) "ArithmeticError.__new__" (.type "ArithmeticError" :: ceT)) (h17 : Own K (csK K 17) "OverflowError.__new__" (.type "OverflowError" :: .type "ArithmeticError" :: ceT)) : ∀ i, i < 18 → ∃ (nI : String) (tl : List Value), Own K (csK K i) nI tl
  | 0, _ => ⟨_, _, h0⟩
  | 1, _ => ⟨_, _, h1⟩
  | 2, _ => ⟨_, _, h2⟩
  | 3, _ => ⟨_, _, h3⟩
  | 4, _ => ⟨_, _, h4⟩
  | 5, _ => ⟨_, _, h5⟩
  | 6, _ => ⟨_, _, h6⟩
  | 7, _ => ⟨_, _, h7⟩
  | 8, _ => ⟨_, _, h8⟩
  | 9, _ => ⟨_, _, h9⟩
  | 10, _ => ⟨_, _, h10⟩
  | 11, _ => ⟨_, _, h11⟩
  | 12, _ => ⟨_, _, h12⟩
  | 13, _ => ⟨_, _, h13⟩
  | 14, _ => ⟨_, _, h14⟩
  | 15, _ => ⟨_, _, h15⟩
  | 16, _ => ⟨_, _, h16⟩
  | 17, _ => ⟨_, _, h17⟩
  | n + 18, h => absurd h (by omega)
theorem facts {P : Program} {w : World} {K : PySem.W.Frag} {h : Heap} {mg : Str → Option Value} {f : Addr} (X : K.In h) (G : h.Ns mainGlobals mg) (hfa : mg ("law" : Str) = some (.ref f)) (c : He.SaysX fa fn ts [] exB w h K) :
    ∃ fd : FuncData, (∀ (s : Shared) (v : Value), BindsTo s fd ⟨[v], []⟩ [("_law_script", v)]) ∧ ∀ base : Heap, K.In base → base.Ns mainGlobals mg → FnG P w K mg base CX0 8 f fd ["_law_script"] (spLaw K) := by
  obtain ⟨fd_law_dip, F_law_dip⟩ := c.t.d.def_ 0 (d := mkD "_law_dip" s_law_dip []) rfl
  replace F_law_dip : FunD K "_law_dip" "_law_dip" (defArgs s_law_dip) (defBody s_law_dip) (defScope s_law_dip) [] [] (He.ga K "_law_dip") fd_law_dip := F_law_dip
  have g_law_dip := He.glo_ok X G (c.t.d.fact 0 (f := .glo "_law_dip") rfl)
  obtain ⟨fd_law_take, F_law_take⟩ := c.t.d.def_ 1 (d := mkD "_law_take" s_law_take []) rfl
  replace F_law_take : FunD K "_law_take" "_law_take" (defArgs s_law_take) (defBody s_law_take) (defScope s_law_take) [] [] (He.ga K "_law_take") fd_law_take := F_law_take
  have g_law_take := He.glo_ok X G (c.t.d.fact 1 (f := .glo "_law_take") rfl)
  obtain ⟨fd_law_folded, F_law_folded⟩ := c.t.d.def_ 2 (d := mkD "_law_folded" s_law_folded []) rfl
  replace F_law_folded : FunD K "_law_folded" "_law_folded" (defArgs s_law_folded) (defBody s_law_folded) (defScope s_law_folded) [] [] (He.ga K "_law_folded") fd_law_folded := F_law_folded
  have g_law_folded := He.glo_ok X G (c.t.d.fact 2 (f := .glo "_law_folded") rfl)
  obtain ⟨fd_law_same, F_law_same⟩ := c.t.d.def_ 3 (d := mkD "_law_same" s_law_same []) rfl
  replace F_law_same : FunD K "_law_same" "_law_same" (defArgs s_law_same) (defBody s_law_same) (defScope s_law_same) [] [] (He.ga K "_law_same") fd_law_same := F_law_same
  have g_law_same := He.glo_ok X G (c.t.d.fact 3 (f := .glo "_law_same") rfl)
  obtain ⟨fd_law_own, F_law_own⟩ := c.t.d.def_ 4 (d := mkD "_law_own" s_law_own []) rfl
  replace F_law_own : FunD K "_law_own" "_law_own" (defArgs s_law_own) (defBody s_law_own) (defScope s_law_own) [] [] (He.ga K "_law_own") fd_law_own := F_law_own
  have g_law_own := He.glo_ok X G (c.t.d.fact 4 (f := .glo "_law_own") rfl)
  obtain ⟨fd_law_over, F_law_over⟩ := c.t.d.def_ 5 (d := mkD "_law_over" s_law_over []) rfl
  replace F_law_over : FunD K "_law_over" "_law_over" (defArgs s_law_over) (defBody s_law_over) (defScope s_law_over) [] [] (He.ga K "_law_over") fd_law_over := F_law_over
  have g_law_over := He.glo_ok X G (c.t.d.fact 5 (f := .glo "_law_over") rfl)
  obtain ⟨fd_law_made, F_law_made⟩ := c.t.d.def_ 6 (d := mkD "_law_made" s_law_made []) rfl
  replace F_law_made : FunD K "_law_made" "_law_made" (defArgs s_law_made) (defBody s_law_made) (defScope s_law_made) [] [] (He.ga K "_law_made") fd_law_made := F_law_made
  have g_law_made := He.glo_ok X G (c.t.d.fact 6 (f := .glo "_law_made") rfl)
  obtain ⟨fd_law_called, F_law_called⟩ := c.t.d.def_ 7 (d := mkD "_law_called" s_law_called []) rfl
  replace F_law_called : FunD K "_law_called" "_law_called" (defArgs s_law_called) (defBody s_law_called) (defScope s_law_called) [] [] (He.ga K "_law_called") fd_law_called := F_law_called
  have g_law_called := He.glo_ok X G (c.t.d.fact 7 (f := .glo "_law_called") rfl)
  obtain ⟨fd_law_fields, F_law_fields⟩ := c.t.d.def_ 8 (d := mkD "_law_fields" s_law_fields []) rfl
  replace F_law_fields : FunD K "_law_fields" "_law_fields" (defArgs s_law_fields) (defBody s_law_fields) (defScope s_law_fields) [] [] (He.ga K "_law_fields") fd_law_fields := F_law_fields
  have g_law_fields := He.glo_ok X G (c.t.d.fact 8 (f := .glo "_law_fields") rfl)
  obtain ⟨fd_law_thing, F_law_thing⟩ := c.t.d.def_ 9 (d := mkD "_law_thing" s_law_thing []) rfl
  replace F_law_thing : FunD K "_law_thing" "_law_thing" (defArgs s_law_thing) (defBody s_law_thing) (defScope s_law_thing) [] [] (He.ga K "_law_thing") fd_law_thing := F_law_thing
  have g_law_thing := He.glo_ok X G (c.t.d.fact 9 (f := .glo "_law_thing") rfl)
  obtain ⟨fd_law_right, F_law_right⟩ := c.t.d.def_ 10 (d := mkD "_law_right" s_law_right []) rfl
  replace F_law_right : FunD K "_law_right" "_law_right" (defArgs s_law_right) (defBody s_law_right) (defScope s_law_right) [] [] (He.ga K "_law_right") fd_law_right := F_law_right
  have g_law_right := He.glo_ok X G (c.t.d.fact 10 (f := .glo "_law_right") rfl)
  obtain ⟨fdlaw, Flaw⟩ := c.t.d.def_ 11 (d := mkD "law" slaw []) rfl
  replace Flaw : FunD K "law" "law" (defArgs slaw) (defBody slaw) (defScope slaw) [] [] (He.ga K "law") fdlaw := Flaw
  have glaw := He.glo_ok X G (c.t.d.fact 11 (f := .glo "law") rfl)
  have gBadGrammar := He.glo_ok X G (c.t.d.fact 12 (f := .glo "BadGrammar") rfl)
  have gBadRow := He.glo_ok X G (c.t.d.fact 13 (f := .glo "BadRow") rfl)
  have gBadText := He.glo_ok X G (c.t.d.fact 14 (f := .glo "BadText") rfl)
  have gNoTree := He.glo_ok X G (c.t.d.fact 15 (f := .glo "NoTree") rfl)
  have gNoGiven := He.glo_ok X G (c.t.d.fact 16 (f := .glo "NoGiven") rfl)
  have gNotLet := He.glo_ok X G (c.t.d.fact 17 (f := .glo "NotLet") rfl)
  have gNoCap := He.glo_ok X G (c.t.d.fact 18 (f := .glo "NoCap") rfl)
  have gNoName := He.glo_ok X G (c.t.d.fact 19 (f := .glo "NoName") rfl)
  have gNoOp := He.glo_ok X G (c.t.d.fact 20 (f := .glo "NoOp") rfl)
  have gNoRow := He.glo_ok X G (c.t.d.fact 21 (f := .glo "NoRow") rfl)
  have gNoSpot := He.glo_ok X G (c.t.d.fact 22 (f := .glo "NoSpot") rfl)
  have gNoNode := He.glo_ok X G (c.t.d.fact 23 (f := .glo "NoNode") rfl)
  have gRing := He.glo_ok X G (c.t.d.fact 24 (f := .glo "Ring") rfl)
  have gRinged := He.glo_ok X G (c.t.d.fact 25 (f := .glo "Ringed") rfl)
  have gClash := He.glo_ok X G (c.t.d.fact 26 (f := .glo "Clash") rfl)
  have gTaken := He.glo_ok X G (c.t.d.fact 27 (f := .glo "Taken") rfl)
  have gLacks := He.glo_ok X G (c.t.d.fact 28 (f := .glo "Lacks") rfl)
  have gTooMuch := He.glo_ok X G (c.t.d.fact 29 (f := .glo "TooMuch") rfl)
  have mlen := He.free_ok X G (c.t.d.fact 30 (f := .free "len") rfl)
  have mabs := He.free_ok X G (c.t.d.fact 31 (f := .free "abs") rfl)
  have mint := He.free_ok X G (c.t.d.fact 32 (f := .free "int") rfl)
  have mlist := He.free_ok X G (c.t.d.fact 33 (f := .free "list") rfl)
  have mrange := He.free_ok X G (c.t.d.fact 34 (f := .free "range") rfl)
  have menumerate := He.free_ok X G (c.t.d.fact 35 (f := .free "enumerate") rfl)
  have misinstance := He.free_ok X G (c.t.d.fact 36 (f := .free "isinstance") rfl)
  have mzip := He.free_ok X G (c.t.d.fact 37 (f := .free "zip") rfl)
  have mtuple := He.free_ok X G (c.t.d.fact 38 (f := .free "tuple") rfl)
  have mstr := He.free_ok X G (c.t.d.fact 39 (f := .free "str") rfl)
  have mbool := He.free_ok X G (c.t.d.fact 40 (f := .free "bool") rfl)
  have mall := He.free_ok X G (c.t.d.fact 41 (f := .free "all") rfl)
  have mValueError := He.free_ok X G (c.t.d.fact 42 (f := .free "ValueError") rfl)
  have mKeyError := He.free_ok X G (c.t.d.fact 43 (f := .free "KeyError") rfl)
  have mLookupError := He.free_ok X G (c.t.d.fact 44 (f := .free "LookupError") rfl)
  have mIndexError := He.free_ok X G (c.t.d.fact 45 (f := .free "IndexError") rfl)
  have mRuntimeError := He.free_ok X G (c.t.d.fact 46 (f := .free "RuntimeError") rfl)
  have mArithmeticError := He.free_ok X G (c.t.d.fact 47 (f := .free "ArithmeticError") rfl)
  have mOverflowError := He.free_ok X G (c.t.d.fact 48 (f := .free "OverflowError") rfl)
  have iLIMIT := He.int_ok X G (c.t.d.fact 49 (f := .int "LIMIT" 400) rfl)
  have iROUNDS := He.int_ok X G (c.t.d.fact 50 (f := .int "ROUNDS" 120) rfl)
  have hmore := c.more
  unfold exB at hmore
  simp only [Bool.and_eq_true] at hmore
  obtain ⟨⟨⟨⟨⟨⟨⟨⟨⟨⟨⟨⟨⟨⟨⟨⟨⟨⟨⟨⟨⟨⟨⟨⟨⟨⟨⟨hone, hu0⟩, hu1⟩, hu2⟩, hu3⟩, hu4⟩, hu5⟩, hu6⟩, hfld⟩, hini⟩, ho0⟩, ho1⟩, ho2⟩, ho3⟩, ho4⟩, ho5⟩, ho6⟩, ho7⟩, ho8⟩, ho9⟩, ho10⟩, ho11⟩, ho12⟩, ho13⟩, ho14⟩, ho15⟩, ho16⟩, ho17⟩ := hmore
  obtain ⟨fdBadGrammar_i, FBadGrammar_i⟩ := c.t.d.def_ 12 (d := ⟨("BadGrammar", some "__init__"), "__init__", "BadGrammar.__init__", defArgs sBadGrammar_init, defBody sBadGrammar_init, defScope sBadGrammar_init, [], []⟩) rfl
  replace FBadGrammar_i : FunD K "__init__" "BadGrammar.__init__" (defArgs sBadGrammar_init) (defBody sBadGrammar_init) (defScope sBadGrammar_init) [] [] (He.ma K (csK K 0) "__init__") fdBadGrammar_i := FBadGrammar_i
  have TBadGrammar := own_of ho0
  obtain ⟨fdBadRow_i, FBadRow_i⟩ := c.t.d.def_ 13 (d := ⟨("BadRow", some "__init__"), "__init__", "BadRow.__init__", defArgs sBadRow_init, defBody sBadRow_init, defScope sBadRow_init, [], []⟩) rfl
  replace FBadRow_i : FunD K "__init__" "BadRow.__init__" (defArgs sBadRow_init) (defBody sBadRow_init) (defScope sBadRow_init) [] [] (He.ma K (csK K 1) "__init__") fdBadRow_i := FBadRow_i
  have TBadRow := own_of ho1
  obtain ⟨fdBadText_i, FBadText_i⟩ := c.t.d.def_ 14 (d := ⟨("BadText", some "__init__"), "__init__", "BadText.__init__", defArgs sBadText_init, defBody sBadText_init, defScope sBadText_init, [], []⟩) rfl
  replace FBadText_i : FunD K "__init__" "BadText.__init__" (defArgs sBadText_init) (defBody sBadText_init) (defScope sBadText_init) [] [] (He.ma K (csK K 2) "__init__") fdBadText_i := FBadText_i
  have TBadText := own_of ho2
  obtain ⟨fdNoTree_i, FNoTree_i⟩ := c.t.d.def_ 15 (d := ⟨("NoTree", some "__init__"), "__init__", "NoTree.__init__", defArgs sNoTree_init, defBody sNoTree_init, defScope sNoTree_init, [], []⟩) rfl
  replace FNoTree_i : FunD K "__init__" "NoTree.__init__" (defArgs sNoTree_init) (defBody sNoTree_init) (defScope sNoTree_init) [] [] (He.ma K (csK K 3) "__init__") fdNoTree_i := FNoTree_i
  have TNoTree := own_of ho3
  obtain ⟨fdNoGiven_i, FNoGiven_i⟩ := c.t.d.def_ 16 (d := ⟨("NoGiven", some "__init__"), "__init__", "NoGiven.__init__", defArgs sNoGiven_init, defBody sNoGiven_init, defScope sNoGiven_init, [], []⟩) rfl
  replace FNoGiven_i : FunD K "__init__" "NoGiven.__init__" (defArgs sNoGiven_init) (defBody sNoGiven_init) (defScope sNoGiven_init) [] [] (He.ma K (csK K 4) "__init__") fdNoGiven_i := FNoGiven_i
  have TNoGiven := own_of ho4
  obtain ⟨fdNotLet_i, FNotLet_i⟩ := c.t.d.def_ 17 (d := ⟨("NotLet", some "__init__"), "__init__", "NotLet.__init__", defArgs sNotLet_init, defBody sNotLet_init, defScope sNotLet_init, [], []⟩) rfl
  replace FNotLet_i : FunD K "__init__" "NotLet.__init__" (defArgs sNotLet_init) (defBody sNotLet_init) (defScope sNotLet_init) [] [] (He.ma K (csK K 5) "__init__") fdNotLet_i := FNotLet_i
  have TNotLet := own_of ho5
  obtain ⟨fdNoCap_i, FNoCap_i⟩ := c.t.d.def_ 18 (d := ⟨("NoCap", some "__init__"), "__init__", "NoCap.__init__", defArgs sNoCap_init, defBody sNoCap_init, defScope sNoCap_init, [], []⟩) rfl
  replace FNoCap_i : FunD K "__init__" "NoCap.__init__" (defArgs sNoCap_init) (defBody sNoCap_init) (defScope sNoCap_init) [] [] (He.ma K (csK K 6) "__init__") fdNoCap_i := FNoCap_i
  have TNoCap := own_of ho6
  obtain ⟨fdNoName_i, FNoName_i⟩ := c.t.d.def_ 19 (d := ⟨("NoName", some "__init__"), "__init__", "NoName.__init__", defArgs sNoName_init, defBody sNoName_init, defScope sNoName_init, [], []⟩) rfl
  replace FNoName_i : FunD K "__init__" "NoName.__init__" (defArgs sNoName_init) (defBody sNoName_init) (defScope sNoName_init) [] [] (He.ma K (csK K 7) "__init__") fdNoName_i := FNoName_i
  have TNoName := own_of ho7
  obtain ⟨fdNoOp_i, FNoOp_i⟩ := c.t.d.def_ 20 (d := ⟨("NoOp", some "__init__"), "__init__", "NoOp.__init__", defArgs sNoOp_init, defBody sNoOp_init, defScope sNoOp_init, [], []⟩) rfl
  replace FNoOp_i : FunD K "__init__" "NoOp.__init__" (defArgs sNoOp_init) (defBody sNoOp_init) (defScope sNoOp_init) [] [] (He.ma K (csK K 8) "__init__") fdNoOp_i := FNoOp_i
  have TNoOp := own_of ho8
  obtain ⟨fdNoRow_i, FNoRow_i⟩ := c.t.d.def_ 21 (d := ⟨("NoRow", some "__init__"), "__init__", "NoRow.__init__", defArgs sNoRow_init, defBody sNoRow_init, defScope sNoRow_init, [], []⟩) rfl
  replace FNoRow_i : FunD K "__init__" "NoRow.__init__" (defArgs sNoRow_init) (defBody sNoRow_init) (defScope sNoRow_init) [] [] (He.ma K (csK K 9) "__init__") fdNoRow_i := FNoRow_i
  have TNoRow := own_of ho9
  obtain ⟨fdNoSpot_i, FNoSpot_i⟩ := c.t.d.def_ 22 (d := ⟨("NoSpot", some "__init__"), "__init__", "NoSpot.__init__", defArgs sNoSpot_init, defBody sNoSpot_init, defScope sNoSpot_init, [], []⟩) rfl
  replace FNoSpot_i : FunD K "__init__" "NoSpot.__init__" (defArgs sNoSpot_init) (defBody sNoSpot_init) (defScope sNoSpot_init) [] [] (He.ma K (csK K 10) "__init__") fdNoSpot_i := FNoSpot_i
  have TNoSpot := own_of ho10
  obtain ⟨fdNoNode_i, FNoNode_i⟩ := c.t.d.def_ 23 (d := ⟨("NoNode", some "__init__"), "__init__", "NoNode.__init__", defArgs sNoNode_init, defBody sNoNode_init, defScope sNoNode_init, [], []⟩) rfl
  replace FNoNode_i : FunD K "__init__" "NoNode.__init__" (defArgs sNoNode_init) (defBody sNoNode_init) (defScope sNoNode_init) [] [] (He.ma K (csK K 11) "__init__") fdNoNode_i := FNoNode_i
  have TNoNode := own_of ho11
  obtain ⟨fdRing_i, FRing_i⟩ := c.t.d.def_ 24 (d := ⟨("Ring", some "__init__"), "__init__", "Ring.__init__", defArgs sRing_init, defBody sRing_init, defScope sRing_init, [], []⟩) rfl
  replace FRing_i : FunD K "__init__" "Ring.__init__" (defArgs sRing_init) (defBody sRing_init) (defScope sRing_init) [] [] (He.ma K (csK K 12) "__init__") fdRing_i := FRing_i
  have TRing := own_of ho12
  obtain ⟨fdRinged_i, FRinged_i⟩ := c.t.d.def_ 25 (d := ⟨("Ringed", some "__init__"), "__init__", "Ringed.__init__", defArgs sRinged_init, defBody sRinged_init, defScope sRinged_init, [], []⟩) rfl
  replace FRinged_i : FunD K "__init__" "Ringed.__init__" (defArgs sRinged_init) (defBody sRinged_init) (defScope sRinged_init) [] [] (He.ma K (csK K 13) "__init__") fdRinged_i := FRinged_i
  have TRinged := own_of ho13
  obtain ⟨fdClash_i, FClash_i⟩ := c.t.d.def_ 26 (d := ⟨("Clash", some "__init__"), "__init__", "Clash.__init__", defArgs sClash_init, defBody sClash_init, defScope sClash_init, [], []⟩) rfl
  replace FClash_i : FunD K "__init__" "Clash.__init__" (defArgs sClash_init) (defBody sClash_init) (defScope sClash_init) [] [] (He.ma K (csK K 14) "__init__") fdClash_i := FClash_i
  have TClash := own_of ho14
  obtain ⟨fdTaken_i, FTaken_i⟩ := c.t.d.def_ 27 (d := ⟨("Taken", some "__init__"), "__init__", "Taken.__init__", defArgs sTaken_init, defBody sTaken_init, defScope sTaken_init, [], []⟩) rfl
  replace FTaken_i : FunD K "__init__" "Taken.__init__" (defArgs sTaken_init) (defBody sTaken_init) (defScope sTaken_init) [] [] (He.ma K (csK K 15) "__init__") fdTaken_i := FTaken_i
  have TTaken := own_of ho15
  obtain ⟨fdLacks_i, FLacks_i⟩ := c.t.d.def_ 28 (d := ⟨("Lacks", some "__init__"), "__init__", "Lacks.__init__", defArgs sLacks_init, defBody sLacks_init, defScope sLacks_init, [], []⟩) rfl
  replace FLacks_i : FunD K "__init__" "Lacks.__init__" (defArgs sLacks_init) (defBody sLacks_init) (defScope sLacks_init) [] [] (He.ma K (csK K 16) "__init__") fdLacks_i := FLacks_i
  have TLacks := own_of ho16
  obtain ⟨fdTooMuch_i, FTooMuch_i⟩ := c.t.d.def_ 29 (d := ⟨("TooMuch", some "__init__"), "__init__", "TooMuch.__init__", defArgs sTooMuch_init, defBody sTooMuch_init, defScope sTooMuch_init, [], []⟩) rfl
  replace FTooMuch_i : FunD K "__init__" "TooMuch.__init__" (defArgs sTooMuch_init) (defBody sTooMuch_init) (defScope sTooMuch_init) [] [] (He.ma K (csK K 17) "__init__") fdTooMuch_i := FTooMuch_i
  have TTooMuch := own_of ho17
  cases hfa.symm.trans glaw
  have b := FunD.bindsA (ps := ["_law_script"]) Flaw fun _ _ _ _ _ _ us hl => match us, hl with | [_], _ => rfl
  have B : Blt5 mg := { len := mlen, abs := mabs, int' := mint, list := mlist, range := mrange, enumerate := menumerate, isinstance := misinstance, zip := mzip, tuple := mtuple, str := mstr, bool := mbool, all := mall, ValueError := mValueError, KeyError := mKeyError, LookupError := mLookupError, IndexError := mIndexError, RuntimeError := mRuntimeError, ArithmeticError := mArithmeticError, OverflowError := mOverflowError }
  have CN : Con5 mg := ⟨iLIMIT, iROUNDS⟩
  have GC : Gc mg (csK K) := ⟨gBadGrammar, gBadRow, gBadText, gNoTree, gNoGiven, gNotLet, gNoCap, gNoName, gNoOp, gNoRow, gNoSpot, gNoNode, gRing, gRinged, gClash, gTaken, gLacks, gTooMuch⟩
  have E5 : Er K (csK K) := ⟨ownsK TBadGrammar TBadRow TBadText TNoTree TNoGiven TNotLet TNoCap TNoName TNoOp TNoRow TNoSpot TNoNode TRing TRinged TClash TTaken TLacks TTooMuch, fun i hi j hj => of_decide_eq_true (all_at (all_at hone i hi) j hj), fun i hi => of_decide_eq_true (all_at hu0 i hi), fun i hi => of_decide_eq_true (all_at hu1 i hi), fun i hi => of_decide_eq_true (all_at hu2 i hi), fun i hi => of_decide_eq_true (all_at hu3 i hi), fun i hi => of_decide_eq_true (all_at hu4 i hi), fun i hi => of_decide_eq_true (all_at hu5 i hi), fun i hi => of_decide_eq_true (all_at hu6 i hi)⟩
  have FL : Flds K (csK K) := fun i hi f hf => of_decide_eq_true (List.all_eq_true.mp (all_at hfld i hi) f hf)
  have ini : ∀ i, i < 18 → PySem.W.findIn K (.ref (csK K i)) "__init__" = some (some (.ref (He.ma K (csK K i) "__init__"))) ∧ PySem.W.typeIn K (.ref (He.ma K (csK K i) "__init__")) = some (.type "function") := fun i hi => by
    have := all_at hini i hi
    simp only [Bool.and_eq_true, decide_eq_true_eq] at this
    exact this
  refine ⟨fdlaw, fun s v => b s [v] rfl, fun base _ _ => ?_⟩
  have okBadGrammar : FnOk P w K mg base CX0 1 (He.ma K (csK K 0) "__init__") fdBadGrammar_i ["self", "part", "row"] (spInit2 (csK K 0) "part" "row") := ok_BadGrammar (ofD FBadGrammar_i) mValueError TBadGrammar (FL 0 (by decide) "part" (by decide)) (FL 0 (by decide) "row" (by decide))
  have MBadGrammar : Cl P w K mg base "BadGrammar" (csK K 0) 2 [] (fun vs zs => fs2 "part" "row" (vs ++ zs.reverse)) := cl2 bs_ValueError TBadGrammar (ini 0 (by decide)).1 (ini 0 (by decide)).2 okBadGrammar gBadGrammar (kbn_all FBadGrammar_i 3 [] (fun us ws => us ++ ws.reverse) (fun r1 r2 => Vals.append r1 r2.reverse) (fun _ _ _ _ _ _ us ws h1 h2 => match us, ws, h1, h2 with | [_, _, _], [], _, _ => rfl)) rfl
  have MkBadGrammar : Cl P w K mg base "BadGrammar" (csK K 0) 0 ["row", "part"] (fun vs zs => fs2 "part" "row" (vs ++ zs.reverse)) := cl2 bs_ValueError TBadGrammar (ini 0 (by decide)).1 (ini 0 (by decide)).2 okBadGrammar gBadGrammar (kbn_all FBadGrammar_i 1 ["row", "part"] (fun us ws => us ++ ws.reverse) (fun r1 r2 => Vals.append r1 r2.reverse) (fun _ _ _ _ _ _ us ws h1 h2 => match us, ws, h1, h2 with | [_], [_, _], _, _ => rfl)) rfl
  have okBadRow : FnOk P w K mg base CX0 1 (He.ma K (csK K 1) "__init__") fdBadRow_i ["self", "row"] (spInit1 (csK K 1) "row") := ok_BadRow (ofD FBadRow_i) mValueError TBadRow (FL 1 (by decide) "row" (by decide))
  have MBadRow : Cl P w K mg base "BadRow" (csK K 1) 1 [] (fun vs zs => fs1 "row" (vs ++ zs)) := cl1 bs_ValueError TBadRow (ini 1 (by decide)).1 (ini 1 (by decide)).2 okBadRow gBadRow (kbn_all FBadRow_i 2 [] (fun us ws => us ++ ws) (fun r1 r2 => Vals.append r1 r2) (fun _ _ _ _ _ _ us ws h1 h2 => match us, ws, h1, h2 with | [_, _], [], _, _ => rfl)) rfl
  have MkBadRow : Cl P w K mg base "BadRow" (csK K 1) 0 ["row"] (fun vs zs => fs1 "row" (vs ++ zs)) := cl1 bs_ValueError TBadRow (ini 1 (by decide)).1 (ini 1 (by decide)).2 okBadRow gBadRow (kbn_all FBadRow_i 1 ["row"] (fun us ws => us ++ ws) (fun r1 r2 => Vals.append r1 r2) (fun _ _ _ _ _ _ us ws h1 h2 => match us, ws, h1, h2 with | [_], [_], _, _ => rfl)) rfl
  have okBadText : FnOk P w K mg base CX0 1 (He.ma K (csK K 2) "__init__") fdBadText_i ["self", "at"] (spInit1 (csK K 2) "at") := ok_BadText (ofD FBadText_i) mValueError TBadText (FL 2 (by decide) "at" (by decide))
  have MBadText : Cl P w K mg base "BadText" (csK K 2) 1 [] (fun vs zs => fs1 "at" (vs ++ zs)) := cl1 bs_ValueError TBadText (ini 2 (by decide)).1 (ini 2 (by decide)).2 okBadText gBadText (kbn_all FBadText_i 2 [] (fun us ws => us ++ ws) (fun r1 r2 => Vals.append r1 r2) (fun _ _ _ _ _ _ us ws h1 h2 => match us, ws, h1, h2 with | [_, _], [], _, _ => rfl)) rfl
  have MkBadText : Cl P w K mg base "BadText" (csK K 2) 0 ["at"] (fun vs zs => fs1 "at" (vs ++ zs)) := cl1 bs_ValueError TBadText (ini 2 (by decide)).1 (ini 2 (by decide)).2 okBadText gBadText (kbn_all FBadText_i 1 ["at"] (fun us ws => us ++ ws) (fun r1 r2 => Vals.append r1 r2) (fun _ _ _ _ _ _ us ws h1 h2 => match us, ws, h1, h2 with | [_], [_], _, _ => rfl)) rfl
  have okNoTree : FnOk P w K mg base CX0 1 (He.ma K (csK K 3) "__init__") fdNoTree_i ["self", "thing"] (spInit1 (csK K 3) "thing") := ok_NoTree (ofD FNoTree_i) mValueError TNoTree (FL 3 (by decide) "thing" (by decide))
  have MNoTree : Cl P w K mg base "NoTree" (csK K 3) 1 [] (fun vs zs => fs1 "thing" (vs ++ zs)) := cl1 bs_ValueError TNoTree (ini 3 (by decide)).1 (ini 3 (by decide)).2 okNoTree gNoTree (kbn_all FNoTree_i 2 [] (fun us ws => us ++ ws) (fun r1 r2 => Vals.append r1 r2) (fun _ _ _ _ _ _ us ws h1 h2 => match us, ws, h1, h2 with | [_, _], [], _, _ => rfl)) rfl
  have MkNoTree : Cl P w K mg base "NoTree" (csK K 3) 0 ["thing"] (fun vs zs => fs1 "thing" (vs ++ zs)) := cl1 bs_ValueError TNoTree (ini 3 (by decide)).1 (ini 3 (by decide)).2 okNoTree gNoTree (kbn_all FNoTree_i 1 ["thing"] (fun us ws => us ++ ws) (fun r1 r2 => Vals.append r1 r2) (fun _ _ _ _ _ _ us ws h1 h2 => match us, ws, h1, h2 with | [_], [_], _, _ => rfl)) rfl
  have okNoGiven : FnOk P w K mg base CX0 1 (He.ma K (csK K 4) "__init__") fdNoGiven_i ["self", "thing"] (spInit1 (csK K 4) "thing") := ok_NoGiven (ofD FNoGiven_i) mValueError TNoGiven (FL 4 (by decide) "thing" (by decide))
  have MNoGiven : Cl P w K mg base "NoGiven" (csK K 4) 1 [] (fun vs zs => fs1 "thing" (vs ++ zs)) := cl1 bs_ValueError TNoGiven (ini 4 (by decide)).1 (ini 4 (by decide)).2 okNoGiven gNoGiven (kbn_all FNoGiven_i 2 [] (fun us ws => us ++ ws) (fun r1 r2 => Vals.append r1 r2) (fun _ _ _ _ _ _ us ws h1 h2 => match us, ws, h1, h2 with | [_, _], [], _, _ => rfl)) rfl
  have MkNoGiven : Cl P w K mg base "NoGiven" (csK K 4) 0 ["thing"] (fun vs zs => fs1 "thing" (vs ++ zs)) := cl1 bs_ValueError TNoGiven (ini 4 (by decide)).1 (ini 4 (by decide)).2 okNoGiven gNoGiven (kbn_all FNoGiven_i 1 ["thing"] (fun us ws => us ++ ws) (fun r1 r2 => Vals.append r1 r2) (fun _ _ _ _ _ _ us ws h1 h2 => match us, ws, h1, h2 with | [_], [_], _, _ => rfl)) rfl
  have okNotLet : FnOk P w K mg base CX0 1 (He.ma K (csK K 5) "__init__") fdNotLet_i ["self", "op", "under"] (spInit2 (csK K 5) "op" "under") := ok_NotLet (ofD FNotLet_i) mValueError TNotLet (FL 5 (by decide) "op" (by decide)) (FL 5 (by decide) "under" (by decide))
  have MNotLet : Cl P w K mg base "NotLet" (csK K 5) 2 [] (fun vs zs => fs2 "op" "under" (vs ++ zs.reverse)) := cl2 bs_ValueError TNotLet (ini 5 (by decide)).1 (ini 5 (by decide)).2 okNotLet gNotLet (kbn_all FNotLet_i 3 [] (fun us ws => us ++ ws.reverse) (fun r1 r2 => Vals.append r1 r2.reverse) (fun _ _ _ _ _ _ us ws h1 h2 => match us, ws, h1, h2 with | [_, _, _], [], _, _ => rfl)) rfl
  have MkNotLet : Cl P w K mg base "NotLet" (csK K 5) 0 ["under", "op"] (fun vs zs => fs2 "op" "under" (vs ++ zs.reverse)) := cl2 bs_ValueError TNotLet (ini 5 (by decide)).1 (ini 5 (by decide)).2 okNotLet gNotLet (kbn_all FNotLet_i 1 ["under", "op"] (fun us ws => us ++ ws.reverse) (fun r1 r2 => Vals.append r1 r2.reverse) (fun _ _ _ _ _ _ us ws h1 h2 => match us, ws, h1, h2 with | [_], [_, _], _, _ => rfl)) rfl
  have okNoCap : FnOk P w K mg base CX0 1 (He.ma K (csK K 6) "__init__") fdNoCap_i ["self", "under"] (spInit1 (csK K 6) "under") := ok_NoCap (ofD FNoCap_i) mValueError TNoCap (FL 6 (by decide) "under" (by decide))
  have MNoCap : Cl P w K mg base "NoCap" (csK K 6) 1 [] (fun vs zs => fs1 "under" (vs ++ zs)) := cl1 bs_ValueError TNoCap (ini 6 (by decide)).1 (ini 6 (by decide)).2 okNoCap gNoCap (kbn_all FNoCap_i 2 [] (fun us ws => us ++ ws) (fun r1 r2 => Vals.append r1 r2) (fun _ _ _ _ _ _ us ws h1 h2 => match us, ws, h1, h2 with | [_, _], [], _, _ => rfl)) rfl
  have MkNoCap : Cl P w K mg base "NoCap" (csK K 6) 0 ["under"] (fun vs zs => fs1 "under" (vs ++ zs)) := cl1 bs_ValueError TNoCap (ini 6 (by decide)).1 (ini 6 (by decide)).2 okNoCap gNoCap (kbn_all FNoCap_i 1 ["under"] (fun us ws => us ++ ws) (fun r1 r2 => Vals.append r1 r2) (fun _ _ _ _ _ _ us ws h1 h2 => match us, ws, h1, h2 with | [_], [_], _, _ => rfl)) rfl
  have okNoName : FnOk P w K mg base CX0 1 (He.ma K (csK K 7) "__init__") fdNoName_i ["self", "name"] (spInit1 (csK K 7) "name") := ok_NoName (ofD FNoName_i) mKeyError TNoName (FL 7 (by decide) "name" (by decide))
  have MNoName : Cl P w K mg base "NoName" (csK K 7) 1 [] (fun vs zs => fs1 "name" (vs ++ zs)) := cl1 bs_KeyError TNoName (ini 7 (by decide)).1 (ini 7 (by decide)).2 okNoName gNoName (kbn_all FNoName_i 2 [] (fun us ws => us ++ ws) (fun r1 r2 => Vals.append r1 r2) (fun _ _ _ _ _ _ us ws h1 h2 => match us, ws, h1, h2 with | [_, _], [], _, _ => rfl)) rfl
  have MkNoName : Cl P w K mg base "NoName" (csK K 7) 0 ["name"] (fun vs zs => fs1 "name" (vs ++ zs)) := cl1 bs_KeyError TNoName (ini 7 (by decide)).1 (ini 7 (by decide)).2 okNoName gNoName (kbn_all FNoName_i 1 ["name"] (fun us ws => us ++ ws) (fun r1 r2 => Vals.append r1 r2) (fun _ _ _ _ _ _ us ws h1 h2 => match us, ws, h1, h2 with | [_], [_], _, _ => rfl)) rfl
  have okNoOp : FnOk P w K mg base CX0 1 (He.ma K (csK K 8) "__init__") fdNoOp_i ["self", "op"] (spInit1 (csK K 8) "op") := ok_NoOp (ofD FNoOp_i) mKeyError TNoOp (FL 8 (by decide) "op" (by decide))
  have MNoOp : Cl P w K mg base "NoOp" (csK K 8) 1 [] (fun vs zs => fs1 "op" (vs ++ zs)) := cl1 bs_KeyError TNoOp (ini 8 (by decide)).1 (ini 8 (by decide)).2 okNoOp gNoOp (kbn_all FNoOp_i 2 [] (fun us ws => us ++ ws) (fun r1 r2 => Vals.append r1 r2) (fun _ _ _ _ _ _ us ws h1 h2 => match us, ws, h1, h2 with | [_, _], [], _, _ => rfl)) rfl
  have MkNoOp : Cl P w K mg base "NoOp" (csK K 8) 0 ["op"] (fun vs zs => fs1 "op" (vs ++ zs)) := cl1 bs_KeyError TNoOp (ini 8 (by decide)).1 (ini 8 (by decide)).2 okNoOp gNoOp (kbn_all FNoOp_i 1 ["op"] (fun us ws => us ++ ws) (fun r1 r2 => Vals.append r1 r2) (fun _ _ _ _ _ _ us ws h1 h2 => match us, ws, h1, h2 with | [_], [_], _, _ => rfl)) rfl
  have okNoRow : FnOk P w K mg base CX0 1 (He.ma K (csK K 9) "__init__") fdNoRow_i ["self", "making"] (spInit1 (csK K 9) "making") := ok_NoRow (ofD FNoRow_i) mKeyError TNoRow (FL 9 (by decide) "making" (by decide))
  have MNoRow : Cl P w K mg base "NoRow" (csK K 9) 1 [] (fun vs zs => fs1 "making" (vs ++ zs)) := cl1 bs_KeyError TNoRow (ini 9 (by decide)).1 (ini 9 (by decide)).2 okNoRow gNoRow (kbn_all FNoRow_i 2 [] (fun us ws => us ++ ws) (fun r1 r2 => Vals.append r1 r2) (fun _ _ _ _ _ _ us ws h1 h2 => match us, ws, h1, h2 with | [_, _], [], _, _ => rfl)) rfl
  have MkNoRow : Cl P w K mg base "NoRow" (csK K 9) 0 ["making"] (fun vs zs => fs1 "making" (vs ++ zs)) := cl1 bs_KeyError TNoRow (ini 9 (by decide)).1 (ini 9 (by decide)).2 okNoRow gNoRow (kbn_all FNoRow_i 1 ["making"] (fun us ws => us ++ ws) (fun r1 r2 => Vals.append r1 r2) (fun _ _ _ _ _ _ us ws h1 h2 => match us, ws, h1, h2 with | [_], [_], _, _ => rfl)) rfl
  have okNoSpot : FnOk P w K mg base CX0 1 (He.ma K (csK K 10) "__init__") fdNoSpot_i ["self", "spot"] (spInit1 (csK K 10) "spot") := ok_NoSpot (ofD FNoSpot_i) mLookupError TNoSpot (FL 10 (by decide) "spot" (by decide))
  have MNoSpot : Cl P w K mg base "NoSpot" (csK K 10) 1 [] (fun vs zs => fs1 "spot" (vs ++ zs)) := cl1 bs_LookupError TNoSpot (ini 10 (by decide)).1 (ini 10 (by decide)).2 okNoSpot gNoSpot (kbn_all FNoSpot_i 2 [] (fun us ws => us ++ ws) (fun r1 r2 => Vals.append r1 r2) (fun _ _ _ _ _ _ us ws h1 h2 => match us, ws, h1, h2 with | [_, _], [], _, _ => rfl)) rfl
  have MkNoSpot : Cl P w K mg base "NoSpot" (csK K 10) 0 ["spot"] (fun vs zs => fs1 "spot" (vs ++ zs)) := cl1 bs_LookupError TNoSpot (ini 10 (by decide)).1 (ini 10 (by decide)).2 okNoSpot gNoSpot (kbn_all FNoSpot_i 1 ["spot"] (fun us ws => us ++ ws) (fun r1 r2 => Vals.append r1 r2) (fun _ _ _ _ _ _ us ws h1 h2 => match us, ws, h1, h2 with | [_], [_], _, _ => rfl)) rfl
  have okNoNode : FnOk P w K mg base CX0 1 (He.ma K (csK K 11) "__init__") fdNoNode_i ["self", "path"] (spInit1 (csK K 11) "path") := ok_NoNode (ofD FNoNode_i) mIndexError TNoNode (FL 11 (by decide) "path" (by decide))
  have MNoNode : Cl P w K mg base "NoNode" (csK K 11) 1 [] (fun vs zs => fs1 "path" (vs ++ zs)) := cl1 bs_IndexError TNoNode (ini 11 (by decide)).1 (ini 11 (by decide)).2 okNoNode gNoNode (kbn_all FNoNode_i 2 [] (fun us ws => us ++ ws) (fun r1 r2 => Vals.append r1 r2) (fun _ _ _ _ _ _ us ws h1 h2 => match us, ws, h1, h2 with | [_, _], [], _, _ => rfl)) rfl
  have MkNoNode : Cl P w K mg base "NoNode" (csK K 11) 0 ["path"] (fun vs zs => fs1 "path" (vs ++ zs)) := cl1 bs_IndexError TNoNode (ini 11 (by decide)).1 (ini 11 (by decide)).2 okNoNode gNoNode (kbn_all FNoNode_i 1 ["path"] (fun us ws => us ++ ws) (fun r1 r2 => Vals.append r1 r2) (fun _ _ _ _ _ _ us ws h1 h2 => match us, ws, h1, h2 with | [_], [_], _, _ => rfl)) rfl
  have okRing : FnOk P w K mg base CX0 1 (He.ma K (csK K 12) "__init__") fdRing_i ["self", "ring"] (spInit1 (csK K 12) "ring") := ok_Ring (ofD FRing_i) mRuntimeError TRing (FL 12 (by decide) "ring" (by decide))
  have MRing : Cl P w K mg base "Ring" (csK K 12) 1 [] (fun vs zs => fs1 "ring" (vs ++ zs)) := cl1 bs_RuntimeError TRing (ini 12 (by decide)).1 (ini 12 (by decide)).2 okRing gRing (kbn_all FRing_i 2 [] (fun us ws => us ++ ws) (fun r1 r2 => Vals.append r1 r2) (fun _ _ _ _ _ _ us ws h1 h2 => match us, ws, h1, h2 with | [_, _], [], _, _ => rfl)) rfl
  have MkRing : Cl P w K mg base "Ring" (csK K 12) 0 ["ring"] (fun vs zs => fs1 "ring" (vs ++ zs)) := cl1 bs_RuntimeError TRing (ini 12 (by decide)).1 (ini 12 (by decide)).2 okRing gRing (kbn_all FRing_i 1 ["ring"] (fun us ws => us ++ ws) (fun r1 r2 => Vals.append r1 r2) (fun _ _ _ _ _ _ us ws h1 h2 => match us, ws, h1, h2 with | [_], [_], _, _ => rfl)) rfl
  have okRinged : FnOk P w K mg base CX0 1 (He.ma K (csK K 13) "__init__") fdRinged_i ["self", "least", "ring"] (spInit2 (csK K 13) "least" "ring") := ok_Ringed (ofD FRinged_i) mRuntimeError TRinged (FL 13 (by decide) "least" (by decide)) (FL 13 (by decide) "ring" (by decide))
  have MRinged : Cl P w K mg base "Ringed" (csK K 13) 2 [] (fun vs zs => fs2 "least" "ring" (vs ++ zs.reverse)) := cl2 bs_RuntimeError TRinged (ini 13 (by decide)).1 (ini 13 (by decide)).2 okRinged gRinged (kbn_all FRinged_i 3 [] (fun us ws => us ++ ws.reverse) (fun r1 r2 => Vals.append r1 r2.reverse) (fun _ _ _ _ _ _ us ws h1 h2 => match us, ws, h1, h2 with | [_, _, _], [], _, _ => rfl)) rfl
  have MkRinged : Cl P w K mg base "Ringed" (csK K 13) 0 ["ring", "least"] (fun vs zs => fs2 "least" "ring" (vs ++ zs.reverse)) := cl2 bs_RuntimeError TRinged (ini 13 (by decide)).1 (ini 13 (by decide)).2 okRinged gRinged (kbn_all FRinged_i 1 ["ring", "least"] (fun us ws => us ++ ws.reverse) (fun r1 r2 => Vals.append r1 r2.reverse) (fun _ _ _ _ _ _ us ws h1 h2 => match us, ws, h1, h2 with | [_], [_, _], _, _ => rfl)) rfl
  have okClash : FnOk P w K mg base CX0 1 (He.ma K (csK K 14) "__init__") fdClash_i ["self", "clash"] (spInit1 (csK K 14) "clash") := ok_Clash (ofD FClash_i) mRuntimeError TClash (FL 14 (by decide) "clash" (by decide))
  have MClash : Cl P w K mg base "Clash" (csK K 14) 1 [] (fun vs zs => fs1 "clash" (vs ++ zs)) := cl1 bs_RuntimeError TClash (ini 14 (by decide)).1 (ini 14 (by decide)).2 okClash gClash (kbn_all FClash_i 2 [] (fun us ws => us ++ ws) (fun r1 r2 => Vals.append r1 r2) (fun _ _ _ _ _ _ us ws h1 h2 => match us, ws, h1, h2 with | [_, _], [], _, _ => rfl)) rfl
  have MkClash : Cl P w K mg base "Clash" (csK K 14) 0 ["clash"] (fun vs zs => fs1 "clash" (vs ++ zs)) := cl1 bs_RuntimeError TClash (ini 14 (by decide)).1 (ini 14 (by decide)).2 okClash gClash (kbn_all FClash_i 1 ["clash"] (fun us ws => us ++ ws) (fun r1 r2 => Vals.append r1 r2) (fun _ _ _ _ _ _ us ws h1 h2 => match us, ws, h1, h2 with | [_], [_], _, _ => rfl)) rfl
  have okTaken : FnOk P w K mg base CX0 1 (He.ma K (csK K 15) "__init__") fdTaken_i ["self", "name"] (spInit1 (csK K 15) "name") := ok_Taken (ofD FTaken_i) mRuntimeError TTaken (FL 15 (by decide) "name" (by decide))
  have MTaken : Cl P w K mg base "Taken" (csK K 15) 1 [] (fun vs zs => fs1 "name" (vs ++ zs)) := cl1 bs_RuntimeError TTaken (ini 15 (by decide)).1 (ini 15 (by decide)).2 okTaken gTaken (kbn_all FTaken_i 2 [] (fun us ws => us ++ ws) (fun r1 r2 => Vals.append r1 r2) (fun _ _ _ _ _ _ us ws h1 h2 => match us, ws, h1, h2 with | [_, _], [], _, _ => rfl)) rfl
  have MkTaken : Cl P w K mg base "Taken" (csK K 15) 0 ["name"] (fun vs zs => fs1 "name" (vs ++ zs)) := cl1 bs_RuntimeError TTaken (ini 15 (by decide)).1 (ini 15 (by decide)).2 okTaken gTaken (kbn_all FTaken_i 1 ["name"] (fun us ws => us ++ ws) (fun r1 r2 => Vals.append r1 r2) (fun _ _ _ _ _ _ us ws h1 h2 => match us, ws, h1, h2 with | [_], [_], _, _ => rfl)) rfl
  have okLacks : FnOk P w K mg base CX0 1 (He.ma K (csK K 16) "__init__") fdLacks_i ["self", "spots"] (spInit1 (csK K 16) "spots") := ok_Lacks (ofD FLacks_i) mArithmeticError TLacks (FL 16 (by decide) "spots" (by decide))
  have MLacks : Cl P w K mg base "Lacks" (csK K 16) 1 [] (fun vs zs => fs1 "spots" (vs ++ zs)) := cl1 bs_ArithmeticError TLacks (ini 16 (by decide)).1 (ini 16 (by decide)).2 okLacks gLacks (kbn_all FLacks_i 2 [] (fun us ws => us ++ ws) (fun r1 r2 => Vals.append r1 r2) (fun _ _ _ _ _ _ us ws h1 h2 => match us, ws, h1, h2 with | [_, _], [], _, _ => rfl)) rfl
  have MkLacks : Cl P w K mg base "Lacks" (csK K 16) 0 ["spots"] (fun vs zs => fs1 "spots" (vs ++ zs)) := cl1 bs_ArithmeticError TLacks (ini 16 (by decide)).1 (ini 16 (by decide)).2 okLacks gLacks (kbn_all FLacks_i 1 ["spots"] (fun us ws => us ++ ws) (fun r1 r2 => Vals.append r1 r2) (fun _ _ _ _ _ _ us ws h1 h2 => match us, ws, h1, h2 with | [_], [_], _, _ => rfl)) rfl
  have okTooMuch : FnOk P w K mg base CX0 1 (He.ma K (csK K 17) "__init__") fdTooMuch_i ["self", "many"] (spInit1 (csK K 17) "many") := ok_TooMuch (ofD FTooMuch_i) mOverflowError TTooMuch (FL 17 (by decide) "many" (by decide))
  have MTooMuch : Cl P w K mg base "TooMuch" (csK K 17) 1 [] (fun vs zs => fs1 "many" (vs ++ zs)) := cl1 bs_OverflowError TTooMuch (ini 17 (by decide)).1 (ini 17 (by decide)).2 okTooMuch gTooMuch (kbn_all FTooMuch_i 2 [] (fun us ws => us ++ ws) (fun r1 r2 => Vals.append r1 r2) (fun _ _ _ _ _ _ us ws h1 h2 => match us, ws, h1, h2 with | [_, _], [], _, _ => rfl)) rfl
  have MkTooMuch : Cl P w K mg base "TooMuch" (csK K 17) 0 ["many"] (fun vs zs => fs1 "many" (vs ++ zs)) := cl1 bs_OverflowError TTooMuch (ini 17 (by decide)).1 (ini 17 (by decide)).2 okTooMuch gTooMuch (kbn_all FTooMuch_i 1 ["many"] (fun us ws => us ++ ws) (fun r1 r2 => Vals.append r1 r2) (fun _ _ _ _ _ _ us ws h1 h2 => match us, ws, h1, h2 with | [_], [_], _, _ => rfl)) rfl
  have Gtake : Fq P w K mg base CX0 1 "_law_take" ["_law_box", "_law_wide"] spTake := mkFq F_law_take g_law_take (fun _ _ _ _ _ _ us hl => match us, hl with | [_, _], _ => rfl) (.of (ok_take (ofD F_law_take) B.toBlt))
  have Gdip : Fq P w K mg base CX0 1 "_law_dip" ["_law_script", "_law_k"] (spDip K) := mkFq F_law_dip g_law_dip (fun _ _ _ _ _ _ us hl => match us, hl with | [_, _], _ => rfl) (.of (ok_dip (ofD F_law_dip) B.toBlt))
  have Gfolded : Fq P w K mg base CX0 1 "_law_folded" ["_law_script", "_law_size"] (spFolded K) := mkFq F_law_folded g_law_folded (fun _ _ _ _ _ _ us hl => match us, hl with | [_, _], _ => rfl) (.of (ok_folded (ofD F_law_folded) B.toBlt))
  have Gsame : Fq P w K mg base CX0 6 "_law_same" ["_law_found", "_law_due"] (spSame K 5) := mkFq F_law_same g_law_same (fun _ _ _ _ _ _ us hl => match us, hl with | [_, _], _ => rfl) (same_fn F_law_same B g_law_same 5 (by decide))
  have Gown : Fq P w K mg base CX0 1 "_law_own" ["_law_one"] (spOwn (csK K)) := mkFq F_law_own g_law_own (fun _ _ _ _ _ _ us hl => match us, hl with | [_], _ => rfl) (ok_own F_law_own B GC E5)
  have Gover : Fq P w K mg base CX0 1 "_law_over" ["_law_one"] (spOver (csK K)) := mkFq F_law_over g_law_over (fun _ _ _ _ _ _ us hl => match us, hl with | [_], _ => rfl) (ok_over F_law_over B E5)
  have Gmade : Fq P w K mg base CX0 3 "_law_made" ["_law_a", "_law_b"] (spMade (csK K)) := mkFq F_law_made g_law_made (fun _ _ _ _ _ _ us hl => match us, hl with | [_, _], _ => rfl) (ok_made F_law_made MBadGrammar MBadRow MBadText MNoTree MNoGiven MNotLet MNoCap MNoName MNoOp MNoRow MNoSpot MNoNode MRing MRinged MClash MTaken MLacks MTooMuch)
  have Gcalled : Fq P w K mg base CX0 3 "_law_called" ["_law_a", "_law_b"] (spMade (csK K)) := mkFq F_law_called g_law_called (fun _ _ _ _ _ _ us hl => match us, hl with | [_, _], _ => rfl) (ok_called F_law_called MkBadGrammar MkBadRow MkBadText MkNoTree MkNoGiven MkNotLet MkNoCap MkNoName MkNoOp MkNoRow MkNoSpot MkNoNode MkRing MkRinged MkClash MkTaken MkLacks MkTooMuch)
  have Gfields : Fq P w K mg base CX0 1 "_law_fields" ["_law_some"] (spFields K (csK K)) := mkFq F_law_fields g_law_fields (fun _ _ _ _ _ _ us hl => match us, hl with | [_], _ => rfl) (ok_fields F_law_fields E5 FL)
  have Gthing : Fq P w K mg base CX0 2 "_law_thing" ["_law_box"] (spThing K) := mkFq F_law_thing g_law_thing (fun _ _ _ _ _ _ us hl => match us, hl with | [_], _ => rfl) (ok_thing F_law_thing Gtake)
  have Gright : Fq P w K mg base CX0 7 "_law_right" ["_law_a", "_law_b"] (spRight K) := mkFq F_law_right g_law_right (fun _ _ _ _ _ _ us hl => match us, hl with | [_, _], _ => rfl) (ok_right F_law_right B Gmade Gcalled Gown Gover Gfields Gsame)
  exact ok_law Flaw B CN Gfolded Gdip Gthing Gsame Gright
end Law
open PySem PySem.W PySem.Calls PyProof.Rows
set_option maxRecDepth 100000 in
set_option maxHeartbeats 0 in
theorem PySem.Challenge.cw_threereckons_k05_errors_and_limits_holds : PySem.Challenge.rw_threereckons_k05_errors_and_limits.Holds := by
  w_on; o_law
  refine HandSHeadRun.head_any (r := OpenLaw.row PySem.Challenge.rw_threereckons_k05_errors_and_limits) (q := view (OpenLaw.row PySem.Challenge.rw_threereckons_k05_errors_and_limits).prog [33]) (H := Law.hk) (ob := Law.ob) (M := 10000) (loose := Law.loose) (d := HandSHeadRun.topDef (OpenLaw.row PySem.Challenge.rw_threereckons_k05_errors_and_limits).prog 33) (kwd := []) Law.ob_eq
    (by kernel_rfl) (fun s => by kernel_rfl) Law.topRun (by kernel_rfl) (by kernel_rfl) (by kernel_rfl) (by rfl) (by first | assumption | decide +kernel) (by decide +kernel) ⟨rfl, rfl, rfl, rfl, rfl, by decide +kernel⟩ ?hw ?hc
  case hw => w_witness2
  case hc =>
    refine Fw.walk_ofG (l := PySem.Challenge.rw_threereckons_k05_errors_and_limits) (n := 63) (k := 8) (x := "_law_script") rfl (by decide) (by kernel_rfl) ⟨rfl, by decide, by decide⟩ ?F
    intro w mg fa h Y G hmg0
    obtain ⟨K, KX, c⟩ := Y
    have hmg : mg ("law" : PySem.Str) = some (.ref fa) := by
      have e : (HandSHeadRun.topDef (OpenLaw.row PySem.Challenge.rw_threereckons_k05_errors_and_limits).prog 33).name = ("law" : PySem.Str) := by kernel_rfl
      rw [← e]
      exact hmg0
    obtain ⟨fd, hb, hF⟩ := Law.facts (P := (PySem.Challenge.rw_threereckons_k05_errors_and_limits).prog) (w := w) KX G hmg c
    exact ⟨K, fd, Law.spLaw K, KX, hb, fun H a ns hl _ hS => ⟨a, ns, rfl, hS, hl, fun _ => rfl⟩, hF⟩
