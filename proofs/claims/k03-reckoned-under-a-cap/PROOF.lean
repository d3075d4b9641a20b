import PyProof.Rows.All
import Wide.All
import OpenK.AllK
import Wide.FinOn
import HandS.ForMost
import HandS.Flow
import HandS.Style
import HandS.Wide
import HandS.TupAny
import HandS.TupMul
import HandS.Deep
import HandS.Conv
import HandS.More
import HandS.IsInst
import HandS.Walk
import HandS.MakeKwOnly
import HandS.CallLocal
import HandS.NoneIn
import KE.KUnpackStar
import PyProof.DictUpdate
import HandS.Text
import HandS.ExcInit
import HandS.ExcOwn
import HandS.ExcField
import HandS.ExcIs
import HandS.ExcBuiltin
import HandS.WordsExc
import HandS.CallSlots
import KE.KExcInit
import HandS.TryOnly
import HandS.Head0
import HandS.Head1
import HandS.Head2
import HandS.HeadEnd
import HandS.HeadHook1
import HandS.HeadHook2
import HandS.HeadHook3
import HandS.HeadHook4
import PySem.Challenge.RW_threereckons_k03_reckoned_under_a_cap
set_option Elab.async false
set_option linter.all false
set_option maxRecDepth 100000
set_option maxHeartbeats 4000000
set_option hygiene false
local macro_rules | `(tactic| walk_at "sql") => `(tactic| (first | exact SqL.of (hw.at 0 rfl) | exact SqL.of (hw.at 1 rfl) | exact SqL.of (hw.at 2 rfl) | exact SqL.of (hw.at 3 rfl) | exact SqL.of (hw.at 4 rfl) | exact SqL.of (hw.at 5 rfl) | exact SqL.of (hw.at 6 rfl) | exact SqL.of (hw.kn 0 rfl) | exact SqL.of (hw.kn 1 rfl) | exact SqL.of (hw.kn 2 rfl) | exact SqL.of (hw.kn 3 rfl) | exact SqL.of (hw.kn 4 rfl) | exact SqL.of (Rp.ints (hw.rp 0 rfl)) | exact SqL.of (Rp.ints (hw.rp 1 rfl)) | exact SqL.of (Rp.ints (hw.rp 2 rfl)) | exact SqL.of (Rp.ints (hw.rp 3 rfl)) | exact SqL.of (Rp.strs (hw.rp 0 rfl)) | exact SqL.of (Rp.strs (hw.rp 1 rfl)) | exact SqL.of (Rp.strs (hw.rp 2 rfl)) | exact SqL.of (Rp.strs (hw.rp 3 rfl)) | assumption | exact hw.sq0 (by assumption)))
local macro_rules | `(tactic| walk_at "lst") => `(tactic| (first | exact hw.at 0 rfl | exact hw.at 1 rfl | exact hw.at 2 rfl | exact hw.at 3 rfl | exact hw.at 4 rfl | exact hw.at 5 rfl | exact hw.at 6 rfl | exact hw.kn 0 rfl | exact hw.kn 1 rfl | exact hw.kn 2 rfl | exact hw.kn 3 rfl | exact hw.kn 4 rfl | exact Rp.ints (hw.rp 0 rfl) | exact Rp.ints (hw.rp 1 rfl) | exact Rp.ints (hw.rp 2 rfl) | exact Rp.ints (hw.rp 3 rfl) | exact Rp.strs (hw.rp 0 rfl) | exact Rp.strs (hw.rp 1 rfl) | exact Rp.strs (hw.rp 2 rfl) | exact Rp.strs (hw.rp 3 rfl) | assumption))
local macro_rules | `(tactic| walk_at "sqt") => `(tactic| (first | exact SqT.of (hw.at 0 rfl) | exact SqT.of (hw.at 1 rfl) | exact SqT.of (hw.at 2 rfl) | exact SqT.of (hw.at 3 rfl) | exact SqT.of (hw.at 4 rfl) | exact SqT.of (hw.at 5 rfl) | exact SqT.of (hw.at 6 rfl) | exact hw.tp 0 rfl | exact hw.tp 1 rfl | exact hw.tp 2 rfl | exact hw.tp 3 rfl | exact hw.tp 4 rfl | exact SqT.of (hw.kn 0 rfl) | exact SqT.of (hw.kn 1 rfl) | exact SqT.of (hw.kn 2 rfl) | exact SqT.of (hw.kn 3 rfl) | exact SqT.of (hw.kn 4 rfl) | assumption))
local macro_rules | `(tactic| walk_at "dd") => `(tactic| (repeat' (first | exact DdAll.nil | apply DdAll.cons | exact Dd.int _ | exact Dd.str _ | exact Dd.bl _ | exact Dd.non | exact hw.rp 0 rfl | exact hw.rp 1 rfl | exact hw.rp 2 rfl | exact hw.rp 3 rfl | exact hw.rp 4 rfl | exact hw.rp 5 rfl | exact hw.rp 6 rfl | exact hw.rp 7 rfl | exact hw.rp 8 rfl | exact hw.rp 9 rfl | exact hw.rp 10 rfl | exact hw.rp 11 rfl | exact hw.rp 12 rfl | exact hw.rp 13 rfl | assumption)))
local macro_rules | `(tactic| walk_at "nm") => `(tactic| (try simp only [List.set_cons_zero, List.set_cons_succ] at hw))
local macro_rules | `(tactic| walk_at "sx") => `(tactic| (repeat (first | ((with_reducible refine' x_var ?h ?_); (case h => rfl)) | with_reducible refine x_fldOf ?_ | with_reducible refine x_mkO ?_ | with_reducible refine x_callNS ?_ | with_reducible refine x_callS ?_ | with_reducible refine x_bm ?_ | with_reducible refine x_bm0 ?_ | with_reducible refine x_tyS ?_ | with_reducible refine x_pairs ?_ | with_reducible refine x_pairs0 ?_ | with_reducible refine x_rev ?_ | with_reducible refine x_chain ?_ | with_reducible refine x_nx ?_ | with_reducible refine x_seq ?_ | with_reducible refine x_op ?_ | with_reducible refine x_cons ?_ | with_reducible refine x_nil ?_ | with_reducible refine x_c ?_ | with_reducible refine x_set ?_ | with_reducible refine x_ret ?_ | with_reducible refine x_rt ?_ | with_reducible refine x_cb ?_ | with_reducible refine x_call ?_ | with_reducible refine x_test ?_ | with_reducible refine x_B ?_ | with_reducible refine x_ifS ?_ | with_reducible refine x_if ?_ | with_reducible refine x_and ?_ | with_reducible refine x_or ?_ | with_reducible refine x_not ?_ | with_reducible refine x_andV ?_ | with_reducible refine x_orV ?_ | with_reducible refine x_notV ?_ | with_reducible refine x_un ?_ | with_reducible refine x_asgS ?_ | with_reducible refine x_asgT ?_ | with_reducible refine x_asgG ?_ | with_reducible refine x_drop ?_ | with_reducible refine x_next ?_ | with_reducible refine x_par ?_ | with_reducible refine x_par3 ?_ | with_reducible refine x_is2 ?_ | with_reducible refine x_is3 ?_ | with_reducible refine x_sl ?_ | with_reducible refine x_nopart ?_ | with_reducible refine x_part ?_ | with_reducible refine x_isint ?_ | with_reducible refine x_isbl ?_ | with_reducible refine x_addI ?_ | with_reducible refine x_rI0 ?_ | with_reducible refine x_rU ?_ | with_reducible refine x_isNI ?_ | with_reducible refine x_isNS ?_ | with_reducible refine x_isNB ?_ | with_reducible refine x_isNR ?_ | with_reducible refine x_isNN ?_ | with_reducible refine x_isNotNI ?_ | with_reducible refine x_isNotNS ?_ | with_reducible refine x_isNotNB ?_ | with_reducible refine x_isNotNR ?_ | with_reducible refine x_isNotNN ?_ | with_reducible refine x_eqR rfl ?_ | with_reducible refine x_neR rfl ?_ | with_reducible refine x_eqI ?_ | with_reducible refine x_neI ?_ | with_reducible refine x_eqStr ?_ | with_reducible refine x_neStr ?_ | with_reducible refine x_eqB ?_ | with_reducible refine x_neB ?_ | with_reducible refine x_isN ?_ | with_reducible refine x_isNotN ?_ | with_reducible refine x_isB ?_ | with_reducible refine x_isNotB ?_ | with_reducible refine x_min2 ?_ | with_reducible refine x_max2 ?_ | with_reducible refine x_ifT ?_ | with_reducible refine x_ifF ?_ | with_reducible refine x_ifnT ?_ | with_reducible refine x_ifnF ?_ | with_reducible refine x_lst ?_ | with_reducible refine x_tup ?_ | with_reducible refine x_abs ?_ | with_reducible refine x_intI ?_ | with_reducible refine x_intB ?_ | with_reducible refine x_callN ?_ | with_reducible refine x_dget ?_ | with_reducible refine x_gName ?_ | with_reducible refine x_gCons ?_ | with_reducible refine x_gNil ?_ | with_reducible refine x_forK ?_ | with_reducible refine x_lc ?_ | with_reducible refine x_yes ?_ | with_reducible refine x_iU ?_ | with_reducible refine x_itS ?_ | with_reducible refine x_iList ?_ | with_reducible refine x_iTup ?_ | with_reducible refine x_iRng1 ?_ | with_reducible refine x_iRng2 ?_ | with_reducible refine x_iEnum ?_ | with_reducible refine x_iZip ?_ | with_reducible refine x_brk ?_ | with_reducible refine x_cont ?_ | with_reducible refine x_ct ?_ | with_reducible refine x_bk ?_ | ((with_reducible refine x_eqS ?h ?_); (case h => rfl)) | ((with_reducible refine x_neS ?h ?_); (case h => rfl)) | ((with_reducible refine x_mulI ?h ?_); (case h => first | exact .inl ⟨by omega, by omega⟩ | exact .inr ⟨by omega, by omega⟩)) | ((with_reducible refine x_rI ?h ?_); (case h => first | omega | exact ⟨by omega, by omega⟩ | exact ⟨by omega, by omega, by omega⟩)) | ((with_reducible refine' x_ixL ?h ?e ?_); (case h => walk_at "sql"); (case e => (first | rfl | assumption | exact atI_nat rfl | (simp; done)))) | ((with_reducible refine' x_lenL ?h ?_); (case h => walk_at "sql")) | ((with_reducible refine' w_setL hw 0 ?h ?e ?_); (case h => rfl); (case e => first | rfl | assumption); intro H hw; walk_at "nm") | ((with_reducible refine' w_setL hw 1 ?h ?e ?_); (case h => rfl); (case e => first | rfl | assumption); intro H hw; walk_at "nm") | ((with_reducible refine' w_setL hw 2 ?h ?e ?_); (case h => rfl); (case e => first | rfl | assumption); intro H hw; walk_at "nm") | ((with_reducible refine' w_setL hw 3 ?h ?e ?_); (case h => rfl); (case e => first | rfl | assumption); intro H hw; walk_at "nm") | ((with_reducible refine w_lst hw (by first | exact szl rfl | assumption) ?_); intro p H hp hw) | ((with_reducible refine w_tupC hw (by first | exact szl rfl | assumption) ?_); intro p H hp hw) | ((with_reducible refine' x_inT ?h ?e ?e2 ?_); (case h => walk_at "sqt"); (case e => rfl); (case e2 => rfl)) | ((with_reducible refine' x_inL ?h ?e ?e2 ?_); (case h => walk_at "sql"); (case e => rfl); (case e2 => rfl)) | ((with_reducible refine' x_notInT ?h ?e ?e2 ?_); (case h => walk_at "sqt"); (case e => rfl); (case e2 => rfl)) | ((with_reducible refine' x_notInL ?h ?e ?e2 ?_); (case h => walk_at "sql"); (case e => rfl); (case e2 => rfl)) | ((with_reducible refine' x_ixT ?h ?e ?_); (case h => walk_at "sqt"); (case e => (first | rfl | assumption | exact atI_nat rfl | (simp; done)))) | ((with_reducible refine' w_slL hw ?h ?_); (case h => walk_at "sql"); intro p H hp hw) | ((with_reducible refine' w_listL hw ?h ?_); (case h => walk_at "sql"); intro p H hp hw) | ((with_reducible refine' x_itL ?h ?_); (case h => walk_at "sql")) | ((with_reducible refine' x_itT ?h ?_); (case h => walk_at "sqt")) | ((with_reducible refine' x_iL ?h ?_); (case h => walk_at "sql")) | ((with_reducible refine' x_en ?h ?_); (case h => walk_at "sql")) | ((with_reducible refine x_rng1 ?h1 ?h2 ?_); (case h1 => first | omega | (simp only [List.length_map]; omega)); (case h2 => first | omega | (simp only [List.length_map]; omega))) | ((with_reducible refine x_rng2 ?h ?_); (case h => first | exact ⟨by omega, by omega, by omega, by omega⟩)) | ((with_reducible refine' x_gTup ?h ?e ?_); (case h => walk_at "sqt"); (case e => rfl)) | (with_reducible refine x_wipe rfl ?_) | ((with_reducible refine' w_app hw 0 ?h ?e ?_); (case h => rfl); (case e => first | (refine sz_lt ?_; simp; done) | (refine sz_lt ?_; simp; omega) | assumption); intro H hw; walk_at "nm") | ((with_reducible refine' w_app hw 1 ?h ?e ?_); (case h => rfl); (case e => first | (refine sz_lt ?_; simp; done) | (refine sz_lt ?_; simp; omega) | assumption); intro H hw; walk_at "nm") | ((with_reducible refine' w_app hw 2 ?h ?e ?_); (case h => rfl); (case e => first | (refine sz_lt ?_; simp; done) | (refine sz_lt ?_; simp; omega) | assumption); intro H hw; walk_at "nm") | ((with_reducible refine' w_app hw 3 ?h ?e ?_); (case h => rfl); (case e => first | (refine sz_lt ?_; simp; done) | (refine sz_lt ?_; simp; omega) | assumption); intro H hw; walk_at "nm") | ((with_reducible refine' w_app hw 4 ?h ?e ?_); (case h => rfl); (case e => first | (refine sz_lt ?_; simp; done) | (refine sz_lt ?_; simp; omega) | assumption); intro H hw; walk_at "nm") | ((with_reducible refine' x_callL ?h ?_); (case h => rfl)) | (with_reducible refine x_lens rfl rfl ?_) | ((with_reducible refine' x_sum ?h ?_); (case h => walk_at "sql")) | ((with_reducible refine' x_gU2 ?h ?_); (case h => walk_at "sql")) | ((with_reducible refine' x_gU3 ?h ?_); (case h => walk_at "sql")) | ((with_reducible refine' x_gStL1 hw ?h ?e ?_); (case h => walk_at "sql"); (case e => simp); intro p H hp hw) | ((with_reducible refine' x_take hw 0 ?h ?bx ?e ?e2 ?e3 ?_); (case h => rfl); (case bx => assumption); (case e => omega); (case e2 => omega); (case e3 => omega); intro r a c H hr0 hr1 bx hcc hw; walk_at "nm") | ((with_reducible refine' x_take hw 1 ?h ?bx ?e ?e2 ?e3 ?_); (case h => rfl); (case bx => assumption); (case e => omega); (case e2 => omega); (case e3 => omega); intro r a c H hr0 hr1 bx hcc hw; walk_at "nm") | ((with_reducible refine' x_take hw 2 ?h ?bx ?e ?e2 ?e3 ?_); (case h => rfl); (case bx => assumption); (case e => omega); (case e2 => omega); (case e3 => omega); intro r a c H hr0 hr1 bx hcc hw; walk_at "nm") | ((with_reducible refine' x_take hw 3 ?h ?bx ?e ?e2 ?e3 ?_); (case h => rfl); (case bx => assumption); (case e => omega); (case e2 => omega); (case e3 => omega); intro r a c H hr0 hr1 bx hcc hw; walk_at "nm") | ((with_reducible refine' x_take hw 4 ?h ?bx ?e ?e2 ?e3 ?_); (case h => rfl); (case bx => assumption); (case e => omega); (case e2 => omega); (case e3 => omega); intro r a c H hr0 hr1 bx hcc hw; walk_at "nm") | ((with_reducible refine' w_cat hw ?h1 ?h2 ?e ?_); (case h1 => walk_at "lst"); (case h2 => walk_at "lst"); (case e => first | exact szl rfl | (simp; omega)); intro p H hp hw) | ((with_reducible refine' w_rev hw ?h ?_); (case h => walk_at "sql"); intro p H hp hw) | ((with_reducible refine' w_disp hw ?_); intro p H hp hw) | ((with_reducible refine' w_dispEnd hw 0 ?h ?e ?e2 ?_); (case h => rfl); (case e => rfl); (case e2 => exact Nat.le_of_ble_eq_true rfl); intro H hw; walk_at "nm") | ((with_reducible refine' w_dispEnd hw 1 ?h ?e ?e2 ?_); (case h => rfl); (case e => rfl); (case e2 => exact Nat.le_of_ble_eq_true rfl); intro H hw; walk_at "nm") | ((with_reducible refine' w_dispEnd hw 2 ?h ?e ?e2 ?_); (case h => rfl); (case e => rfl); (case e2 => exact Nat.le_of_ble_eq_true rfl); intro H hw; walk_at "nm") | ((with_reducible refine' w_dispEnd hw 3 ?h ?e ?e2 ?_); (case h => rfl); (case e => rfl); (case e2 => exact Nat.le_of_ble_eq_true rfl); intro H hw; walk_at "nm") | ((with_reducible refine' w_update (n := 1) (m := 0) hw ?h ?h2 (by decide) ?e ?_); (case h => rfl); (case h2 => rfl); (case e => exact Nat.le_of_ble_eq_true rfl); intro H hw; walk_at "nm") | ((with_reducible refine' w_update (n := 0) (m := 1) hw ?h ?h2 (by decide) ?e ?_); (case h => rfl); (case h2 => rfl); (case e => exact Nat.le_of_ble_eq_true rfl); intro H hw; walk_at "nm") | ((with_reducible refine' w_update (n := 2) (m := 0) hw ?h ?h2 (by decide) ?e ?_); (case h => rfl); (case h2 => rfl); (case e => exact Nat.le_of_ble_eq_true rfl); intro H hw; walk_at "nm") | (with_reducible refine x_isiI (b := true) (by decide +kernel) ?_) | (with_reducible refine x_isiB (b := true) (by decide +kernel) ?_) | (with_reducible refine x_isiS (b := true) (by decide +kernel) ?_) | (with_reducible refine x_isiN (b := true) (by decide +kernel) ?_) | (with_reducible refine x_isiI (b := false) (by decide +kernel) ?_) | (with_reducible refine x_isiB (b := false) (by decide +kernel) ?_) | (with_reducible refine x_isiS (b := false) (by decide +kernel) ?_) | (with_reducible refine x_isiN (b := false) (by decide +kernel) ?_) | ((with_reducible refine' x_eqIL ?h1 ?h2 ?_); (case h1 => walk_at "lst"); (case h2 => walk_at "lst")) | ((with_reducible refine' x_neIL ?h1 ?h2 ?_); (case h1 => walk_at "lst"); (case h2 => walk_at "lst")) | ((with_reducible refine' x_tyL ?h ?_); (case h => walk_at "lst")) | ((with_reducible refine' x_tyD ?h ?_); (case h => walk_at "lst")) | ((with_reducible refine' w_append (n := 0) hw ?h ?e ?_); (case h => rfl); (case e => first | (refine sz_lt ?_; simp; done) | (refine sz_lt ?_; simp; omega) | assumption); intro H hw; walk_at "nm") | ((with_reducible refine' w_append (n := 1) hw ?h ?e ?_); (case h => rfl); (case e => first | (refine sz_lt ?_; simp; done) | (refine sz_lt ?_; simp; omega) | assumption); intro H hw; walk_at "nm") | ((with_reducible refine' w_append (n := 2) hw ?h ?e ?_); (case h => rfl); (case e => first | (refine sz_lt ?_; simp; done) | (refine sz_lt ?_; simp; omega) | assumption); intro H hw; walk_at "nm") | ((with_reducible refine' w_append (n := 3) hw ?h ?e ?_); (case h => rfl); (case e => first | (refine sz_lt ?_; simp; done) | (refine sz_lt ?_; simp; omega) | assumption); intro H hw; walk_at "nm") | ((with_reducible refine' x_dgetS ?h ?e ?_); (case h => walk_at "lst"); (case e => rfl)) | ((with_reducible refine x_ifP (by first | omega | exact rfl) ?_)) | ((with_reducible refine x_ifN (by omega) ?_)) | ((with_reducible refine x_ifnP (by first | omega | exact rfl) ?_)) | ((with_reducible refine x_ifnN (by omega) ?_)) | (with_reducible refine x_ifbT (by decide +kernel) ?_) | (with_reducible refine x_ifbF (by decide +kernel) ?_))))
local macro_rules | `(tactic| walk_at "sxd") => `(tactic| (repeat (first | ((with_reducible refine' x_var ?h ?_); (case h => rfl)) | with_reducible refine x_fldOf ?_ | with_reducible refine x_mkO ?_ | with_reducible refine x_callNS ?_ | with_reducible refine x_callS ?_ | with_reducible refine x_bm ?_ | with_reducible refine x_bm0 ?_ | with_reducible refine x_tyS ?_ | with_reducible refine x_pairs ?_ | with_reducible refine x_pairs0 ?_ | with_reducible refine x_rev ?_ | with_reducible refine x_chain ?_ | with_reducible refine x_nx ?_ | with_reducible refine x_seq ?_ | with_reducible refine x_op ?_ | with_reducible refine x_cons ?_ | with_reducible refine x_nil ?_ | with_reducible refine x_c ?_ | with_reducible refine x_set ?_ | with_reducible refine x_ret ?_ | with_reducible refine x_rt ?_ | with_reducible refine x_cb ?_ | with_reducible refine x_call ?_ | with_reducible refine x_test ?_ | with_reducible refine x_B ?_ | with_reducible refine x_ifS ?_ | with_reducible refine x_if ?_ | with_reducible refine x_and ?_ | with_reducible refine x_or ?_ | with_reducible refine x_not ?_ | with_reducible refine x_andV ?_ | with_reducible refine x_orV ?_ | with_reducible refine x_notV ?_ | with_reducible refine x_un ?_ | with_reducible refine x_asgS ?_ | with_reducible refine x_asgT ?_ | with_reducible refine x_asgG ?_ | with_reducible refine x_drop ?_ | with_reducible refine x_next ?_ | with_reducible refine x_par ?_ | with_reducible refine x_par3 ?_ | with_reducible refine x_is2 ?_ | with_reducible refine x_is3 ?_ | with_reducible refine x_sl ?_ | with_reducible refine x_nopart ?_ | with_reducible refine x_part ?_ | with_reducible refine x_isint ?_ | with_reducible refine x_isbl ?_ | with_reducible refine x_addI ?_ | with_reducible refine x_rI0 ?_ | with_reducible refine x_rU ?_ | with_reducible refine x_isNI ?_ | with_reducible refine x_isNS ?_ | with_reducible refine x_isNB ?_ | with_reducible refine x_isNR ?_ | with_reducible refine x_isNN ?_ | with_reducible refine x_isNotNI ?_ | with_reducible refine x_isNotNS ?_ | with_reducible refine x_isNotNB ?_ | with_reducible refine x_isNotNR ?_ | with_reducible refine x_isNotNN ?_ | with_reducible refine x_eqR rfl ?_ | with_reducible refine x_neR rfl ?_ | with_reducible refine x_eqI ?_ | with_reducible refine x_neI ?_ | with_reducible refine x_eqStr ?_ | with_reducible refine x_neStr ?_ | with_reducible refine x_eqB ?_ | with_reducible refine x_neB ?_ | with_reducible refine x_isN ?_ | with_reducible refine x_isNotN ?_ | with_reducible refine x_isB ?_ | with_reducible refine x_isNotB ?_ | with_reducible refine x_min2 ?_ | with_reducible refine x_max2 ?_ | with_reducible refine x_ifT ?_ | with_reducible refine x_ifF ?_ | with_reducible refine x_ifnT ?_ | with_reducible refine x_ifnF ?_ | with_reducible refine x_lst ?_ | with_reducible refine x_tup ?_ | with_reducible refine x_abs ?_ | with_reducible refine x_intI ?_ | with_reducible refine x_intB ?_ | with_reducible refine x_callN ?_ | with_reducible refine x_dget ?_ | with_reducible refine x_gName ?_ | with_reducible refine x_gCons ?_ | with_reducible refine x_gNil ?_ | with_reducible refine x_forK ?_ | with_reducible refine x_lc ?_ | with_reducible refine x_yes ?_ | with_reducible refine x_iU ?_ | with_reducible refine x_itS ?_ | with_reducible refine x_iList ?_ | with_reducible refine x_iTup ?_ | with_reducible refine x_iRng1 ?_ | with_reducible refine x_iRng2 ?_ | with_reducible refine x_iEnum ?_ | with_reducible refine x_iZip ?_ | with_reducible refine x_brk ?_ | with_reducible refine x_cont ?_ | with_reducible refine x_ct ?_ | with_reducible refine x_bk ?_ | ((with_reducible refine x_eqS ?h ?_); (case h => rfl)) | ((with_reducible refine x_neS ?h ?_); (case h => rfl)) | ((with_reducible refine x_mulI ?h ?_); (case h => first | exact .inl ⟨by omega, by omega⟩ | exact .inr ⟨by omega, by omega⟩)) | ((with_reducible refine x_rI ?h ?_); (case h => first | omega | exact ⟨by omega, by omega⟩ | exact ⟨by omega, by omega, by omega⟩)) | ((with_reducible refine' x_ixL ?h ?e ?_); (case h => walk_at "sql"); (case e => (first | rfl | assumption | exact atI_nat rfl | (simp; done)))) | ((with_reducible refine' x_lenL ?h ?_); (case h => walk_at "sql")) | ((with_reducible refine' w_setL hw 0 ?h ?e ?_); (case h => rfl); (case e => first | rfl | assumption); intro H hw; walk_at "nm") | ((with_reducible refine' w_setL hw 1 ?h ?e ?_); (case h => rfl); (case e => first | rfl | assumption); intro H hw; walk_at "nm") | ((with_reducible refine' w_setL hw 2 ?h ?e ?_); (case h => rfl); (case e => first | rfl | assumption); intro H hw; walk_at "nm") | ((with_reducible refine' w_setL hw 3 ?h ?e ?_); (case h => rfl); (case e => first | rfl | assumption); intro H hw; walk_at "nm") | ((with_reducible refine' w_lstD hw ?d ?e ?_); (case d => walk_at "dd"); (case e => exact szl rfl); intro p H hp hw) | ((with_reducible refine' w_tupD hw ?d ?e ?_); (case d => walk_at "dd"); (case e => exact szl rfl); intro p H hp hw) | ((with_reducible refine' x_inT ?h ?e ?e2 ?_); (case h => walk_at "sqt"); (case e => rfl); (case e2 => rfl)) | ((with_reducible refine' x_inL ?h ?e ?e2 ?_); (case h => walk_at "sql"); (case e => rfl); (case e2 => rfl)) | ((with_reducible refine' x_notInT ?h ?e ?e2 ?_); (case h => walk_at "sqt"); (case e => rfl); (case e2 => rfl)) | ((with_reducible refine' x_notInL ?h ?e ?e2 ?_); (case h => walk_at "sql"); (case e => rfl); (case e2 => rfl)) | ((with_reducible refine' x_ixT ?h ?e ?_); (case h => walk_at "sqt"); (case e => (first | rfl | assumption | exact atI_nat rfl | (simp; done)))) | ((with_reducible refine' w_slL hw ?h ?_); (case h => walk_at "sql"); intro p H hp hw) | ((with_reducible refine' w_listL hw ?h ?_); (case h => walk_at "sql"); intro p H hp hw) | ((with_reducible refine' x_itL ?h ?_); (case h => walk_at "sql")) | ((with_reducible refine' x_itT ?h ?_); (case h => walk_at "sqt")) | ((with_reducible refine' x_iL ?h ?_); (case h => walk_at "sql")) | ((with_reducible refine' x_en ?h ?_); (case h => walk_at "sql")) | ((with_reducible refine x_rng1 ?h1 ?h2 ?_); (case h1 => first | omega | (simp only [List.length_map]; omega)); (case h2 => first | omega | (simp only [List.length_map]; omega))) | ((with_reducible refine x_rng2 ?h ?_); (case h => first | exact ⟨by omega, by omega, by omega, by omega⟩)) | ((with_reducible refine' x_gTup ?h ?e ?_); (case h => walk_at "sqt"); (case e => rfl)) | (with_reducible refine x_wipe rfl ?_) | ((with_reducible refine' w_app hw 0 ?h ?e ?_); (case h => rfl); (case e => first | (refine sz_lt ?_; simp; done) | (refine sz_lt ?_; simp; omega) | assumption); intro H hw; walk_at "nm") | ((with_reducible refine' w_app hw 1 ?h ?e ?_); (case h => rfl); (case e => first | (refine sz_lt ?_; simp; done) | (refine sz_lt ?_; simp; omega) | assumption); intro H hw; walk_at "nm") | ((with_reducible refine' w_app hw 2 ?h ?e ?_); (case h => rfl); (case e => first | (refine sz_lt ?_; simp; done) | (refine sz_lt ?_; simp; omega) | assumption); intro H hw; walk_at "nm") | ((with_reducible refine' w_app hw 3 ?h ?e ?_); (case h => rfl); (case e => first | (refine sz_lt ?_; simp; done) | (refine sz_lt ?_; simp; omega) | assumption); intro H hw; walk_at "nm") | ((with_reducible refine' w_app hw 4 ?h ?e ?_); (case h => rfl); (case e => first | (refine sz_lt ?_; simp; done) | (refine sz_lt ?_; simp; omega) | assumption); intro H hw; walk_at "nm") | ((with_reducible refine' x_callL ?h ?_); (case h => rfl)) | (with_reducible refine x_lens rfl rfl ?_) | ((with_reducible refine' x_sum ?h ?_); (case h => walk_at "sql")) | ((with_reducible refine' x_gU2 ?h ?_); (case h => walk_at "sql")) | ((with_reducible refine' x_gU3 ?h ?_); (case h => walk_at "sql")) | ((with_reducible refine' x_gStL1 hw ?h ?e ?_); (case h => walk_at "sql"); (case e => simp); intro p H hp hw) | ((with_reducible refine' x_take hw 0 ?h ?bx ?e ?e2 ?e3 ?_); (case h => rfl); (case bx => assumption); (case e => omega); (case e2 => omega); (case e3 => omega); intro r a c H hr0 hr1 bx hcc hw; walk_at "nm") | ((with_reducible refine' x_take hw 1 ?h ?bx ?e ?e2 ?e3 ?_); (case h => rfl); (case bx => assumption); (case e => omega); (case e2 => omega); (case e3 => omega); intro r a c H hr0 hr1 bx hcc hw; walk_at "nm") | ((with_reducible refine' x_take hw 2 ?h ?bx ?e ?e2 ?e3 ?_); (case h => rfl); (case bx => assumption); (case e => omega); (case e2 => omega); (case e3 => omega); intro r a c H hr0 hr1 bx hcc hw; walk_at "nm") | ((with_reducible refine' x_take hw 3 ?h ?bx ?e ?e2 ?e3 ?_); (case h => rfl); (case bx => assumption); (case e => omega); (case e2 => omega); (case e3 => omega); intro r a c H hr0 hr1 bx hcc hw; walk_at "nm") | ((with_reducible refine' x_take hw 4 ?h ?bx ?e ?e2 ?e3 ?_); (case h => rfl); (case bx => assumption); (case e => omega); (case e2 => omega); (case e3 => omega); intro r a c H hr0 hr1 bx hcc hw; walk_at "nm") | ((with_reducible refine' w_catD hw ?h1 ?h2 ?e ?_); (case h1 => walk_at "dd"); (case h2 => walk_at "dd"); (case e => exact szl rfl); intro p H hp hw) | ((with_reducible refine' w_cat hw ?h1 ?h2 ?e ?_); (case h1 => walk_at "lst"); (case h2 => walk_at "lst"); (case e => first | exact szl rfl | (simp; omega)); intro p H hp hw) | ((with_reducible refine' w_rev hw ?h ?_); (case h => walk_at "sql"); intro p H hp hw) | ((with_reducible refine' w_disp hw ?_); intro p H hp hw) | ((with_reducible refine' w_dispEnd hw 0 ?h ?e ?e2 ?_); (case h => rfl); (case e => rfl); (case e2 => exact Nat.le_of_ble_eq_true rfl); intro H hw; walk_at "nm") | ((with_reducible refine' w_dispEnd hw 1 ?h ?e ?e2 ?_); (case h => rfl); (case e => rfl); (case e2 => exact Nat.le_of_ble_eq_true rfl); intro H hw; walk_at "nm") | ((with_reducible refine' w_dispEnd hw 2 ?h ?e ?e2 ?_); (case h => rfl); (case e => rfl); (case e2 => exact Nat.le_of_ble_eq_true rfl); intro H hw; walk_at "nm") | ((with_reducible refine' w_dispEnd hw 3 ?h ?e ?e2 ?_); (case h => rfl); (case e => rfl); (case e2 => exact Nat.le_of_ble_eq_true rfl); intro H hw; walk_at "nm") | ((with_reducible refine' w_update (n := 1) (m := 0) hw ?h ?h2 (by decide) ?e ?_); (case h => rfl); (case h2 => rfl); (case e => exact Nat.le_of_ble_eq_true rfl); intro H hw; walk_at "nm") | ((with_reducible refine' w_update (n := 0) (m := 1) hw ?h ?h2 (by decide) ?e ?_); (case h => rfl); (case h2 => rfl); (case e => exact Nat.le_of_ble_eq_true rfl); intro H hw; walk_at "nm") | ((with_reducible refine' w_update (n := 2) (m := 0) hw ?h ?h2 (by decide) ?e ?_); (case h => rfl); (case h2 => rfl); (case e => exact Nat.le_of_ble_eq_true rfl); intro H hw; walk_at "nm") | (with_reducible refine x_isiI (b := true) (by decide +kernel) ?_) | (with_reducible refine x_isiB (b := true) (by decide +kernel) ?_) | (with_reducible refine x_isiS (b := true) (by decide +kernel) ?_) | (with_reducible refine x_isiN (b := true) (by decide +kernel) ?_) | (with_reducible refine x_isiI (b := false) (by decide +kernel) ?_) | (with_reducible refine x_isiB (b := false) (by decide +kernel) ?_) | (with_reducible refine x_isiS (b := false) (by decide +kernel) ?_) | (with_reducible refine x_isiN (b := false) (by decide +kernel) ?_) | ((with_reducible refine' x_eqIL ?h1 ?h2 ?_); (case h1 => walk_at "lst"); (case h2 => walk_at "lst")) | ((with_reducible refine' x_neIL ?h1 ?h2 ?_); (case h1 => walk_at "lst"); (case h2 => walk_at "lst")) | ((with_reducible refine' x_tyL ?h ?_); (case h => walk_at "lst")) | ((with_reducible refine' x_tyD ?h ?_); (case h => walk_at "lst")) | ((with_reducible refine' w_append (n := 0) hw ?h ?e ?_); (case h => rfl); (case e => first | (refine sz_lt ?_; simp; done) | (refine sz_lt ?_; simp; omega) | assumption); intro H hw; walk_at "nm") | ((with_reducible refine' w_append (n := 1) hw ?h ?e ?_); (case h => rfl); (case e => first | (refine sz_lt ?_; simp; done) | (refine sz_lt ?_; simp; omega) | assumption); intro H hw; walk_at "nm") | ((with_reducible refine' w_append (n := 2) hw ?h ?e ?_); (case h => rfl); (case e => first | (refine sz_lt ?_; simp; done) | (refine sz_lt ?_; simp; omega) | assumption); intro H hw; walk_at "nm") | ((with_reducible refine' w_append (n := 3) hw ?h ?e ?_); (case h => rfl); (case e => first | (refine sz_lt ?_; simp; done) | (refine sz_lt ?_; simp; omega) | assumption); intro H hw; walk_at "nm") | ((with_reducible refine' x_dgetS ?h ?e ?_); (case h => walk_at "lst"); (case e => rfl)) | ((with_reducible refine x_ifP (by first | omega | exact rfl) ?_)) | ((with_reducible refine x_ifN (by omega) ?_)) | ((with_reducible refine x_ifnP (by first | omega | exact rfl) ?_)) | ((with_reducible refine x_ifnN (by omega) ?_)) | (with_reducible refine x_ifbT (by decide +kernel) ?_) | (with_reducible refine x_ifbF (by decide +kernel) ?_))))
namespace Fw
open PySem PySem.Spec PyProof.Rows L2

/-! ### callees -/
structure Fn (P : Program) (w : World) (K : PySem.W.Frag) (mg : Str → Option Value) (base : Heap) (CX : CXT) (k : Nat) (x : Str) (ps : List Str) (sp : Sp) : Prop where
  ex : ∃ (f : Addr) (fd : FuncData), mg x = some (.ref f) ∧ PySem.W.keepIn K (.ref f) = true ∧ Binds K fd ps [] ∧ FnOk P w K mg base CX k f fd ps sp
section
variable {X : Cx} {CX : CXT} {k j : Nat} {ps : List Str} {sp : Sp} {E : XK} {x : Str} {p pos : Pos} {e : Expr} {es : List Expr} {t : TA}
theorem pe_fn (F : Fn X.prog X.w X.K X.mg X.base CX k x ps sp) (hr : Room j X.A) (hk : k ≤ j) (hg : Gl X x) (hx : Passes CX X E) (ha : PA X (e :: es) t) (hdb : (x == ("__debug__" : Str)) = false := by decide)
    (he : starEach (e :: es) X.env = (false, eval e X.env) :: starEach es X.env := by rfl) (hpl : (backTo pos (starEach es X.env)).any (·.1) = false := by rfl) : PE X (.Call (.Name x p) (e :: es) [] pos) (tCall sp [] E t) := by
  obtain ⟨f, fd, hm, hkp, hb, F⟩ := F.ex
  exact pe_call F (hr.mono hk) hg hm hkp hb .nil hx ha hdb he hpl
theorem pe_fn0 (F : Fn X.prog X.w X.K X.mg X.base CX k x ps sp) (hr : Room j X.A) (hk : k ≤ j) (hg : Gl X x) (hx : Passes CX X E) (hdb : (x == ("__debug__" : Str)) = false := by decide) : PE X (.Call (.Name x p) [] [] pos) (tCall sp [] E tNil) := by
  obtain ⟨f, fd, hm, hkp, hb, F⟩ := F.ex
  exact pe_call0 F (hr.mono hk) hg hm hkp hb .nil hx hdb
end
theorem Fn.mono {P : Program} {w : World} {K : PySem.W.Frag} {mg : Str → Option Value} {base : Heap} {CX : CXT} {j k : Nat} {x : Str} {ps : List Str} {sp : Sp} (F : Fn P w K mg base CX j x ps sp) (h : j ≤ k) : Fn P w K mg base CX k x ps sp := by
  obtain ⟨f, fd, hm, hkp, hb, F⟩ := F.ex
  exact ⟨f, fd, hm, hkp, hb, F.mono h⟩

/-! ### universal operators -/
section
variable {X : Cx}
def uAdd (K : PySem.W.Frag) : R2 := fun x y H Q => (∃ i j, x = .int i ∧ y = .int j ∧ Q (.int (i + j)) H) ∨ (∃ i j, x = .str i ∧ y = .str j ∧ i.length + j.length ≤ sizeLine ∧ Q (.str (i ++ j)) H) ∨ rCat x y H Q ∨ rCatA K x y H Q
theorem op_addU {K : PySem.W.Frag} (hK : X.K = K := by rfl) : OpR X (binaryOp .Add) (uAdd K) := hK ▸ OpR.or op_add (OpR.or op_add_str (OpR.or op_cat op_catA))
def uMul (K : PySem.W.Frag) : R2 := fun x y H Q => (rI CMul fun i j => .int (i * j)) x y H Q ∨ rRep x y H Q ∨ rRepT K x y H Q
theorem op_mulU {K : PySem.W.Frag} (hK : X.K = K := by rfl) : OpR X (binaryOp .Mult) (uMul K) := hK ▸ OpR.or op_mul (OpR.or op_rep op_repT)
def uEq (K : PySem.W.Frag) : R2 := fun x y H Q => rEq x y H Q ∨ rEqD K x y H Q
def uNe (K : PySem.W.Frag) : R2 := fun x y H Q => rNe x y H Q ∨ rNeD K x y H Q
theorem op_eqU {K : PySem.W.Frag} {k : Nat} (hr : Room k X.A) (hK : X.K = K := by rfl) : OpR X (compareOp .Eq) (uEq K) := hK ▸ OpR.or op_eq (op_eqD hr.units)
theorem op_neU {K : PySem.W.Frag} {k : Nat} (hr : Room k X.A) (hK : X.K = K := by rfl) : OpR X (compareOp .NotEq) (uNe K) := hK ▸ OpR.or op_ne (op_neD hr.units)
def uIs : R2 := fun x y H Q => (y = .non ∧ Q (.bl (decide (x = .non))) H) ∨ rIsB x y H Q
def uIsNot : R2 := fun x y H Q => (y = .non ∧ Q (.bl (!decide (x = .non))) H) ∨ rNotB x y H Q
theorem op_isU : OpR X (compareOp .Is) uIs := OpR.or op_isN op_isBl
theorem op_isNotU : OpR X (compareOp .IsNot) uIsNot := OpR.or op_notN op_notBl
end
section
variable {X : Cx}
theorem pe_powc {i j z : Int} {k1 k2 : Nat} {p1 p2 pos : Pos} (h : CPow i j) (e : i ^ j.toNat = z) : PE X (.BinOp (.Constant (.int i) k1 p1) .Pow (.Constant (.int j) k2 p2) pos) (tC (.int z)) := by
  refine ⟨fun pins s σ H Q I q => (pe_op op_pow pe_int pe_int).run pins s σ H Q I ⟨i, j, rfl, rfl, h, ?_⟩⟩
  show Q (.int (i ^ j.toNat)) H
  rw [e]
  exact q
end
/-! ### a def's body, its slots written out -/
section
variable {P : Program} {w : World} {K : PySem.W.Frag} {mg : Str → Option Value} {base : Heap}
theorem okS {x qual : Str} {st : Stmt} {f : Addr} {fd : FuncData} {N ps : List Str} {k : Nat} {sp : Sp} (F : Fun K x qual st f fd) (S : FnScope N ps (defScope st)) (len : ∀ vs H Q E, sp vs H Q E → vs.length = ps.length)
    (hbody : ∀ (cdv : Value) (A : Around) (outer : List Env) (s : Shared) (H : Hp) (vs : List V) (Q : VK) (E : XK), Room k (A.deeper (envOfC qual (defScope st) s.heap.objs.size f cdv)) → sp vs H Q E →
      ∃ t σ, PSs (cxOf CX0 P w K mg base N qual (defScope st) f cdv A outer s H E).nox (defBody st) t ∧ L2.start N vs = σ ∧ t { nx := fun _ H' => Q .non H', rt := Q } σ H) : FnOk P w K mg base CX0 (k + 1) f fd ps sp := by
  refine F.ok S len fun cdv A outer s H vs Q E hr h => ?_
  obtain ⟨t, σ, h1, rfl, h2⟩ := hbody cdv A outer s H vs Q E hr h
  exact ⟨t, h1, h2⟩
end
end Fw
namespace Fw
open PySem PySem.Spec PyProof.Rows L2

/-! ### heaps: what is seen without some addresses -/
def del (H : Hp) (M : List Addr) : Hp := fun a => if a ∈ M then none else H a
theorem del_in {H : Hp} {M : List Addr} {a : Addr} (h : a ∈ M) : del H M a = none := by unfold del; rw [if_pos h]
theorem del_out {H : Hp} {M : List Addr} {a : Addr} (h : a ∉ M) : del H M a = H a := by unfold del; rw [if_neg h]
theorem del_some {H : Hp} {M : List Addr} {a : Addr} {o : HO} (h : del H M a = some o) : a ∉ M ∧ H a = some o := by
  unfold del at h
  split at h
  · cases h
  · rename_i q; exact ⟨q, h⟩
def Ext (H H' : Hp) : Prop := ∀ a o, H a = some o → H' a = some o
def Ex (M : List Addr) (H H' : Hp) : Prop := ∀ a o, a ∉ M → H a = some o → H' a = some o
theorem Ex.refl {M : List Addr} {H : Hp} : Ex M H H := fun _ _ _ h => h
theorem Ex.trans {M : List Addr} {H H1 H2 : Hp} (a : Ex M H H1) (b : Ex M H1 H2) : Ex M H H2 := fun c o n h => b c o n (a c o n h)
theorem Ex.sub {M M' : List Addr} {H H1 : Hp} (a : Ex M H H1) (s : ∀ x ∈ M, x ∈ M') : Ex M' H H1 := fun c o n h => a c o (fun z => n (s c z)) h
theorem Ex.new {M : List Addr} {H : Hp} {p : Addr} {o : HO} (h : H p = none) : Ex M H (upd H p o) := fun a u _ e => by rw [upd_ne (ne_of_none e h)]; exact e
theorem Ex.upd {M : List Addr} {H : Hp} {p : Addr} {o : HO} (h : p ∈ M) : Ex M H (upd H p o) := fun a u n e => by
  rw [upd_ne (fun z => n (by rw [z]; exact h))]; exact e
theorem Ex.ext {H H' : Hp} (h : Ex [] H H') : Ext H H' := fun a o e => h a o (fun z => nomatch z) e
theorem Ext.sqL {K : PySem.W.Frag} {H H' : Hp} {a : Addr} {xs : List V} (e : Ext H H') (h : SqL K H a xs) : SqL K H' a xs := by
  rcases h with (h | ⟨o, h⟩) | h
  · exact .inl (.inl (e _ _ h))
  · exact .inl (.inr ⟨o, e _ _ h⟩)
  · exact .inr h
theorem Ext.sqT {K : PySem.W.Frag} {H H' : Hp} {a : Addr} {xs : List V} (e : Ext H H') (h : SqT K H a xs) : SqT K H' a xs := by
  rcases h with (h | ⟨o, h⟩) | h
  · exact .inl (.inl (e _ _ h))
  · exact .inl (.inr ⟨o, e _ _ h⟩)
  · exact .inr h
/-! ### data as a whole: lists are tracked, tuples tracked or written -/
mutual
inductive Dd (K : PySem.W.Frag) (H : Hp) : V → PyData → Prop
  | non : Dd K H .non .none
  | bl (b : Bool) : Dd K H (.bl b) (.bool b)
  | int (i : Int) : Dd K H (.int i) (.int i)
  | str (x : Str) : Dd K H (.str x) (.str x)
  | lst {a : Addr} {xs : List V} {ds : List PyData} : H a = some (.lst xs) → DdAll K H xs ds → Dd K H (.ref a) (.list ds)
  | tup {a : Addr} {xs : List V} {ds : List PyData} : SqT K H a xs → DdAll K H xs ds → Dd K H (.ref a) (.tuple ds)
inductive DdAll (K : PySem.W.Frag) (H : Hp) : List V → List PyData → Prop
  | nil : DdAll K H [] []
  | cons {v : V} {vs : List V} {d : PyData} {ds : List PyData} : Dd K H v d → DdAll K H vs ds → DdAll K H (v :: vs) (d :: ds)
end
mutual
theorem Dd.ext {K : PySem.W.Frag} {H H' : Hp} (e : Ext H H') : ∀ {d : PyData} {v : V}, Dd K H v d → Dd K H' v d
  | _, _, .non => .non
  | _, _, .bl b => .bl b
  | _, _, .int i => .int i
  | _, _, .str x => .str x
  | _, _, .lst q r => .lst (e _ _ q) (DdAll.ext e r)
  | _, _, .tup q r => .tup (e.sqT q) (DdAll.ext e r)
theorem DdAll.ext {K : PySem.W.Frag} {H H' : Hp} (e : Ext H H') : ∀ {ds : List PyData} {vs : List V}, DdAll K H vs ds → DdAll K H' vs ds
  | _, _, .nil => .nil
  | _, _, .cons a b => .cons (Dd.ext e a) (DdAll.ext e b)
end
mutual
theorem Dd.dp {K : PySem.W.Frag} {H : Hp} : ∀ {d : PyData} {v : V}, Dd K H v d → Dp K H v d
  | _, _, .non => .non
  | _, _, .bl b => .bl b
  | _, _, .int i => .int i
  | _, _, .str x => .str x
  | _, _, .lst q r => .lst (SqL.of q) (DdAll.dp r)
  | _, _, .tup q r => .tup q (DdAll.dp r)
theorem DdAll.dp {K : PySem.W.Frag} {H : Hp} : ∀ {ds : List PyData} {vs : List V}, DdAll K H vs ds → DpAll K H vs ds
  | _, _, .nil => .nil
  | _, _, .cons a b => .cons (Dd.dp a) (DdAll.dp b)
end
theorem DdAll.length {K : PySem.W.Frag} {H : Hp} : ∀ {vs : List V} {ds : List PyData}, DdAll K H vs ds → vs.length = ds.length
  | _, _, .nil => rfl
  | _, _, .cons _ b => congrArg Nat.succ (DdAll.length b)
theorem DdAll.get {K : PySem.W.Frag} {H : Hp} : ∀ {vs : List V} {ds : List PyData} {i : Nat} {d : PyData}, DdAll K H vs ds → ds[i]? = some d → ∃ v, vs[i]? = some v ∧ Dd K H v d
  | _, _, _, _, .nil, e => by simp at e
  | _, _, 0, _, .cons a _, e => by simp at e; subst e; exact ⟨_, rfl, a⟩
  | _, _, i + 1, _, .cons _ b, e => by
    obtain ⟨v, h1, h2⟩ := DdAll.get (i := i) b (by simpa using e)
    exact ⟨v, by simpa using h1, h2⟩
theorem DdAll.append {K : PySem.W.Frag} {H : Hp} : ∀ {vs : List V} {ds : List PyData} {ws : List V} {es : List PyData}, DdAll K H vs ds → DdAll K H ws es → DdAll K H (vs ++ ws) (ds ++ es)
  | _, _, _, _, .nil, q => q
  | _, _, _, _, .cons a b, q => .cons a (DdAll.append b q)
theorem DdAll.drop {K : PySem.W.Frag} {H : Hp} : ∀ (n : Nat) {vs : List V} {ds : List PyData}, DdAll K H vs ds → DdAll K H (vs.drop n) (ds.drop n)
  | 0, _, _, q => q
  | _ + 1, _, _, .nil => .nil
  | n + 1, _, _, .cons _ b => DdAll.drop n b
theorem DdAll.take {K : PySem.W.Frag} {H : Hp} : ∀ (n : Nat) {vs : List V} {ds : List PyData}, DdAll K H vs ds → DdAll K H (vs.take n) (ds.take n)
  | 0, _, _, _ => .nil
  | _ + 1, _, _, .nil => .nil
  | n + 1, _, _, .cons a b => .cons a (DdAll.take n b)
theorem DdAll.ints {K : PySem.W.Frag} {H : Hp} : ∀ (ns : List Int), DdAll K H (ns.map V.int) (ns.map PyData.int)
  | [] => .nil
  | i :: r => .cons (.int i) (DdAll.ints r)

abbrev Rp (K : PySem.W.Frag) (M : List Addr) (H : Hp) (v : V) (d : PyData) : Prop := Dd K (del H M) v d
abbrev RpAll (K : PySem.W.Frag) (M : List Addr) (H : Hp) (v : List V) (d : List PyData) : Prop := DdAll K (del H M) v d
theorem del_ext {M M' Mc : List Addr} {H H' : Hp} (e : Ex Mc H H') (h1 : ∀ x ∈ Mc, x ∈ M) (h2 : ∀ x ∈ M', x ∉ M → H x = none) : Ext (del H M) (del H' M') := fun a o h => by
  obtain ⟨n, q⟩ := del_some h
  have n' : a ∉ M' := fun z => by have := h2 a z n; rw [q] at this; cases this
  rw [del_out n']
  exact e a o (fun z => n (h1 a z)) q
theorem del_sub {M M' : List Addr} {H : Hp} (h : ∀ x ∈ M', x ∈ M) : Ext (del H M) (del H M') := fun a o q => by
  obtain ⟨n, q⟩ := del_some q
  rw [del_out (fun z => n (h a z))]
  exact q
theorem del_all {M : List Addr} {H : Hp} : Ext (del H M) H := fun a o q => (del_some q).2
theorem Rp.dd {K : PySem.W.Frag} {M : List Addr} {H : Hp} {v : V} {d : PyData} (h : Rp K M H v d) : Dd K H v d := Dd.ext del_all h
theorem Rp.dp {K : PySem.W.Frag} {M : List Addr} {H : Hp} {v : V} {d : PyData} (h : Rp K M H v d) : Dp K H v d := (Dd.ext del_all h).dp
theorem Rp.less {K : PySem.W.Frag} {M M' : List Addr} {H : Hp} {v : V} {d : PyData} (h : Rp K M H v d) (s : ∀ x ∈ M', x ∈ M) : Rp K M' H v d := Dd.ext (del_sub s) h
theorem Rp.call {K : PySem.W.Frag} {M : List Addr} {H H' : Hp} {v : V} {d : PyData} {Mc : List Addr} (h : Rp K M H v d) (e : Ex Mc H H') (h1 : ∀ x ∈ Mc, x ∈ M) : Rp K M H' v d := Dd.ext (del_ext e h1 fun _ a b => absurd a b) h

theorem Rp.unL {K : PySem.W.Frag} {M : List Addr} {H : Hp} {a : Addr} {ds : List PyData} (h : Rp K M H (.ref a) (.list ds)) : ∃ xs, H a = some (.lst xs) ∧ RpAll K M H xs ds := by
  cases h with
  | lst q r => exact ⟨_, del_all _ _ q, r⟩
theorem Rp.unT {K : PySem.W.Frag} {M : List Addr} {H : Hp} {a : Addr} {ds : List PyData} (h : Rp K M H (.ref a) (.tuple ds)) : ∃ xs, SqT K H a xs ∧ RpAll K M H xs ds := by
  cases h with
  | tup q r => exact ⟨_, del_all.sqT q, r⟩
theorem DdAll.ints_inv {K : PySem.W.Frag} {H : Hp} : ∀ {ns : List Int} {xs : List V}, DdAll K H xs (ns.map PyData.int) → xs = ns.map V.int
  | [], _, .nil => rfl
  | _ :: _, _, .cons a b => by
    cases a
    rw [DdAll.ints_inv b]; rfl
theorem DdAll.strs_inv {K : PySem.W.Frag} {H : Hp} : ∀ {ns : List Str} {xs : List V}, DdAll K H xs (ns.map PyData.str) → xs = ns.map V.str
  | [], _, .nil => rfl
  | _ :: _, _, .cons a b => by
    cases a
    rw [DdAll.strs_inv b]; rfl
theorem DdAll.strs {K : PySem.W.Frag} {H : Hp} : ∀ (ns : List Str), DdAll K H (ns.map V.str) (ns.map PyData.str)
  | [] => .nil
  | i :: r => .cons (.str i) (DdAll.strs r)
theorem Rp.ints {K : PySem.W.Frag} {M : List Addr} {H : Hp} {a : Addr} {ns : List Int} (h : Rp K M H (.ref a) (.list (ns.map PyData.int))) : H a = some (.lst (ns.map V.int)) := by
  obtain ⟨xs, q, r⟩ := Rp.unL h
  rw [DdAll.ints_inv r] at q
  exact q
theorem Rp.strs {K : PySem.W.Frag} {M : List Addr} {H : Hp} {a : Addr} {ns : List Str} (h : Rp K M H (.ref a) (.list (ns.map PyData.str))) : H a = some (.lst (ns.map V.str)) := by
  obtain ⟨xs, q, r⟩ := Rp.unL h
  rw [DdAll.strs_inv r] at q
  exact q
theorem Rp.ints_of {K : PySem.W.Frag} {M : List Addr} {H : Hp} {a : Addr} {ns : List Int} (h : del H M a = some (.lst (ns.map V.int))) : Rp K M H (.ref a) (.list (ns.map PyData.int)) := .lst h (DdAll.ints ns)
theorem del_nil {H : Hp} : del H [] = H := by funext a; exact del_out (fun z => nomatch z)
abbrev Al (M : List Addr) (H : Hp) : Prop := ∀ a ∈ M, H a ≠ none
/-! ### facts that stand: data, a thing's content, a tuple's -/
inductive Fa where
  | rp (v : V) (d : PyData)
  | kn (p : Addr) (o : HO)
  | tp (p : Addr) (xs : List V)
def Fa.ok (K : PySem.W.Frag) (H : Hp) : Fa → Prop
  | .rp v d => Dd K H v d
  | .kn p o => H p = some o
  | .tp p xs => SqT K H p xs
theorem Fa.ext {K : PySem.W.Frag} {H H' : Hp} (e : Ext H H') : ∀ {r : Fa}, r.ok K H → r.ok K H'
  | .rp _ _, h => Dd.ext e h
  | .kn _ _, h => e _ _ h
  | .tp _ _, h => e.sqT h
/-! ### the state: owned cells L, facts R -/
abbrev av (L : List (Addr × HO)) (M0 : List Addr) : List Addr := L.map (·.1) ++ M0
structure W (K : PySem.W.Frag) (H0 : Hp) (Ms M0 : List Addr) (H : Hp) (L : List (Addr × HO)) (R : List Fa) : Prop where
  ex : Ex Ms H0 H
  al : ∀ a ∈ M0, H a ≠ none
  nd : (L.map (·.1)).Nodup
  cell : ∀ p ∈ L, H p.1 = some p.2
  own : ∀ p ∈ L, p.1 ∈ Ms ∨ (H0 p.1 = none ∧ p.1 ∉ M0)
  rep : ∀ r ∈ R, r.ok K (del H (av L M0))
section
variable {K : PySem.W.Frag} {H0 H H' : Hp} {Ms M0 : List Addr} {L : List (Addr × HO)} {R : List Fa} {p b : Addr} {o o' : HO} {i : Nat} {v : V} {d : PyData}
theorem W.at (w : W K H0 Ms M0 H L R) (i : Nat) (h : L[i]? = some (p, o)) : H p = some o := w.cell _ (List.mem_of_getElem? h)
theorem W.rp (w : W K H0 Ms M0 H L R) (i : Nat) (h : R[i]? = some (.rp v d)) : Rp K (av L M0) H v d := w.rep _ (List.mem_of_getElem? h)
theorem W.kn (w : W K H0 Ms M0 H L R) (i : Nat) (h : R[i]? = some (.kn p o)) : H p = some o := del_all _ _ (w.rep _ (List.mem_of_getElem? h))
theorem W.tp {xs : List V} (w : W K H0 Ms M0 H L R) (i : Nat) (h : R[i]? = some (.tp p xs)) : SqT K H p xs := del_all.sqT (w.rep _ (List.mem_of_getElem? h))
theorem W.alloc' (w : W K H0 Ms M0 H L R) : ∀ a ∈ av L M0, H a ≠ none := fun a ha => by
  rcases List.mem_append.mp ha with h | h
  · obtain ⟨q, hq, e⟩ := List.mem_map.mp h
    rw [← e, w.cell q hq]; exact fun z => nomatch z
  · exact w.al a h
theorem W.new (w : W K H0 Ms M0 H L R) (h : H p = none) (o : HO) : W K H0 Ms M0 (upd H p o) ((p, o) :: L) R where
  ex := w.ex.trans (Ex.new h)
  al := fun a ha => by
    have := w.al a ha
    cases q : H a with
    | none => exact absurd q this
    | some u => rw [upd_ne (ne_of_none q h), q]; exact fun z => nomatch z
  nd := by
    refine List.nodup_cons.mpr ⟨fun z => ?_, w.nd⟩
    obtain ⟨q, hq, e⟩ := List.mem_map.mp z
    have := w.cell q hq
    rw [e, h] at this; cases this
  cell := fun q hq => by
    rcases List.mem_cons.mp hq with rfl | hq
    · exact upd_same
    · have := w.cell q hq
      rw [upd_ne (ne_of_none this h)]; exact this
  own := fun q hq => by
    rcases List.mem_cons.mp hq with rfl | hq
    · by_cases hm : p ∈ Ms
      · exact .inl hm
      · refine .inr ⟨?_, fun z => w.al p z h⟩
        cases e : H0 p with
        | none => rfl
        | some u =>
          have := w.ex _ _ hm e
          rw [h] at this; cases this
    · exact w.own q hq
  rep := fun r hr => Fa.ext (del_ext (Mc := []) (Ex.new h) (fun x z => nomatch z) fun x hx hn => by
    rcases List.mem_cons.mp hx with rfl | hx
    · exact h
    · exact absurd hx hn) (w.rep r hr)
theorem W.set (w : W K H0 Ms M0 H L R) (i : Nat) (hi : L[i]? = some (p, o)) (o' : HO) : W K H0 Ms M0 (upd H p o') (L.set i (p, o')) R := by
  have hm : (L.set i (p, o')).map (·.1) = L.map (·.1) := by
    rw [List.map_set]
    apply List.ext_getElem?
    intro n
    rw [List.getElem?_set]
    split
    · rename_i e; subst e
      rw [List.getElem?_map, hi]
      split
      · rfl
      · rename_i h; exact absurd (by rw [List.length_map]; exact (List.getElem?_eq_some_iff.mp hi).1) h
    · rfl
  have hpL : (p, o) ∈ L := List.mem_of_getElem? hi
  have hpa : p ∈ L.map (·.1) := List.mem_map.mpr ⟨_, hpL, rfl⟩
  have uniq : ∀ q ∈ L.set i (p, o'), q = (p, o') ∨ (q ∈ L ∧ q.1 ≠ p) := fun q hq => by
    obtain ⟨n, hn⟩ := List.mem_iff_getElem?.mp hq
    rw [List.getElem?_set] at hn
    split at hn
    · split at hn
      · left; exact (Option.some.inj hn).symm
      · cases hn
    · rename_i hne
      right
      refine ⟨List.mem_of_getElem? hn, fun e => hne ?_⟩
      have h1 : (L.map (·.1))[i]? = some p := by rw [List.getElem?_map, hi]; rfl
      have h2 : (L.map (·.1))[n]? = some p := by rw [List.getElem?_map, hn]; exact congrArg some e
      exact nd_ix w.nd h1 h2
  refine ⟨fun a u n e => ?_, fun a ha => ?_, by rw [hm]; exact w.nd, fun q hq => ?_, fun q hq => ?_, fun r hr => ?_⟩
  · by_cases ea : a = p
    · subst ea
      rcases w.own _ hpL with h | h
      · exact absurd h n
      · have h := h.1; rw [e] at h; cases h
    · rw [upd_ne ea]; exact w.ex a u n e
  · by_cases ea : a = p
    · subst ea; rw [upd_same]; exact fun z => nomatch z
    · rw [upd_ne ea]; exact w.al a ha
  · rcases uniq q hq with rfl | ⟨h1, h2⟩
    · exact upd_same
    · rw [upd_ne h2]; exact w.cell q h1
  · rcases uniq q hq with rfl | ⟨h1, _⟩
    · exact w.own (p, o) hpL
    · exact w.own q h1
  · show Fa.ok K (del _ ((L.set i (p, o')).map (·.1) ++ M0)) _
    rw [hm]
    exact Fa.ext (del_ext (Mc := [p]) (Ex.upd (List.mem_singleton.mpr rfl)) (fun x z => by rw [List.mem_singleton.mp z]; exact List.mem_append_left _ hpa) fun x a b => absurd a b) (w.rep r hr)
/-- a call that changes one cell -/
theorem W.call (w : W K H0 Ms M0 H L R) (i : Nat) (hi : L[i]? = some (p, o)) (e : Ex [p] H H') (h' : H' p = some o') : W K H0 Ms M0 H' (L.set i (p, o')) R := by
  have hm : (L.set i (p, o')).map (·.1) = L.map (·.1) := by
    rw [List.map_set]
    apply List.ext_getElem?
    intro n
    rw [List.getElem?_set]
    split
    · rename_i e; subst e
      rw [List.getElem?_map, hi]
      split
      · rfl
      · rename_i h; exact absurd (by rw [List.length_map]; exact (List.getElem?_eq_some_iff.mp hi).1) h
    · rfl
  have hpL : (p, o) ∈ L := List.mem_of_getElem? hi
  have hpa : p ∈ L.map (·.1) := List.mem_map.mpr ⟨_, hpL, rfl⟩
  have kp : ∀ a u, a ≠ p → H a = some u → H' a = some u := fun a u n q => e a u (fun z => n (List.mem_singleton.mp z)) q
  have uniq : ∀ q ∈ L.set i (p, o'), q = (p, o') ∨ (q ∈ L ∧ q.1 ≠ p) := fun q hq => by
    obtain ⟨n, hn⟩ := List.mem_iff_getElem?.mp hq
    rw [List.getElem?_set] at hn
    split at hn
    · split at hn
      · left; exact (Option.some.inj hn).symm
      · cases hn
    · rename_i hne
      right
      refine ⟨List.mem_of_getElem? hn, fun e => hne ?_⟩
      have h1 : (L.map (·.1))[i]? = some p := by rw [List.getElem?_map, hi]; rfl
      have h2 : (L.map (·.1))[n]? = some p := by rw [List.getElem?_map, hn]; exact congrArg some e
      exact nd_ix w.nd h1 h2
  refine ⟨fun a u n e0 => ?_, fun a ha => ?_, by rw [hm]; exact w.nd, fun q hq => ?_, fun q hq => ?_, fun r hr => ?_⟩
  · by_cases ea : a = p
    · subst ea
      rcases w.own _ hpL with h | h
      · exact absurd h n
      · have h := h.1; rw [show H0 a = some u from e0] at h; cases h
    · exact kp a u ea (w.ex a u n e0)
  · by_cases ea : a = p
    · subst ea; rw [h']; exact fun z => nomatch z
    · have := w.al a ha
      cases q : H a with
      | none => exact absurd q this
      | some u => rw [kp a u ea q]; exact fun z => nomatch z
  · rcases uniq q hq with rfl | ⟨h1, h2⟩
    · exact h'
    · exact kp _ _ h2 (w.cell q h1)
  · rcases uniq q hq with rfl | ⟨h1, _⟩
    · exact w.own (p, o) hpL
    · exact w.own q h1
  · show Fa.ok K (del _ ((L.set i (p, o')).map (·.1) ++ M0)) _
    rw [hm]
    exact Fa.ext (del_ext (Mc := [p]) e (fun x z => by rw [List.mem_singleton.mp z]; exact List.mem_append_left _ hpa) fun x a b => absurd a b) (w.rep r hr)
/-- a call that changes nothing -/
theorem W.pure (w : W K H0 Ms M0 H L R) (e : Ex [] H H') : W K H0 Ms M0 H' L R where
  ex := w.ex.trans (e.sub fun x z => nomatch z)
  al := fun a ha => by
    have := w.al a ha
    cases q : H a with
    | none => exact absurd q this
    | some u => rw [e.ext a u q]; exact fun z => nomatch z
  nd := w.nd
  cell := fun q hq => e.ext _ _ (w.cell q hq)
  own := w.own
  rep := fun r hr => Fa.ext (del_ext e (fun x z => nomatch z) fun x a b => absurd a b) (w.rep r hr)
theorem W.addF {r : Fa} (w : W K H0 Ms M0 H L R) (h : r.ok K (del H (av L M0))) : W K H0 Ms M0 H L (r :: R) :=
  ⟨w.ex, w.al, w.nd, w.cell, w.own, fun r hr => by
    rcases List.mem_cons.mp hr with rfl | hr
    · exact h
    · exact w.rep r hr⟩
theorem W.add (w : W K H0 Ms M0 H L R) (h : Rp K (av L M0) H v d) : W K H0 Ms M0 H L (.rp v d :: R) := w.addF h
theorem W.newTup (w : W K H0 Ms M0 H L R) (h : H p = none) {xs : List V} {ds : List PyData} (hd : RpAll K (av L M0) H xs ds) : W K H0 Ms M0 (upd H p (.tup xs)) L (.rp (.ref p) (.tuple ds) :: R) := by
  have w1 := w.pure (Ex.new (o := .tup xs) h)
  refine w1.add (Dd.tup ?_ (DdAll.ext (del_ext (Mc := []) (Ex.new h) (fun x z => nomatch z) fun x a b => absurd a b) hd))
  refine .inl (.inl ?_)
  rw [del_out (fun z => w.alloc' p z h)]
  exact upd_same
theorem W.newLst (w : W K H0 Ms M0 H L R) (h : H p = none) {xs : List V} {ds : List PyData} (hd : RpAll K (av L M0) H xs ds) : W K H0 Ms M0 (upd H p (.lst xs)) L (.rp (.ref p) (.list ds) :: R) := by
  have w1 := w.pure (Ex.new (o := .lst xs) h)
  refine w1.add (Dd.lst ?_ (DdAll.ext (del_ext (Mc := []) (Ex.new h) (fun x z => nomatch z) fun x a b => absurd a b) hd))
  rw [del_out (fun z => w.alloc' p z h)]
  exact upd_same
/-- the first cell, a list of data, becomes data -/
theorem W.freeze {xs : List V} {ds : List PyData} (w : W K H0 Ms M0 H ((p, .lst xs) :: L) R) (hp : p ∉ M0) (hd : RpAll K (av ((p, .lst xs) :: L) M0) H xs ds) : W K H0 Ms M0 H L (.rp (.ref p) (.list ds) :: R) := by
  have nd := List.nodup_cons.mp w.nd
  have s : ∀ x ∈ av L M0, x ∈ av ((p, HO.lst xs) :: L) M0 := fun x hx => List.mem_cons_of_mem _ hx
  refine ⟨w.ex, w.al, nd.2, fun q hq => w.cell q (List.mem_cons_of_mem _ hq), fun q hq => w.own q (List.mem_cons_of_mem _ hq), fun r hr => ?_⟩
  rcases List.mem_cons.mp hr with rfl | hr
  · refine Dd.lst ?_ (DdAll.ext (del_sub s) hd)
    rw [del_out (fun z => (List.mem_append.mp z).elim nd.1 hp)]
    exact w.cell _ (List.mem_cons_self ..)
  · exact Fa.ext (del_sub s) (w.rep r hr)
theorem W.ne (w : W K H0 Ms M0 H L R) {i j : Nat} {p q : Addr} {o u : HO} (hi : L[i]? = some (p, o)) (hj : L[j]? = some (q, u)) (h : i ≠ j) : p ≠ q := fun e => h (by
  have h1 : (L.map (·.1))[i]? = some p := by rw [List.getElem?_map, hi]; rfl
  have h2 : (L.map (·.1))[j]? = some p := by rw [List.getElem?_map, hj, e]; rfl
  exact nd_ix w.nd h1 h2)
theorem W.freeze0 {xs : List V} {ds : List PyData} (w : W K H0 [] M0 H ((p, .lst xs) :: L) R) (hd : RpAll K (av ((p, .lst xs) :: L) M0) H xs ds) : W K H0 [] M0 H L (.rp (.ref p) (.list ds) :: R) :=
  w.freeze ((w.own _ (List.mem_cons_self ..)).elim (fun z => nomatch z) fun z => z.2) hd
theorem W.freeze1 {xs : List V} {ds : List PyData} (w : W K H0 [b] M0 H ((p, .lst xs) :: L) R) (j : Nat) (hj : L[j]? = some (b, o)) (hd : RpAll K (av ((p, .lst xs) :: L) M0) H xs ds) : W K H0 [b] M0 H L (.rp (.ref p) (.list ds) :: R) :=
  w.freeze ((w.own _ (List.mem_cons_self ..)).elim (fun z => absurd (List.mem_singleton.mp z) (w.ne (i := 0) (j := j + 1) rfl hj (Nat.succ_ne_zero j).symm)) fun z => z.2) hd
theorem W.freezeT {xs : List V} {ds : List PyData} (w : W K H0 Ms M0 H ((p, .tup xs) :: L) R) (hp : p ∉ M0) (hd : RpAll K (av ((p, .tup xs) :: L) M0) H xs ds) : W K H0 Ms M0 H L (.rp (.ref p) (.tuple ds) :: R) := by
  have nd := List.nodup_cons.mp w.nd
  have s : ∀ x ∈ av L M0, x ∈ av ((p, HO.tup xs) :: L) M0 := fun x hx => List.mem_cons_of_mem _ hx
  refine ⟨w.ex, w.al, nd.2, fun q hq => w.cell q (List.mem_cons_of_mem _ hq), fun q hq => w.own q (List.mem_cons_of_mem _ hq), fun r hr => ?_⟩
  rcases List.mem_cons.mp hr with rfl | hr
  · refine Dd.tup (SqT.of ?_) (DdAll.ext (del_sub s) hd)
    rw [del_out (fun z => (List.mem_append.mp z).elim nd.1 hp)]
    exact w.cell _ (List.mem_cons_self ..)
  · exact Fa.ext (del_sub s) (w.rep r hr)
theorem W.freezeT0 {xs : List V} {ds : List PyData} (w : W K H0 [] M0 H ((p, .tup xs) :: L) R) (hd : RpAll K (av ((p, .tup xs) :: L) M0) H xs ds) : W K H0 [] M0 H L (.rp (.ref p) (.tuple ds) :: R) :=
  w.freezeT ((w.own _ (List.mem_cons_self ..)).elim (fun z => nomatch z) fun z => z.2) hd
theorem W.freezeT1 {xs : List V} {ds : List PyData} (w : W K H0 [b] M0 H ((p, .tup xs) :: L) R) (j : Nat) (hj : L[j]? = some (b, o)) (hd : RpAll K (av ((p, .tup xs) :: L) M0) H xs ds) : W K H0 [b] M0 H L (.rp (.ref p) (.tuple ds) :: R) :=
  w.freezeT ((w.own _ (List.mem_cons_self ..)).elim (fun z => absurd (List.mem_singleton.mp z) (w.ne (i := 0) (j := j + 1) rfl hj (Nat.succ_ne_zero j).symm)) fun z => z.2) hd
/-- forget cells, data -/
theorem W.drop1 {c : Addr × HO} (w : W K H0 Ms M0 H (c :: L) R) : W K H0 Ms M0 H L R :=
  ⟨w.ex, w.al, (List.nodup_cons.mp w.nd).2, fun q hq => w.cell q (List.mem_cons_of_mem _ hq), fun q hq => w.own q (List.mem_cons_of_mem _ hq), fun r hr => Fa.ext (del_sub fun x hx => List.mem_cons_of_mem _ hx) (w.rep r hr)⟩
theorem W.sub {R' : List Fa} (w : W K H0 Ms M0 H L R) (h : ∀ r ∈ R', r ∈ R) : W K H0 Ms M0 H L R' := ⟨w.ex, w.al, w.nd, w.cell, w.own, fun r hr => w.rep r (h r hr)⟩
/-- a list of data: its items, and that it stays so -/
theorem W.open {ds : List PyData} (w : W K H0 Ms M0 H L R) (h : Rp K (av L M0) H (.ref p) (.list ds)) : ∃ xs, RpAll K (av L M0) H xs ds ∧ W K H0 Ms M0 H L (.kn p (.lst xs) :: R) := by
  cases h with
  | lst q r => exact ⟨_, r, w.addF q⟩
theorem W.openT {ds : List PyData} (w : W K H0 Ms M0 H L R) (h : Rp K (av L M0) H (.ref p) (.tuple ds)) : ∃ xs, RpAll K (av L M0) H xs ds ∧ W K H0 Ms M0 H L (.tp p xs :: R) := by
  cases h with
  | tup q r => exact ⟨_, r, w.addF (r := .tp p _) q⟩
/-- a cell that is changed no more: its content is a fact -/
theorem W.keep (w : W K H0 Ms M0 H ((p, o) :: L) R) (hp : p ∉ M0) : W K H0 Ms M0 H L (.kn p o :: R) := by
  have nd := List.nodup_cons.mp w.nd
  have s : ∀ x ∈ av L M0, x ∈ av ((p, o) :: L) M0 := fun x hx => List.mem_cons_of_mem _ hx
  refine ⟨w.ex, w.al, nd.2, fun q hq => w.cell q (List.mem_cons_of_mem _ hq), fun q hq => w.own q (List.mem_cons_of_mem _ hq), fun r hr => ?_⟩
  rcases List.mem_cons.mp hr with rfl | hr
  · show del H (av L M0) p = some o
    rw [del_out (fun z => (List.mem_append.mp z).elim nd.1 hp)]
    exact w.cell _ (List.mem_cons_self ..)
  · exact Fa.ext (del_sub s) (w.rep r hr)
theorem W.keep0 (w : W K H0 [] M0 H ((p, o) :: L) R) : W K H0 [] M0 H L (.kn p o :: R) := w.keep ((w.own _ (List.mem_cons_self ..)).elim (fun z => nomatch z) fun z => z.2)
theorem W.keep1 (w : W K H0 [b] M0 H ((p, o) :: L) R) (j : Nat) (hj : L[j]? = some (b, o')) : W K H0 [b] M0 H L (.kn p o :: R) :=
  w.keep ((w.own _ (List.mem_cons_self ..)).elim (fun z => absurd (List.mem_singleton.mp z) (w.ne (i := 0) (j := j + 1) rfl hj (Nat.succ_ne_zero j).symm)) fun z => z.2)
theorem W.fresh (w : W K H0 Ms M0 H L R) (h : H p = none) (hM : p ∉ Ms) : H0 p = none := by
  cases e : H0 p with
  | none => rfl
  | some u =>
    have := w.ex _ _ hM e
    rw [h] at this; cases this
theorem W.fresh0 (w : W K H0 [] M0 H L R) (i : Nat) (h : L[i]? = some (p, o)) : H0 p = none := (w.own _ (List.mem_of_getElem? h)).elim (fun z => nomatch z) fun z => z.1
theorem W.fresh1 (w : W K H0 [b] M0 H L R) (i j : Nat) (h : L[i]? = some (p, o)) (hj : L[j]? = some (b, o')) (hij : i ≠ j) : H0 p = none := (w.own _ (List.mem_of_getElem? h)).elim (fun z => absurd (List.mem_singleton.mp z) (w.ne h hj hij)) fun z => z.1
theorem W.sq0 {a : Addr} {xs : List V} (w : W K H0 [] M0 H L R) (h : SqL K H0 a xs) : SqL K H a xs := w.ex.ext.sqL h
/-- the start -/
theorem W.start1 (hb : H b = some o) (hM : ∀ a ∈ M0, H a ≠ none) (hR : ∀ r ∈ R, r.ok K (del H (b :: M0))) : W K H [b] M0 H [(b, o)] R :=
  ⟨Ex.refl, hM, by simp, fun p hp => by rw [List.mem_singleton.mp hp]; exact hb, fun p hp => .inl (by rw [List.mem_singleton.mp hp]; exact List.mem_singleton.mpr rfl), hR⟩
theorem W.start0 (hM : ∀ a ∈ M0, H a ≠ none) (hR : ∀ r ∈ R, r.ok K (del H M0)) : W K H [] M0 H [] R :=
  ⟨Ex.refl, hM, by simp, fun p hp => (nomatch hp), fun p hp => (nomatch hp), hR⟩
end
end Fw
namespace Fw
open PySem PySem.Spec PyProof.Rows L2

/-! ### further universal rules -/
section
variable {X : Cx}
theorem CallR.or {f : Value} {r r' : List V → Hp → VK → Prop} (h : CallR X f r) (h' : CallR X f r') : CallR X f (fun xs H Q => r xs H Q ∨ r' xs H Q) := by
  intro pins s σ H xs us Q I rx q
  rcases q with q | q
  · exact h pins s σ H xs us Q I rx q
  · exact h' pins s σ H xs us Q I rx q
theorem SlR.or {r r' : V → Option Int → Option Int → Hp → VK → Prop} (h : L2.SlR X r) (h' : L2.SlR X r') : L2.SlR X (fun x lo hi H Q => r x lo hi H Q ∨ r' x lo hi H Q) := by
  intro pins s σ H x v vl vu lo hi sl Q I rx hs pl pu q
  rcases q with q | q
  · exact h pins s σ H x v vl vu lo hi sl Q I rx hs pl pu q
  · exact h' pins s σ H x v vl vu lo hi sl Q I rx hs pl pu q
def uSl (K : PySem.W.Frag) : V → Option Int → Option Int → Hp → VK → Prop := fun x lo hi H Q => rSlL K x lo hi H Q ∨ rSlS x lo hi H Q ∨ rSlA K x lo hi H Q
theorem sl_U {K : PySem.W.Frag} (hK : X.K = K := by rfl) : L2.SlR X (uSl K) := hK ▸ SlR.or sl_list (SlR.or sl_str sl_tupA)
def uIx (K : PySem.W.Frag) : R2 := rIx K
theorem ix_U {K : PySem.W.Frag} (hK : X.K = K := by rfl) : IxR X (uIx K) := hK ▸ ix_seq
def uLen (K : PySem.W.Frag) : List V → Hp → VK → Prop := fun xs H Q => ∃ x n, xs = [x] ∧ LenV K x H n ∧ Q (.int n) H
theorem call_lenU {K : PySem.W.Frag} (hK : X.K = K := by rfl) : CallR X (.builtin "len") (uLen K) := hK ▸ call_len
def uAbs : List V → Hp → VK → Prop := fun xs H Q => ∃ i, xs = [.int i] ∧ Q (.int (if i < 0 then -i else i)) H
theorem call_absU : CallR X (.builtin "abs") uAbs := call_abs
def uInt : List V → Hp → VK → Prop := fun xs H Q => (∃ i, xs = [.int i] ∧ Q (.int i) H) ∨ ∃ k, xs = [.bl k] ∧ Q (.int (if k then 1 else 0)) H
theorem call_intU : CallR X (.type "int") uInt := call_int1
def uList (K : PySem.W.Frag) : List V → Hp → VK → Prop := fun xs H Q => ∃ p ys, xs = [.ref p] ∧ (SqL K H p ys ∨ SqT K H p ys) ∧ ∀ l, H l = none → Q (.ref l) (upd H l (.lst ys))
theorem call_listU {K : PySem.W.Frag} (hK : X.K = K := by rfl) : CallR X (.type "list") (uList K) := hK ▸ call_list_of
def uTuple (K : PySem.W.Frag) : List V → Hp → VK → Prop := fun xs H Q => ∃ p ys, xs = [.ref p] ∧ ((SqL K H p ys ∧ ∀ l, H l = none → Q (.ref l) (upd H l (.tup ys))) ∨ (SqT K H p ys ∧ Q (.ref p) H))
theorem call_tupleU {K : PySem.W.Frag} (hK : X.K = K := by rfl) : CallR X (.type "tuple") (uTuple K) := hK ▸ call_tuple_of
theorem call_sumU {K : PySem.W.Frag} (hc : X.calm = true) (hK : X.K = K := by rfl) : CallR X (.builtin "sum") (rSum K) := hK ▸ cr_sum hc
theorem call_allU {K : PySem.W.Frag} (hc : X.calm = true) (hK : X.K = K := by rfl) : CallR X (.builtin "all") (rAll K) := hK ▸ cr_all hc
theorem call_sortedU {K : PySem.W.Frag} (hK : X.K = K := by rfl) : CallR X (.builtin "sorted") (rSorted K) := hK ▸ cr_sorted
def uMin (K : PySem.W.Frag) : List V → Hp → VK → Prop := fun xs H Q => (∃ i j, xs = [.int i, .int j] ∧ Q (.int (if j < i then j else i)) H) ∨ rMin K xs H Q
def uMax (K : PySem.W.Frag) : List V → Hp → VK → Prop := fun xs H Q => (∃ i j, xs = [.int i, .int j] ∧ Q (.int (if j > i then j else i)) H) ∨ rMax K xs H Q
theorem call_minU {K : PySem.W.Frag} (hc : X.calm = true) (hK : X.K = K := by rfl) : CallR X (.builtin "min") (uMin K) := hK ▸ CallR.or (call_min2 hc) (cr_min hc)
theorem call_maxU {K : PySem.W.Frag} (hc : X.calm = true) (hK : X.K = K := by rfl) : CallR X (.builtin "max") (uMax K) := hK ▸ CallR.or (call_max2 hc) (cr_max hc)
end

section
variable {X : Cx} {tg : Expr}
theorem pi_L {K : PySem.W.Frag} {l : Expr} {tl : TE} (hl : PE X l tl) (hK : X.K = K := by rfl) : PI X tg l (iList K tl) := hK ▸ pi_list hl
theorem pi_T {K : PySem.W.Frag} {l : Expr} {tl : TE} (hl : PE X l tl) (hK : X.K = K := by rfl) : PI X tg l (iTup K tl) := hK ▸ pi_tup hl
theorem pi_En {K : PySem.W.Frag} {e : Expr} {ta : TA} {p pos tpos : Pos} {elts : List Expr} {kk : Nat} (hg : Gl X "enumerate") (hm : X.mg "enumerate" = none) (ha : PA X [e] ta) (hs : starEach [e] X.env = [(false, eval e X.env)] := by rfl) (hK : X.K = K := by rfl) :
    PI X (.Tuple elts kk tpos) (.Call (.Name "enumerate" p) [e] [] pos) (iEnum K ta) := hK ▸ pi_enum hg hm ha hs
theorem pg_T {K : PySem.W.Frag} {es : List Expr} {k : Nat} {t : TGs} {n : Nat} {pos : Pos} (hc : X.calm = true) (h : PGs X es t)
    (hn : (assignEach es X.env).length = n := by rfl) (hst : (assignEach es X.env).findIdx? (·.1) = none := by rfl) (hK : X.K = K := by rfl) : PG X (.Tuple es k pos) (gTup K n t) := hK ▸ pg_tup hc h hn hst
end
/-! ### steps -/
theorem szl {n : Nat} (h : Nat.ble n 100000 = true) : n ≤ sizeLine := Nat.le_trans (Nat.le_of_ble_eq_true h) (by decide)
theorem sz_of {n : Nat} (h : n ≤ 100000) : n ≤ sizeLine := Nat.le_trans h (by decide)
theorem sz_lt {n : Nat} (h : n < 100000) : n < sizeLine := Nat.lt_of_lt_of_le h (by decide)
section
variable {σ : L2.St} {H H' H0 : Hp} {i j : Nat} {v x y z : V} {ta tb te tv : TE} {tr t' : TA} {Q : VK} {QA : List V → Hp → Prop} {QB : Bool → Hp → Prop} {b : Bool} {K : PySem.W.Frag} {p q a : Addr} {c tc tu : TT} {D : Ends} {t1 t2 : TS} {xs ys vs : List V} {m n : Int} {r : R2} {A B : Prop}
theorem x_var (h : σ[i]? = some (some v)) (q : Q v H) : tVar i σ H Q := ⟨v, h, q⟩
theorem x_c (q : Q v H) : tC v σ H Q := q
theorem x_op (q : ta σ H fun x H1 => tb σ H1 fun y H2 => r x y H2 Q) : tOp r ta tb σ H Q := q
theorem x_un {r : V → Hp → VK → Prop} (q : ta σ H fun x H1 => r x H1 Q) : tUn r ta σ H Q := q
theorem x_cb {r : List V → Hp → VK → Prop} (q : t' σ H fun vs H1 => r vs H1 Q) : tCB r t' σ H Q := q
theorem x_call {sp : Sp} {dvs : List V} {E : XK} (q : t' σ H fun vs H1 => sp (vs ++ dvs) H1 Q E) : tCall sp dvs E t' σ H Q := q
theorem x_nil (q : QA [] H) : tNil σ H QA := q
theorem x_cons (q : ta σ H fun x H1 => tr σ H1 fun xs H2 => QA (x :: xs) H2) : tCons ta tr σ H QA := q
theorem x_sl {r : V → Option Int → Option Int → Hp → VK → Prop} {tl th : TO} (q : te σ H fun x H1 => tl σ H1 fun l H2 => th σ H2 fun u H3 => r x l u H3 Q) : tSl r te tl th σ H Q := q
theorem x_nopart {QO : Option Int → Hp → Prop} (q : QO none H) : tNoPart σ H QO := q
theorem x_part {QO : Option Int → Hp → Prop} (q : te σ H fun x H1 => ∃ i, x = .int i ∧ QO (some i) H1) : tPart te σ H QO := q
theorem x_isint {F : Int → Prop} (q : F n) : ∃ i, V.int n = .int i ∧ F i := ⟨n, rfl, q⟩
theorem x_isbl {F : Bool → Prop} (q : F b) : ∃ k, V.bl b = .bl k ∧ F k := ⟨b, rfl, q⟩
theorem x_test (q : te σ H fun x H' => ∃ k, x = .bl k ∧ QB k H') : tTest te σ H QB := q
theorem x_B (q : te σ H fun x H' => ∃ k, x = .bl k ∧ QB k H') : tB te σ H QB := q
theorem x_and (q : c σ H fun b H1 => if b = true then tu σ H1 QB else QB false H1) : tAnd c tu σ H QB := q
theorem x_or (q : c σ H fun b H1 => if b = true then QB true H1 else tu σ H1 QB) : tOr c tu σ H QB := q
theorem x_not (q : c σ H fun b H1 => QB (!b) H1) : tNot c σ H QB := q
theorem x_andV (q : ta σ H fun x H1 => ∃ c, x = .bl c ∧ if c = true then tb σ H1 Q else Q (.bl false) H1) : tAndV ta tb σ H Q := q
theorem x_orV (q : ta σ H fun x H1 => ∃ c, x = .bl c ∧ if c = true then Q (.bl true) H1 else tb σ H1 Q) : tOrV ta tb σ H Q := q
theorem x_notV (q : ta σ H fun x H1 => ∃ c, x = .bl c ∧ Q (.bl (!c)) H1) : tNotV ta σ H Q := q
theorem x_if (q : c σ H fun b H1 => if b = true then ta σ H1 Q else tb σ H1 Q) : tIf c ta tb σ H Q := q
theorem x_seq (q : t1 { D with nx := t2 D } σ H) : tSeq t1 t2 D σ H := q
theorem x_next (q : D.nx σ H) : tNext D σ H := q
theorem x_set (q : te σ H fun x H1 => D.nx (σ.set i (some x)) H1) : tAsg te (gName i) D σ H := q
theorem x_asgS {to ti : TE} {t : TSet} (q : te σ H fun x H1 => to σ H1 fun o H2 => ti σ H2 fun k H3 => t o k x H3 fun H4 => D.nx σ H4) : tAsg te (gSub to ti t) D σ H := q
theorem x_asgT {n : Nat} {g : TGs} (q : te σ H fun x H1 => gTup K n g x σ H1 D.nx) : tAsg te (gTup K n g) D σ H := q
theorem x_ret (q : te σ H D.rt) : tRet te D σ H := q
theorem x_drop (q : te σ H fun _ H1 => D.nx σ H1) : tDrop te D σ H := q
theorem x_ifS (q : c σ H fun b H1 => if b = true then t1 D σ H1 else t2 D σ H1) : tIfS c t1 t2 D σ H := q
theorem x_par (q : t' σ H fun vs H1 => ∃ v w, vs = [v, w] ∧ D.nx ((σ.set i (some v)).set j (some w)) H1) : tPar i j t' D σ H := q
theorem x_par3 {l : Nat} (q : t' σ H fun vs H1 => ∃ u v w, vs = [u, v, w] ∧ D.nx (((σ.set i (some u)).set j (some v)).set l (some w)) H1) : tPar3 i j l t' D σ H := q
theorem x_is2 {F : V → V → Prop} (q : F x y) : ∃ v w, [x, y] = [v, w] ∧ F v w := ⟨x, y, rfl, q⟩
theorem x_is3 {F : V → V → V → Prop} (q : F x y z) : ∃ u v w, [x, y, z] = [u, v, w] ∧ F u v w := ⟨x, y, z, rfl, q⟩
/-! values -/
theorem x_rI0 {g : Int → Int → V} (q : Q (g m n) H) : rI0 g (.int m) (.int n) H Q := ⟨m, n, rfl, rfl, q⟩
theorem x_rI {C : Int → Int → Prop} {g : Int → Int → V} (h : C m n) (q : Q (g m n) H) : rI C g (.int m) (.int n) H Q := ⟨m, n, rfl, rfl, h, q⟩
theorem x_rU {g : Int → V} (q : Q (g m) H) : rU g (.int m) H Q := ⟨m, rfl, q⟩
theorem x_addI (q : Q (.int (m + n)) H) : uAdd K (.int m) (.int n) H Q := .inl ⟨m, n, rfl, rfl, q⟩
theorem x_addS {u w : Str} (h : u.length + w.length ≤ sizeLine) (q : Q (.str (u ++ w)) H) : uAdd K (.str u) (.str w) H Q := .inr (.inl ⟨u, w, rfl, rfl, h, q⟩)
theorem x_mulI (h : CMul m n) (q : Q (.int (m * n)) H) : uMul K (.int m) (.int n) H Q := .inl ⟨m, n, rfl, rfl, h, q⟩
theorem x_eqS (h : scal x y = true) (q : Q (.bl (decide (x = y))) H) : uEq K x y H Q := .inl ⟨h, q⟩
theorem x_neS (h : scal x y = true) (q : Q (.bl (!decide (x = y))) H) : uNe K x y H Q := .inl ⟨h, q⟩
theorem dI : decide (V.int m = V.int n) = decide (m = n) := by simp
theorem dS {u w : Str} : decide (V.str u = V.str w) = decide (u = w) := by simp
theorem dB {u w : Bool} : decide (V.bl u = V.bl w) = decide (u = w) := by simp
theorem x_eqI (q : Q (.bl (decide (m = n))) H) : uEq K (.int m) (.int n) H Q := .inl ⟨rfl, by rw [dI]; exact q⟩
theorem x_neI (q : Q (.bl (!decide (m = n))) H) : uNe K (.int m) (.int n) H Q := .inl ⟨rfl, by rw [dI]; exact q⟩
theorem x_eqStr {u w : Str} (q : Q (.bl (decide (u = w))) H) : uEq K (.str u) (.str w) H Q := .inl ⟨rfl, by rw [dS]; exact q⟩
theorem x_neStr {u w : Str} (q : Q (.bl (!decide (u = w))) H) : uNe K (.str u) (.str w) H Q := .inl ⟨rfl, by rw [dS]; exact q⟩
theorem x_eqB {u w : Bool} (q : Q (.bl (decide (u = w))) H) : uEq K (.bl u) (.bl w) H Q := .inl ⟨rfl, by rw [dB]; exact q⟩
theorem x_neB {u w : Bool} (q : Q (.bl (!decide (u = w))) H) : uNe K (.bl u) (.bl w) H Q := .inl ⟨rfl, by rw [dB]; exact q⟩
theorem x_isNI (q : Q (.bl false) H) : uIs (.int m) .non H Q := .inl ⟨rfl, by rw [decide_eq_false (fun z => nomatch z)]; exact q⟩
theorem x_isNotNI (q : Q (.bl true) H) : uIsNot (.int m) .non H Q := .inl ⟨rfl, by rw [decide_eq_false (fun z => nomatch z)]; exact q⟩
theorem x_isNS {u : Str} (q : Q (.bl false) H) : uIs (.str u) .non H Q := .inl ⟨rfl, by rw [decide_eq_false (fun z => nomatch z)]; exact q⟩
theorem x_isNotNS {u : Str} (q : Q (.bl true) H) : uIsNot (.str u) .non H Q := .inl ⟨rfl, by rw [decide_eq_false (fun z => nomatch z)]; exact q⟩
theorem x_isNB (q : Q (.bl false) H) : uIs (.bl b) .non H Q := .inl ⟨rfl, by rw [decide_eq_false (fun z => nomatch z)]; exact q⟩
theorem x_isNotNB (q : Q (.bl true) H) : uIsNot (.bl b) .non H Q := .inl ⟨rfl, by rw [decide_eq_false (fun z => nomatch z)]; exact q⟩
theorem x_isNR (q : Q (.bl false) H) : uIs (.ref p) .non H Q := .inl ⟨rfl, by rw [decide_eq_false (fun z => nomatch z)]; exact q⟩
theorem x_isNotNR (q : Q (.bl true) H) : uIsNot (.ref p) .non H Q := .inl ⟨rfl, by rw [decide_eq_false (fun z => nomatch z)]; exact q⟩
theorem x_isNN (q : Q (.bl true) H) : uIs .non .non H Q := .inl ⟨rfl, by rw [decide_eq_true rfl]; exact q⟩
theorem x_isNotNN (q : Q (.bl false) H) : uIsNot .non .non H Q := .inl ⟨rfl, by rw [decide_eq_true rfl]; exact q⟩
theorem x_eqR (h : scal x x = true) (q : Q (.bl true) H) : uEq K x x H Q := .inl ⟨h, by rw [decide_eq_true rfl]; exact q⟩
theorem x_neR (h : scal x x = true) (q : Q (.bl false) H) : uNe K x x H Q := .inl ⟨h, by rw [decide_eq_true rfl]; exact q⟩
theorem x_isN (q : Q (.bl (decide (x = .non))) H) : uIs x .non H Q := .inl ⟨rfl, q⟩
theorem x_isNotN (q : Q (.bl (!decide (x = .non))) H) : uIsNot x .non H Q := .inl ⟨rfl, q⟩
theorem x_isB {a b : Bool} (q : Q (.bl (decide (a = b))) H) : uIs (.bl a) (.bl b) H Q := .inr ⟨a, b, rfl, rfl, q⟩
theorem x_isNotB {a b : Bool} (q : Q (.bl (!decide (a = b))) H) : uIsNot (.bl a) (.bl b) H Q := .inr ⟨a, b, rfl, rfl, q⟩
theorem x_ixL (h : SqL K H p xs) (e : atI xs m = some v) (q : Q v H) : uIx K (.ref p) (.int m) H Q := .inl ⟨p, xs, m, v, rfl, rfl, h, e, q⟩
theorem x_ixT (h : SqT K H p xs) (e : atI xs m = some v) (q : Q v H) : uIx K (.ref p) (.int m) H Q := .inr (.inl ⟨p, xs, m, v, rfl, rfl, h, e, q⟩)
theorem x_ixS {u : Str} {c : Nat} (h : u.length ≤ sizeLine) (e : atI u.cps.toList m = some c) (q : Q (.str ⟨#[c]⟩) H) : uIx K (.str u) (.int m) H Q := .inr (.inr ⟨u, m, c, rfl, rfl, h, e, q⟩)
theorem x_setL {QH : Hp → Prop} (h : H p = some (.lst xs)) (e : ixN xs.length m = some j) (q : QH (upd H p (.lst (xs.set j v)))) : rSetL (.ref p) (.int m) v H QH := ⟨p, xs, m, j, rfl, rfl, h, e, q⟩
theorem x_lenL (h : SqL K H p xs) (q : Q (.int xs.length) H) : uLen K [.ref p] H Q := ⟨_, xs.length, rfl, .inl ⟨xs, h, rfl⟩, q⟩
theorem x_lenT (h : SqT K H p xs) (q : Q (.int xs.length) H) : uLen K [.ref p] H Q := ⟨_, xs.length, rfl, .inr ⟨xs, h, rfl⟩, q⟩
theorem x_lenS {u : Str} (h : u.length ≤ sizeLine) (q : Q (.int u.length) H) : uLen K [.str u] H Q := ⟨_, u.length, rfl, ⟨h, rfl⟩, q⟩
theorem x_abs (q : Q (.int (if m < 0 then -m else m)) H) : uAbs [.int m] H Q := ⟨m, rfl, q⟩
theorem x_intI (q : Q (.int m) H) : uInt [.int m] H Q := .inl ⟨m, rfl, q⟩
theorem x_intB (q : Q (.int (if b then 1 else 0)) H) : uInt [.bl b] H Q := .inr ⟨b, rfl, q⟩
theorem x_sum {ns : List Int} (h : SqL K H p (ns.map V.int)) (q : Q (.int ns.sum) H) : rSum K [.ref p] H Q := ⟨p, ns, rfl, h, q⟩
theorem x_all {bs : List Bool} (h : SqL K H p (bs.map V.bl)) (q : Q (.bl (bs.all id)) H) : rAll K [.ref p] H Q := ⟨p, bs, rfl, h, q⟩
theorem x_min2 (q : Q (.int (if n < m then n else m)) H) : uMin K [.int m, .int n] H Q := .inl ⟨m, n, rfl, q⟩
theorem x_max2 (q : Q (.int (if n > m then n else m)) H) : uMax K [.int m, .int n] H Q := .inl ⟨m, n, rfl, q⟩
/-! targets -/
theorem x_gName {QS : L2.St → Hp → Prop} (q : QS (σ.set i (some v)) H) : gName i v σ H QS := q
theorem x_gTup {QS : L2.St → Hp → Prop} {n : Nat} {t : TGs} (h : SqT K H p xs) (e : xs.length = n) (q : t xs σ H QS) : gTup K n t (.ref p) σ H QS := ⟨p, xs, rfl, h, e, q⟩
theorem x_gCons {QS : L2.St → Hp → Prop} {t : TG} {u : TGs} (q : t v σ H fun σ' H' => u xs σ' H' QS) : gCons t u (v :: xs) σ H QS := ⟨v, xs, rfl, q⟩
theorem x_gNil {QS : L2.St → Hp → Prop} (q : QS σ H) : gNil [] σ H QS := ⟨rfl, q⟩
theorem x_for {wi : TI} {g : TG} {tb : TS} (q : wi σ H fun J H1 => ∃ W : Nat → Nat → L2.St → Hp → Prop, (∃ m, W 0 m σ H1) ∧ ∀ i m σ H, W i m σ H →
      (J.stop i H ∧ D.nx σ H) ∨ (J.go i H ∧ ∃ N : L2.St → Hp → Prop, (∀ σ' H', N σ' H' → ∃ m', m' < m ∧ W (i + 1) m' σ' H') ∧ ∀ x H', J.yld i H x H' → g x σ H' fun σ2 H2 => tb { D with nx := N, ct := N, bk := D.nx } σ2 H2)) : tFor wi g tb D σ H := q
theorem x_iList {R : It → Hp → Prop} (q : te σ H fun x H1 => ∃ a, x = .ref a ∧ (∃ xs, SqL K H1 a xs) ∧ R (Itl K a) H1) : iList K te σ H R := q
theorem x_iTup {R : It → Hp → Prop} (q : te σ H fun x H1 => ∃ a, x = .ref a ∧ (∃ xs, SqT K H1 a xs) ∧ R (Itt K a) H1) : iTup K te σ H R := q
theorem x_iL {R : Addr → Prop} (h : SqL K H p xs) (q : R p) : ∃ a, V.ref p = .ref a ∧ (∃ xs, SqL K H a xs) ∧ R a := ⟨p, rfl, ⟨xs, h⟩, q⟩
theorem x_iT {R : Addr → Prop} (h : SqT K H p xs) (q : R p) : ∃ a, V.ref p = .ref a ∧ (∃ xs, SqT K H a xs) ∧ R a := ⟨p, rfl, ⟨xs, h⟩, q⟩
theorem x_iRng1 {R : It → Hp → Prop} (q : t' σ H fun vs H1 => ∃ j : Int, vs = [.int j] ∧ -(2 ^ 62) ≤ j ∧ j < 2 ^ 62 ∧ R (Itr 0 j.toNat) H1) : iRng1 t' σ H R := q
theorem x_rng1 {R : Int → Prop} (h1 : -(2 ^ 62) ≤ m) (h2 : m < 2 ^ 62) (q : R m) : ∃ j : Int, [V.int m] = [.int j] ∧ -(2 ^ 62) ≤ j ∧ j < 2 ^ 62 ∧ R j := ⟨m, rfl, h1, h2, q⟩
theorem x_iRng2 {R : It → Hp → Prop} (q : t' σ H fun vs H1 => ∃ i j : Int, vs = [.int i, .int j] ∧ (-(2 ^ 62) ≤ i ∧ i < 2 ^ 62 ∧ -(2 ^ 62) ≤ j ∧ j < 2 ^ 62) ∧ R (Itr i (j - i).toNat) H1) : iRng2 t' σ H R := q
theorem x_rng2 {R : Int → Int → Prop} (h1 : -(2 ^ 62) ≤ m ∧ m < 2 ^ 62 ∧ -(2 ^ 62) ≤ n ∧ n < 2 ^ 62) (q : R m n) : ∃ i j : Int, [V.int m, V.int n] = [.int i, .int j] ∧ (-(2 ^ 62) ≤ i ∧ i < 2 ^ 62 ∧ -(2 ^ 62) ≤ j ∧ j < 2 ^ 62) ∧ R i j := ⟨m, n, rfl, h1, q⟩
theorem x_iEnum {R : It → Hp → Prop} (q : t' σ H fun vs H1 => ∃ a xs, vs = [.ref a] ∧ SqL K H1 a xs ∧ R (Ite K a) H1) : iEnum K t' σ H R := q
theorem x_en {R : Addr → Prop} (h : SqL K H p xs) (q : R p) : ∃ a xs, [V.ref p] = [.ref a] ∧ SqL K H a xs ∧ R a := ⟨p, xs, rfl, h, q⟩
theorem x_iZip {R : It → Hp → Prop} (q : t' σ H fun vs H1 => ∃ a b xs ys, vs = [.ref a, .ref b] ∧ SqL K H1 a xs ∧ SqL K H1 b ys ∧ R (Itz K a b) H1) : iZip K t' σ H R := q
def LstK (xs : List V) (H : Hp) (Q : VK) : Prop := xs.length ≤ sizeLine ∧ ∀ p, H p = none → Q (.ref p) (upd H p (.lst xs))
def TupK (xs : List V) (H : Hp) (Q : VK) : Prop := xs.length ≤ sizeLine ∧ ∀ p, H p = none → Q (.ref p) (upd H p (.tup xs))
/-! with the state -/
section
variable {Ms M0 : List Addr} {L : List (Addr × HO)} {R : List Fa} {QH : Hp → Prop} {u : V}
theorem w_setL (hw : W K H0 Ms M0 H L R) (k : Nat) (hL : L[k]? = some (p, .lst xs)) (e : ixN xs.length m = some j) (q : ∀ H', W K H0 Ms M0 H' (L.set k (p, .lst (xs.set j v))) R → QH H') : rSetL (.ref p) (.int m) v H QH :=
  x_setL (hw.at k hL) e (q _ (hw.set k hL _))
theorem w_lst (hw : W K H0 Ms M0 H L R) (h : xs.length ≤ sizeLine) (q : ∀ p H', H p = none → W K H0 Ms M0 H' ((p, .lst xs) :: L) R → Q (.ref p) H') : LstK xs H Q :=
  ⟨h, fun p hp => q p _ hp (hw.new hp _)⟩
theorem x_lst (q : t' σ H fun xs H1 => LstK xs H1 Q) : tLst t' σ H Q := q
theorem x_tup (q : t' σ H fun xs H1 => TupK xs H1 Q) : tTup t' σ H Q := q
theorem w_tup {ds : List PyData} (hw : W K H0 Ms M0 H L R) (hd : RpAll K (av L M0) H xs ds) (h : xs.length ≤ sizeLine) (q : ∀ p H', H p = none → W K H0 Ms M0 H' L (.rp (.ref p) (.tuple ds) :: R) → Q (.ref p) H') : TupK xs H Q :=
  ⟨h, fun p hp => q p _ hp (hw.newTup hp hd)⟩
theorem w_tupC (hw : W K H0 Ms M0 H L R) (h : xs.length ≤ sizeLine) (q : ∀ p H', H p = none → W K H0 Ms M0 H' ((p, .tup xs) :: L) R → Q (.ref p) H') : TupK xs H Q :=
  ⟨h, fun p hp => q p _ hp (hw.new hp _)⟩
theorem w_slL (hw : W K H0 Ms M0 H L R) {lo hi : Option Int} (h : SqL K H p xs) (q : ∀ p H', H p = none → W K H0 Ms M0 H' ((p, .lst (cutV xs lo hi)) :: L) R → Q (.ref p) H') : uSl K (.ref p) lo hi H Q :=
  .inl ⟨p, xs, rfl, h, fun p hp => q p _ hp (hw.new hp _)⟩
theorem w_listL (hw : W K H0 Ms M0 H L R) (h : SqL K H p xs) (q : ∀ p H', H p = none → W K H0 Ms M0 H' ((p, .lst xs) :: L) R → Q (.ref p) H') : uList K [V.ref p] H Q := ⟨p, xs, rfl, .inl h, fun l hl => q l _ hl (hw.new hl _)⟩
theorem w_listT (hw : W K H0 Ms M0 H L R) (h : SqT K H p xs) (q : ∀ p H', H p = none → W K H0 Ms M0 H' ((p, .lst xs) :: L) R → Q (.ref p) H') : uList K [V.ref p] H Q := ⟨p, xs, rfl, .inr h, fun l hl => q l _ hl (hw.new hl _)⟩
end
/-! branches -/
theorem x_ifT (h : A) : if true = true then A else B := iteT h
theorem x_ifF (h : B) : if false = true then A else B := iteF h
theorem x_ifd {P : Prop} [Decidable P] (h1 : P → A) (h2 : ¬ P → B) : if decide P = true then A else B := by
  by_cases h : P
  · rw [decide_eq_true h]; exact iteT (h1 h)
  · rw [decide_eq_false h]; exact iteF (h2 h)
theorem x_ifn {P : Prop} [Decidable P] (h1 : ¬ P → A) (h2 : P → B) : if (!decide P) = true then A else B := by
  by_cases h : P
  · rw [decide_eq_true h]; exact iteF (h2 h)
  · rw [decide_eq_false h]; exact iteT (h1 h)
theorem x_ifP {P : Prop} [Decidable P] (h : P) (q : A) : if decide P = true then A else B := by rw [decide_eq_true h]; exact iteT q
theorem x_ifN {P : Prop} [Decidable P] (h : ¬ P) (q : B) : if decide P = true then A else B := by rw [decide_eq_false h]; exact iteF q
theorem x_ifnP {P : Prop} [Decidable P] (h : P) (q : B) : if (!decide P) = true then A else B := by rw [decide_eq_true h]; exact iteF q
theorem x_ifnN {P : Prop} [Decidable P] (h : ¬ P) (q : A) : if (!decide P) = true then A else B := by rw [decide_eq_false h]; exact iteT q
theorem x_ifnT (h : B) : if (!true) = true then A else B := iteF h
theorem x_ifnF (h : A) : if (!false) = true then A else B := iteT h
theorem x_nx {n bk ct : L2.St → Hp → Prop} {r : VK} (q : n σ H) : Ends.nx (Ends.mk n r bk ct) σ H := q
theorem x_rt {n bk ct : L2.St → Hp → Prop} {r : VK} (q : r v H) : Ends.rt (Ends.mk n r bk ct) v H := q
theorem x_bk {n bk ct : L2.St → Hp → Prop} {r : VK} (q : bk σ H) : Ends.bk (Ends.mk n r bk ct) σ H := q
theorem x_ct {n bk ct : L2.St → Hp → Prop} {r : VK} (q : ct σ H) : Ends.ct (Ends.mk n r bk ct) σ H := q
theorem x_brk (q : D.bk σ H) : tBreak D σ H := q
theorem x_cont (q : D.ct σ H) : tCont D σ H := q
theorem x_ifbT (h : b = true) (q : A) : if b = true then A else B := by rw [h]; exact iteT q
theorem x_ifbF (h : b = false) (q : B) : if b = true then A else B := by rw [h]; exact iteF q
theorem x_ifb (h1 : b = true → A) (h2 : b = false → B) : if b = true then A else B := by
  cases b
  · exact iteF (h2 rfl)
  · exact iteT (h1 rfl)
end
end Fw
namespace Fw
open PySem PySem.Spec PyProof.Rows L2
/-! ### calls with keywords, defaults -/
structure FnN (P : Program) (w : World) (K : PySem.W.Frag) (mg : Str → Option Value) (base : Heap) (CX : CXT) (k : Nat) (x : Str) (n : Nat) (ks : List Str) (gV : List V → List V → List V) (sp : Sp) : Prop where
  ex : ∃ (f : Addr) (fd : FuncData) (ps : List Str) (g : List Value → List Value → List Value), mg x = some (.ref f) ∧ PySem.W.keepIn K (.ref f) = true ∧ KBn K fd ps n ks g gV ∧ FnOk P w K mg base CX k f fd ps sp
section
variable {X : Cx} {CX : CXT} {k j n : Nat} {ks : List Str} {gV : List V → List V → List V} {sp : Sp} {E : XK} {x : Str} {p pos : Pos} {e : Expr} {es : List Expr} {kws : List Keyword} {t tk : TA}
theorem pe_fnN (F : FnN X.prog X.w X.K X.mg X.base CX k x n ks gV sp) (hr : Room j X.A) (hk : k ≤ j) (hg : Gl X x) (hx : Passes CX X E) (ha : PA X (e :: es) t) (hkw : PK X kws tk) (hall : (backToKw pos (keywordEach kws X.env)).all (·.1.isSome) = true := by rfl) (hks : (backToKw pos (keywordEach kws X.env)).filterMap (·.1) = ks := by rfl)
    (hdb : (x == ("__debug__" : Str)) = false := by decide) (he : starEach (e :: es) X.env = (false, eval e X.env) :: starEach es X.env := by rfl)
    (hpl : ((backTo pos (starEach (e :: es) X.env)).any (·.1) || (backToKw pos (keywordEach kws X.env)).any (·.1.isNone)) = false := by rfl) :
    PE X (.Call (.Name x p) (e :: es) kws pos) (tCallN n ks.length sp gV E t tk) := by
  obtain ⟨f, fd, ps, g, hm, hkp, hb, F⟩ := F.ex
  exact pe_callN F (hr.mono hk) hg hm hkp hb hx ha hkw hall hks hdb he hpl
theorem pe_fnN0 (F : FnN X.prog X.w X.K X.mg X.base CX k x n ks gV sp) (hr : Room j X.A) (hk : k ≤ j) (hg : Gl X x) (hx : Passes CX X E) (hkw : PK X kws tk) (hall : (backToKw pos (keywordEach kws X.env)).all (·.1.isSome) = true := by rfl) (hks : (backToKw pos (keywordEach kws X.env)).filterMap (·.1) = ks := by rfl)
    (hdb : (x == ("__debug__" : Str)) = false := by decide)
    (hpl : ((backTo pos (starEach [] X.env)).any (·.1) || (backToKw pos (keywordEach kws X.env)).any (·.1.isNone)) = false := by rfl) :
    PE X (.Call (.Name x p) [] kws pos) (tCallN n ks.length sp gV E tNil tk) := by
  obtain ⟨f, fd, ps, g, hm, hkp, hb, F⟩ := F.ex
  refine ⟨fun pins s σ H Q I h => ?_⟩
  refine wpAny_Call_Name_kw (ld_glob I hg hm ?_ hdb)
  refine PySem.W.callWith_KW0 (h₀ := X.base) I.ok.mod.kin hkp hall ?_ hpl
  refine thn (hkw.run pos pins s σ H _ I h) fun ws s2 ⟨zs, H2, I2, rz, l1, l2, q2⟩ => ⟨I2.kIn, ?_⟩
  rw [hks]
  exact run_fnN F (hr.mono hk) hb hx I2 .nil rz l1 l2 q2
theorem x_callN {m : Nat} {σ : L2.St} {H : Hp} {Q : VK} (q : t σ H fun vs H1 => tk σ H1 fun zs H2 => vs.length = n ∧ zs.length = m ∧ sp (gV vs zs) H2 Q E) : tCallN n m sp gV E t tk σ H Q := q
theorem x_lens {n m n' m' : Nat} {P : Prop} (h1 : n = n') (h2 : m = m') (q : P) : n = n' ∧ m = m' ∧ P := ⟨h1, h2, q⟩
end
/-- all parameters are written -/
theorem kbn_all {K : PySem.W.Frag} {x qual : Str} {params : Arguments} {body : List Stmt} {scope : Scope} {kws : List (Str × V)} {f : Addr} {fd : FuncData} {ps : List Str} (F : FunD K x qual params body scope [] kws f fd) (n : Nat) (ks : List Str) (g : {α : Type} → List α → List α → List α)
    (hrel : ∀ {vs zs : List V} {us ws : List Value}, Vals vs us → Vals zs ws → Vals (g vs zs) (g us ws))
    (h : ∀ (kV doc pm : Value) (an : Option Addr) (cdv ct : Value) (us ws : List Value), us.length = n → ws.length = ks.length → bindArgs (PySem.W.fnOf x qual params body scope .none kV doc pm an cdv ct) ⟨us, ks.zip ws⟩ = pure (ps.zip (g us ws))) : KBn K fd ps n ks (fun us ws => g us ws) (fun vs zs => g vs zs) := by
  obtain ⟨oc, od, dV, kV, doc, pm, an, cdv, ct, osl, rfl, lk, hcd, hD, hK⟩ := F.ex
  rcases hD with ⟨_, rfl⟩ | ⟨e, _⟩
  · exact ⟨fun s us ws X l1 l2 => .of_eq (h kV doc pm an cdv ct us ws l1 l2), fun r1 r2 => hrel r1 r2⟩
  · exact absurd rfl e
/-! ### a def's body with its slots written out, from FunD -/
section
variable {P : Program} {w : World} {K : PySem.W.Frag} {mg : Str → Option Value} {base : Heap}
theorem okD {x qual : Str} {st : Stmt} {dvs : List V} {kws : List (Str × V)} {f : Addr} {fd : FuncData} {N ps : List Str} {k : Nat} {sp : Sp} (F : FunD K x qual (defArgs st) (defBody st) (defScope st) dvs kws f fd) (S : FnScope N ps (defScope st)) (len : ∀ vs H Q E, sp vs H Q E → vs.length = ps.length)
    (hbody : ∀ (cdv : Value) (A : Around) (outer : List Env) (s : Shared) (H : Hp) (vs : List V) (Q : VK) (E : XK), Room k (A.deeper (envOfC qual (defScope st) s.heap.objs.size f cdv)) → sp vs H Q E →
      ∃ t σ, PSs (cxOf CX0 P w K mg base N qual (defScope st) f cdv A outer s H E).nox (defBody st) t ∧ L2.start N vs = σ ∧ t { nx := fun _ H' => Q .non H', rt := Q } σ H) : FnOk P w K mg base CX0 (k + 1) f fd ps sp := by
  refine F.ok S len fun cdv A outer s H vs Q E hr h => ?_
  obtain ⟨t, σ, h1, rfl, h2⟩ := hbody cdv A outer s H vs Q E hr h
  exact ⟨t, h1.nox, h2⟩
end
end Fw
namespace Fw
open PySem PySem.Spec PyProof.Rows L2
/-! ### a, .., *rest = a list -/
section
variable {X : Cx} {pos : Pos}
theorem pgs_star {e : Expr} {es : List Expr} {t : TG} {u : TGs} {sp : Pos} (h1 : PG X e t) (h2 : PGs X es u)
    (hs : (assignEach (.Starred e sp :: es) X.env).map (·.2) = assign e X.env :: (assignEach es X.env).map (·.2) := by rfl) : PGs X (.Starred e sp :: es) (gCons t u) := by
  refine ⟨fun pins s σ H vs us Q I r h => ?_⟩
  obtain ⟨v, vr, e1, h⟩ := h
  subst e1
  cases r with
  | cons r rr =>
    rw [hs]
    refine assignInOrder_cons (thn (h1.run pins s σ H _ _ _ I r h) fun _ s1 ⟨σ1, H1, I1, q1⟩ => ?_)
    exact h2.run pins s1 σ1 H1 _ _ Q I1 rr q1
def gStL (K : PySem.W.Frag) (i : Nat) (t : TGs) : TG := fun v σ H Q => ∃ a xs, v = .ref a ∧ SqL K H a xs ∧ i ≤ xs.length ∧ xs.length ≤ 16384 ∧ ∀ D, H D = none → t (xs.take i ++ [.ref D]) σ (upd H D (.lst (xs.drop i))) Q
theorem pg_stL {K : PySem.W.Frag} {es : List Expr} {k i : Nat} {t : TGs} (hc : X.calm = true) (h : PGs X es t)
    (hn : (assignEach es X.env).length = i + 1 := by rfl) (hst : (assignEach es X.env).findIdx? (·.1) = some i := by rfl) (hK : X.K = K := by rfl) : PG X (.Tuple es k pos) (gStL K i t) := by
  subst hK
  refine ⟨fun pins s σ H v u Q I r hw => ?_⟩
  obtain ⟨a, xs, e1, hq, hl, hz4, hw⟩ := hw
  subst e1
  cases r
  obtain ⟨its, rv, pl, hz⟩ := I.list hq
  have hl' : s.heap.IsList a its.toArray := by
    obtain ⟨o, m, e, c, d, q⟩ := pl
    exact ⟨o, e, c, m, q⟩
  have hlen : its.length = xs.length := rv.length.symm
  have hh := I.ok.hd hc
  have hlt : a ≠ s.heap.objs.size := by obtain ⟨o, ho, _⟩ := hl'; exact Nat.ne_of_lt (Heap.lt_size ho)
  rw [PyProof.Rows.assign_Tuple]
  refine wpAny_bind (wpAny_standAt ?_)
  unfold unpack
  rw [hn, hst]
  refine wpAny_bind (wpAny_holding ?_)
  unfold unpackItems
  refine wpAny_bind ?_
  unfold notIterableAtAll
  refine wpAny_bind (wpAny_specialOf hl'.typeIs slot_list_iter.lookup ?_)
  refine wpAny_pure ?_
  simp only [Bool.false_eq_true, if_false]
  refine wpAny_bind (wpAny_holding (wpAny_pyIter_list hl' ?_))
  refine wpAny_bind (wpAny_holding (PySem.W.kun_draw hlt i 0 _ _ ⟨_, Heap.get?_push_size _ rfl, rfl, rfl⟩ (hl'.push _) (by rw [List.size_toArray]; omega) fun h₁ hit₁ hs₁ => ?_))
  have hl₁ : h₁.IsList a its.toArray := (hl'.push _).extBut hs₁.extBut hlt
  rw [Nat.zero_add] at hit₁
  have hit₁' := hit₁
  obtain ⟨oi, hoi, _⟩ := hit₁'
  have hl₁' := hl₁
  obtain ⟨ol, hol, _⟩ := hl₁'
  rw [List.drop_zero]
  have hfl : (its.take i).length = i := by rw [List.length_take]; omega
  rw [if_neg (show ¬ ((its.toArray.toList.take i).length < i) by show ¬ (its.take i).length < i; rw [hfl]; omega)]
  refine wpAny_bind (wpAny_holding (PySem.W.kun_collect (s := { s with heap := h₁ }) (T := "list_iterator") (.inr (.inr (.inl rfl))) (Walks.list (A := X.A.in1) hh s.heap.objs.size a hlt its.toArray) (fun j u st => st.1.typeIs) (k := i) (by rw [List.size_toArray]; omega) ⟨hit₁, hl₁⟩ (Heap.lt_size hoi) (Heap.lt_size hol) (fun h₂ tk hk => ?_) (by rw [List.size_toArray]; omega)))
  show wpAny _ _ (if (its.drop i).length < i + 1 - 1 - i then _ else _) _ _ _
  rw [if_neg (by omega)]
  have he : ∀ b o, s.heap.get? b = some o → h₂.get? b = some o := fun b o e => hk b o (Nat.ne_of_lt (Heap.lt_size e)) (hs₁.extBut b o (Nat.ne_of_lt (Heap.lt_size e)) (Heap.get?_push_of_some _ e))
  have I2 : Inv X pins σ H { s with heap := h₂, toks := tk } := I.kept (t' := tk) he
  have hmid : (its.drop i).length - (i + 1 - 1 - i) = (its.drop i).length := by omega
  show wpAny _ _ (newList ((its.drop i).take ((its.drop i).length - (i + 1 - 1 - i))) >>= fun d => pure (its.take i ++ [d] ++ (its.drop i).drop ((its.drop i).length - (i + 1 - 1 - i)))) _ _ _
  rw [hmid, List.take_length, List.drop_length]
  have hrl : (its.drop i).length ≤ sizeLine := by rw [List.length_drop, sizeLine_eq]; omega
  refine wpAny_bind (wpAny_newList ?_ hrl)
  refine wpAny_pure ?_
  rw [List.append_nil]
  have hf : H h₂.objs.size = none := I2.hok.fresh (Nat.le_refl _)
  have I3 := I2.laid (a := h₂.objs.size) (o := .lst (xs.drop i)) (h' := h₂.push { cls := .type "list", data := .seq (its.drop i).toArray 0 }) (t' := tk) (fun b u e => Heap.get?_push_of_some _ e) (Nat.le_refl _) ⟨by rw [List.length_drop]; omega, its.drop i, 0, rv.drop i, Heap.get?_push_size _ rfl⟩
  exact h.run pins _ σ _ (xs.take i ++ [.ref h₂.objs.size]) _ Q I3 ((rv.take i).append (.cons (show RelV (.ref h₂.objs.size) (.ref h₂.objs.size) from rfl) .nil)) (hw _ hf)
def gU (K : PySem.W.Frag) (n : Nat) (t : TGs) : TG := gUnl K n t
theorem pg_uL {K : PySem.W.Frag} {es : List Expr} {k : Nat} {t : TGs} {n : Nat} (hc : X.calm = true) (h : PGs X es t)
    (hn : (assignEach es X.env).length = n := by rfl) (hst : (assignEach es X.env).findIdx? (·.1) = none := by rfl) (hK : X.K = K := by rfl) : PG X (.Tuple es k pos) (gU K n t) := hK ▸ pg_unl hc h hn hst
theorem x_gStL {K : PySem.W.Frag} {i : Nat} {t : TGs} {σ : L2.St} {H H0 : Hp} {QS : L2.St → Hp → Prop} {p : Addr} {xs : List V} {Ms M0 : List Addr} {L : List (Addr × HO)} {R : List Fa} (hw : W K H0 Ms M0 H L R) (h : SqL K H p xs) (h1 : i ≤ xs.length) (h2 : xs.length ≤ 16384)
    (q : ∀ D H', H D = none → W K H0 Ms M0 H' ((D, .lst (xs.drop i)) :: L) R → t (xs.take i ++ [.ref D]) σ H' QS) : gStL K i t (.ref p) σ H QS := ⟨p, xs, rfl, h, h1, h2, fun D hD => q D _ hD (hw.new hD _)⟩
theorem x_gStL1 {K : PySem.W.Frag} {t : TGs} {σ : L2.St} {H H0 : Hp} {QS : L2.St → Hp → Prop} {p : Addr} {x : V} {xs : List V} {Ms M0 : List Addr} {L : List (Addr × HO)} {R : List Fa} (hw : W K H0 Ms M0 H L R) (h : SqL K H p (x :: xs)) (h2 : xs.length ≤ 16383)
    (q : ∀ D H', H D = none → W K H0 Ms M0 H' ((D, .lst xs) :: L) R → t [x, .ref D] σ H' QS) : gStL K 1 t (.ref p) σ H QS := x_gStL hw h (Nat.succ_le_succ (Nat.zero_le _)) (by rw [List.length_cons]; omega) q
theorem x_gU {K : PySem.W.Frag} {n : Nat} {t : TGs} {σ : L2.St} {H : Hp} {QS : L2.St → Hp → Prop} {p : Addr} {xs : List V} (h : SqL K H p xs) (h1 : xs.length = n) (q : t xs σ H QS) : gU K n t (.ref p) σ H QS := ⟨p, xs, rfl, h, h1, q⟩
theorem x_gU2 {K : PySem.W.Frag} {t : TGs} {σ : L2.St} {H : Hp} {QS : L2.St → Hp → Prop} {p : Addr} {x y : V} (h : SqL K H p [x, y]) (q : t [x, y] σ H QS) : gU K 2 t (.ref p) σ H QS := x_gU h rfl q
theorem x_gU3 {K : PySem.W.Frag} {t : TGs} {σ : L2.St} {H : Hp} {QS : L2.St → Hp → Prop} {p : Addr} {x y z : V} (h : SqL K H p [x, y, z]) (q : t [x, y, z] σ H QS) : gU K 3 t (.ref p) σ H QS := x_gU h rfl q
theorem x_asgG {te : TE} {g : TG} {D : Ends} {σ : L2.St} {H : Hp} (q : te σ H fun x H1 => g x σ H1 D.nx) : tAsg te g D σ H := q
end
end Fw
namespace Fw
open PySem PySem.Spec PyProof.Rows L2
/-! ### d.update(e) -/
section
variable {X : Cx} {σ : L2.St} {H H0 : Hp}
def rUpdate : V → List V → Hp → VK → Prop := fun x vs H Q => ∃ a b kvs more, x = .ref a ∧ vs = [.ref b] ∧ H a = some (.dK kvs) ∧ H b = some (.dK more) ∧ a ≠ b ∧ kvs.length + more.length ≤ 1000 ∧ Q .non (upd H a (.dK (mergeK kvs more)))
theorem length_putK {κ : Type} [DecidableEq κ] (kvs : List (κ × V)) (k : κ) (v : V) : (putK kvs k v).length ≤ kvs.length + 1 := by
  unfold putK
  split
  · rw [List.length_map]; omega
  · rw [List.length_append]; exact Nat.le_refl _
theorem length_mergeK : ∀ (more kvs : List (Key × V)), (mergeK kvs more).length ≤ kvs.length + more.length
  | [], kvs => Nat.le_refl _
  | m :: r, kvs => by
    show (mergeK (putK kvs m.1 m.2) r).length ≤ _
    have h1 := length_mergeK r (putK kvs m.1 m.2)
    have h2 := length_putK kvs m.1 m.2
    rw [List.length_cons]
    omega
theorem mt_update : MtR X "dict.update" rUpdate := by
  intro pins s σ H x vs v us Q I rx rv h
  obtain ⟨a, b, kvs, more, rfl, rfl, ha, hb, hne, hz, q⟩ := h
  cases rx
  obtain ⟨u, rfl, ru⟩ := vals1 rv
  cases ru
  obtain ⟨z, hd, ws, rel, dd⟩ := dk_of I.hok ha
  obtain ⟨z2, hd2, ws2, rel2, dd2⟩ := dk_of I.hok hb
  have l1 := rel.length
  have l2 := rel2.length
  refine call_meetsIn PySem.F.slot_dict_update dd.typeIs PySem.F.entry_dict_update (PySem.F.args_dict_update_2 _ _) (meets_dict_update (mixKind X.prog X.w) a b hne hd2) ⟨ws, ws2, dd, dd2, by rw [sizeLine_eq]; omega, fun h' dd' _ hs => ?_⟩
  have he : ∃ q, h'.get? a = some q := let ⟨q, _, _, hq, _⟩ := dd'; ⟨q, hq⟩
  have hl := length_mergeK more kvs
  exact ⟨.non, _, d_write (t' := s.toks) I (by rw [ha]; exact True.intro) hs he (dk_new (by rw [sizeLine_eq]; omega) hd (KV.merge rel2 rel) dd'), rfl, q⟩
theorem pe_gI {x : Str} {i : Int} {pos : Pos} (hg : Gl X x) (hm : ∃ t, X.mg x = some (.int i t)) (hd : (x == ("__debug__" : Str)) = false := by decide) : PE X (.Name x pos) (tC (.int i)) := by
  obtain ⟨t, hm⟩ := hm
  exact pe_glob hg hm ⟨t, rfl⟩ hd
theorem pe_gS {x z : Str} {pos : Pos} (hg : Gl X x) (hm : ∃ t, X.mg x = some (.str z t)) (hd : (x == ("__debug__" : Str)) = false := by decide) : PE X (.Name x pos) (tC (.str z)) := by
  obtain ⟨t, hm⟩ := hm
  exact pe_glob hg hm ⟨t, rfl⟩ hd
theorem pe_gR {x : Str} {a : Addr} {pos : Pos} (hg : Gl X x) (hm : X.mg x = some (.ref a)) (hd : (x == ("__debug__" : Str)) = false := by decide) : PE X (.Name x pos) (tC (.ref a)) := pe_glob hg hm rfl hd
/-! ### steps for dicts -/
theorem x_dget {td ty : TE} {Q : VK} (q : td σ H fun x H1 => ty σ H1 fun y H2 => ∃ a v, x = .ref a ∧ DGet H2 a y (some v) ∧ Q v H2) : tDGet td ty σ H Q := q
theorem x_dgetS {p : Addr} {kvs : List (Key × V)} {x : Str} {v : V} {F : V → Prop} (h : H p = some (.dK kvs)) (e : valV kvs (.inr x) = some v) (q : F v) : ∃ a v, V.ref p = .ref a ∧ DGet H a (.str x) (some v) ∧ F v :=
  ⟨p, v, rfl, .inl ⟨kvs, .inr x, .inl h, rfl, e.symm⟩, q⟩
def uIxD (K : PySem.W.Frag) (w : World) : R2 := rIxD K w
theorem ix_D {K : PySem.W.Frag} {w : World} (hK : X.K = K := by rfl) (hw : X.w = w := by rfl) : IxR X (uIxD K w) := hK ▸ hw ▸ ix_kdict
theorem x_ixD {K : PySem.W.Frag} {w : World} {p : Addr} {z : Str} {v : V} {Q : VK} (h : KDct K w p z v) (q : Q v H) : uIxD K w (.ref p) (.str z) H Q := ⟨p, z, v, rfl, rfl, h, q⟩
theorem x_callL {i : Nat} {f : Addr} {sp : Sp} {dvs : List V} {E : XK} {t : TA} {Q : VK} (h : σ[i]? = some (some (.ref f))) (q : t σ H fun vs H1 => sp (vs ++ dvs) H1 Q E) : tCallL i f sp dvs E t σ H Q := ⟨h, q⟩
end
end Fw
namespace Fw
open PySem PySem.Spec PyProof.Rows L2
section
variable {X : Cx} {σ : L2.St} {H H0 : Hp} {K : PySem.W.Frag} {Q : VK} {p : Addr} {xs : List V} {x : V}
/-! ### in, not in -/
def uIn (K : PySem.W.Frag) : R2 := fun x y H Q => rIn K false x y H Q ∨ (∃ (c : Nat) (z : Str), x = .str ⟨#[c]⟩ ∧ y = .str z ∧ Q (.bl (decide (c ∈ z.cps.toList))) H) ∨ rInD K x y H Q
def uNotIn (K : PySem.W.Frag) : R2 := fun x y H Q => rIn K true x y H Q ∨ (∃ (c : Nat) (z : Str), x = .str ⟨#[c]⟩ ∧ y = .str z ∧ Q (.bl (!decide (c ∈ z.cps.toList))) H) ∨ rNotInD K x y H Q
theorem Room.un65 {k : Nat} {A : Around} (r : Room k A) : A.units + 65 < cLine := by have := r.un; omega
theorem op_inU {k : Nat} (hr : Room k X.A) (hK : X.K = K := by rfl) : OpR X (compareOp .In) (uIn K) := hK ▸ OpR.or op_in_seq (OpR.or op_in_sign (op_inD (Room.un65 hr)))
theorem op_notInU {k : Nat} (hr : Room k X.A) (hK : X.K = K := by rfl) : OpR X (compareOp .NotIn) (uNotIn K) := hK ▸ OpR.or op_notIn_seq (OpR.or op_notIn_sign (op_notInD (Room.un65 hr)))
theorem x_inL (h : SqL K H p xs) (h1 : flatV x = true) (h2 : xs.all flatV = true) (q : Q (.bl (inV x xs)) H) : uIn K x (.ref p) H Q := .inl ⟨p, xs, rfl, .inl h, h1, h2, q⟩
theorem x_inT (h : SqT K H p xs) (h1 : flatV x = true) (h2 : xs.all flatV = true) (q : Q (.bl (inV x xs)) H) : uIn K x (.ref p) H Q := .inl ⟨p, xs, rfl, .inr h, h1, h2, q⟩
theorem x_notInL (h : SqL K H p xs) (h1 : flatV x = true) (h2 : xs.all flatV = true) (q : Q (.bl (!inV x xs)) H) : uNotIn K x (.ref p) H Q := .inl ⟨p, xs, rfl, .inl h, h1, h2, q⟩
theorem x_notInT (h : SqT K H p xs) (h1 : flatV x = true) (h2 : xs.all flatV = true) (q : Q (.bl (!inV x xs)) H) : uNotIn K x (.ref p) H Q := .inl ⟨p, xs, rfl, .inr h, h1, h2, q⟩
theorem x_inSign {c : Nat} {z : Str} (q : Q (.bl (decide (c ∈ z.cps.toList))) H) : uIn K (.str ⟨#[c]⟩) (.str z) H Q := .inr (.inl ⟨c, z, rfl, rfl, q⟩)
/-! ### lists: +, dict displays, reversed slices -/
variable {Ms M0 : List Addr} {L : List (Addr × HO)} {R : List Fa} {q : Addr} {ys : List V}
theorem w_cat (hw : W K H0 Ms M0 H L R) (h1 : H p = some (.lst xs)) (h2 : H q = some (.lst ys)) (hz : xs.length + ys.length ≤ sizeLine) (k : ∀ p H', H p = none → W K H0 Ms M0 H' ((p, .lst (xs ++ ys)) :: L) R → Q (.ref p) H') : uAdd K (.ref p) (.ref q) H Q :=
  .inr (.inr (.inl ⟨p, q, xs, ys, rfl, rfl, h1, h2, hz, fun l hl => k l _ hl (hw.new hl _)⟩))
theorem w_rep (hw : W K H0 Ms M0 H L R) {k : Int} (h1 : H p = some (.lst xs)) (h2 : -(2 ^ 63) ≤ k) (h3 : k < 2 ^ 63) (hz : xs.length * k.toNat ≤ sizeLine) (c : ∀ p H', H p = none → W K H0 Ms M0 H' ((p, .lst (List.replicate k.toNat xs).flatten) :: L) R → Q (.ref p) H') : uMul K (.ref p) (.int k) H Q :=
  .inr (.inl ⟨p, k, xs, rfl, rfl, h1, h2, h3, hz, fun l hl => c l _ hl (hw.new hl _)⟩)
def toKey : V → Key
  | .str x => .inr x
  | .int i => .inl i
  | _ => .inl 0
def DispK (p : Addr) (ps : List (V × V)) (H : Hp) (Q : VK) : Prop := H p = some (.dK []) ∧ ∃ kvs : List (Key × V), ps = kvs.map (fun kv => (kV kv.1, kv.2)) ∧ kvs.length ≤ 15 ∧ Q (.ref p) (upd H p (.dK (mergeK [] kvs)))
def RevK (K : PySem.W.Frag) (x : V) (H : Hp) (Q : VK) : Prop := ∃ a xs, x = .ref a ∧ SqL K H a xs ∧ ∀ p, H p = none → Q (.ref p) (upd H p (.lst xs.reverse))
theorem w_disp {trs : List (TE × TE)} (hw : W K H0 Ms M0 H L R) (k : ∀ p H', H p = none → W K H0 Ms M0 H' ((p, .dK []) :: L) R → tPairs trs σ H' fun ps H2 => DispK p ps H2 Q) : tDisp trs σ H Q :=
  fun p hp => k p _ hp (hw.new hp _)
theorem x_pairs {tk tv : TE} {r : List (TE × TE)} {QP : List (V × V) → Hp → Prop} (k : tk σ H fun x H1 => tv σ H1 fun y H2 => tPairs r σ H2 fun ps H3 => QP ((x, y) :: ps) H3) : tPairs ((tk, tv) :: r) σ H QP := k
theorem x_pairs0 {QP : List (V × V) → Hp → Prop} (k : QP [] H) : tPairs [] σ H QP := k
theorem w_dispEnd {ps : List (V × V)} (hw : W K H0 Ms M0 H L R) (n : Nat) (hL : L[n]? = some (p, .dK [])) (e : ps = (ps.map fun p => (toKey p.1, p.2)).map fun kv => (kV kv.1, kv.2)) (hl : ps.length ≤ 15)
    (k : ∀ H', W K H0 Ms M0 H' (L.set n (p, .dK (mergeK [] (ps.map fun p => (toKey p.1, p.2))))) R → Q (.ref p) H') : DispK p ps H Q :=
  ⟨hw.at n hL, _, e, by rw [List.length_map]; exact hl, k _ (hw.set n hL _)⟩
theorem w_update {n m : Nat} {kvs more : List (Key × V)} (hw : W K H0 Ms M0 H L R) (h1 : L[n]? = some (p, .dK kvs)) (h2 : L[m]? = some (q, .dK more)) (hnm : n ≠ m) (hz : kvs.length + more.length ≤ 1000)
    (k : ∀ H', W K H0 Ms M0 H' (L.set n (p, .dK (mergeK kvs more))) R → Q .non H') : rUpdate (.ref p) [.ref q] H Q := ⟨p, q, kvs, more, rfl, rfl, hw.at n h1, hw.at m h2, hw.ne h1 h2 hnm, hz, k _ (hw.set n h1 _)⟩
theorem x_bm {T : String} {r : V → List V → Hp → VK → Prop} {to : TE} {t : TA} (k : to σ H fun x H1 => tyV K T x H1 ∧ t σ H1 fun xs H2 => r x xs H2 Q) : tBM K T r to t σ H Q := k
theorem x_bm0 {T : String} {r : V → List V → Hp → VK → Prop} {to : TE} (k : to σ H fun x H1 => tyV K T x H1 ∧ r x [] H1 Q) : tBM0 K T r to σ H Q := k
theorem x_tyL {B : Prop} (h : H p = some (.lst xs)) (k : B) : tyV K "list" (.ref p) H ∧ B := ⟨.inl ⟨rfl, _, SqL.of h⟩, k⟩
theorem x_tyD {B : Prop} {kvs : List (Key × V)} (h : H p = some (.dK kvs)) (k : B) : tyV K "dict" (.ref p) H ∧ B := ⟨.inr (.inr (.inl ⟨rfl, .inl ⟨_, h⟩⟩)), k⟩
theorem x_tyS {B : Prop} {z : Str} (k : B) : tyV K "str" (.str z) H ∧ B := ⟨rfl, k⟩
theorem w_append {n : Nat} (hw : W K H0 Ms M0 H L R) (h1 : L[n]? = some (p, .lst xs)) (hz : xs.length < sizeLine) (k : ∀ H', W K H0 Ms M0 H' (L.set n (p, .lst (xs ++ [x]))) R → Q .non H') : rAppend (.ref p) [x] H Q := ⟨p, xs, x, rfl, rfl, hw.at n h1, hz, k _ (hw.set n h1 _)⟩
section
variable {o e : Expr} {es : List Expr} {to : TE} {t : TA} {name : Str} {apos cpos : Pos} {T id : String} {r : V → List V → Hp → VK → Prop}
theorem pe_m0 (pa : PlainAttrs T) (slot : Slot T name id) (hty : typeOf (.builtin id) = pure (.type "method_descriptor")) (hm : MtR X id r) (ho : PE X o to)
    (hbase : attributeBase o name X.env (eval o X.env) = eval o X.env := by rfl) (hline : (apos.endLine == cpos.line) = true := by rfl) (hK : X.K = K := by rfl) : PE X (.Call (.Attribute o name apos) [] [] cpos) (tBM0 K T r to) := hK ▸ pe_bm0 pa slot hty hm ho hbase hline
theorem pe_m1 (pa : PlainAttrs T) (slot : Slot T name id) (hty : typeOf (.builtin id) = pure (.type "method_descriptor")) (hm : MtR X id r) (ho : PE X o to) (ha : PA X (e :: es) t)
    (hbase : attributeBase o name X.env (eval o X.env) = eval o X.env := by rfl)
    (hfew : ((backTo cpos (starEach (e :: es) X.env)).all (fun x => !x.1) && (backToKw cpos (keywordEach [] X.env)).all (fun x => x.1.isSome)
      && decide ((e :: es).length + ([] : List Keyword).length + (if ([] : List Keyword).isEmpty then 0 else 1) < 30)) = true := by rfl)
    (hline : (apos.endLine == cpos.line) = true := by rfl) (hs : starEach (e :: es) X.env = (false, eval e X.env) :: starEach es X.env := by rfl) (hplain : (backTo cpos (starEach es X.env)).any (·.1) = false := by rfl) (hK : X.K = K := by rfl) :
    PE X (.Call (.Attribute o name apos) (e :: es) [] cpos) (tBM K T r to t) := hK ▸ pe_bm pa slot hty hm ho ha hbase hfew hline hs hplain
end
theorem pe_revU {e : Expr} {te : TE} {k : Nat} {p1 p2 p3 pos : Pos} (he : PE X e te) (hK : X.K = K := by rfl) : PE X (.Subscript e (.Slice none none (some (.UnaryOp .USub (.Constant (.int 1) k p1) p2)) p3) pos) (tRevL K te) := hK ▸ pe_revL he
theorem x_rev {te : TE} (k : te σ H fun x H1 => RevK K x H1 Q) : tRevL K te σ H Q := k
theorem w_rev (hw : W K H0 Ms M0 H L R) (h : SqL K H p xs) (k : ∀ p H', H p = none → W K H0 Ms M0 H' ((p, .lst xs.reverse) :: L) R → Q (.ref p) H') : RevK K (.ref p) H Q :=
  ⟨p, xs, rfl, h, fun l hl => k l _ hl (hw.new hl _)⟩
end
end Fw
namespace Fw
open PySem PySem.Spec PyProof.Rows L2
section
variable {X : Cx} {σ : L2.St} {H H0 : Hp} {K : PySem.W.Frag} {Q : VK} {p q : Addr} {xs : List V} {x : V} {m : Int} {b : Bool} {T n : String}
/-! ### isinstance -/
def uIsi (K : PySem.W.Frag) : List V → Hp → VK → Prop := fun xs H Q => rIsi K xs H Q ∨ rIsiT K xs H Q
theorem call_isiU (hK : X.K = K := by rfl) : CallR X (.builtin "isinstance") (uIsi K) := hK ▸ CallR.or call_isi call_isiT
theorem x_isi (ht : TyX K H x (.type T)) (e : kitB T n = some b) (k : Q (.bl b) H) : uIsi K [x, .ty n] H Q := .inl ⟨x, .ty n, .type T, .type n, b, rfl, .ty n, ht, kit_ty e, k⟩
theorem x_isiI {i : Int} (e : kitB "int" n = some b) (k : Q (.bl b) H) : uIsi K [.int i, .ty n] H Q := x_isi (.base (.int _)) e k
theorem x_isiB {c : Bool} (e : kitB "bool" n = some b) (k : Q (.bl b) H) : uIsi K [.bl c, .ty n] H Q := x_isi (.base (.bl _)) e k
theorem x_isiS {z : Str} (e : kitB "str" n = some b) (k : Q (.bl b) H) : uIsi K [.str z, .ty n] H Q := x_isi (.base (.str _)) e k
theorem x_isiN (e : kitB "NoneType" n = some b) (k : Q (.bl b) H) : uIsi K [.non, .ty n] H Q := x_isi (.base .non) e k
theorem x_isiL (h : H p = some (.lst xs)) (e : kitB "list" n = some b) (k : Q (.bl b) H) : uIsi K [.ref p, .ty n] H Q := x_isi (.base (.lst h)) e k
theorem x_isiT (h : H p = some (.tup xs)) (e : kitB "tuple" n = some b) (k : Q (.bl b) H) : uIsi K [.ref p, .ty n] H Q := x_isi (.base (.tup h)) e k
/-! ### an item at a drawn place -/
theorem x_ixAny (h : SqL K H p xs) (h0 : 0 ≤ m) (h1 : m < xs.length) (k : ∀ v ∈ xs, Q v H) : uIx K (.ref p) (.int m) H Q := by
  have hm : m.toNat < xs.length := by omega
  have e : m = ((m.toNat : Nat) : Int) := by omega
  have q : atI xs ((m.toNat : Nat) : Int) = some xs[m.toNat] := atI_nat (List.getElem?_eq_getElem hm)
  rw [← e] at q
  exact x_ixL h q (k _ (List.getElem_mem hm))
theorem at_get {α : Type} {xs : List α} (h0 : 0 ≤ m) (h1 : m < xs.length) : atI xs m = some (xs[m.toNat]'(by omega)) := by
  have hm : m.toNat < xs.length := by omega
  have e : m = ((m.toNat : Nat) : Int) := by omega
  have q : atI xs ((m.toNat : Nat) : Int) = some xs[m.toNat] := atI_nat (List.getElem?_eq_getElem hm)
  rw [← e] at q
  exact q
theorem x_chain {r r' : R2} {ta tb tc : TE} (k : ta σ H fun x H1 => tb σ H1 fun y H2 => r x y H2 fun z H3 => ∃ k, z = .bl k ∧ (if k = true then tc σ H3 fun w' H4 => r' y w' H4 Q else Q (.bl false) H3)) : tChain r r' ta tb tc σ H Q := k
end
end Fw
namespace Fw
open PySem PySem.Spec PyProof.Rows L2
section
variable {X : Cx} {σ : L2.St} {H H0 : Hp} {K : PySem.W.Frag} {Q : VK} {p q : Addr} {xs : List V} {x : V} {m : Int} {b : Bool} {n : Nat} {Ms M0 : List Addr} {L : List (Addr × HO)} {R : List Fa}
variable {J : It} {G : Hp → Prop} {Y : Nat → Hp → V → Hp → Prop} {wi : TI} {g : TG} {tt : TT} {te : TE} {vs : List Nat} {D : Ends} {tb : TS}
/-! ### comprehensions, loops over any walk, with the state -/
def LcK (J : It) (g : TG) (tt : TT) (te : TE) (vs : List Nat) (σ : L2.St) (H1 : Hp) (Q : VK) : Prop := ∀ D, H1 D = none → ∃ W : Nat → Nat → Hp → Prop, (∃ m, W 0 m (upd H1 D (.lst []))) ∧ ∀ i m H, W i m H →
  (J.stop i H ∧ Q (.ref D) H) ∨ (J.go i H ∧ ∃ Nx : Hp → Prop, (∀ H', Nx H' → ∃ m', m' < m ∧ W (i + 1) m' H') ∧ ∀ x H', J.yld i H x H' → g x (wipe σ vs) H' fun σ2 H2 => wipe σ2 vs = wipe σ vs ∧ tt σ2 H2 fun b H3 =>
    if b = true then te σ2 H3 fun y H4 => ∃ acc, H4 D = some (.lst acc) ∧ acc.length < sizeLine ∧ Nx (upd H4 D (.lst (acc ++ [y]))) else Nx H3)
def AppK (D : Addr) (N : Hp → Prop) (y : V) (H : Hp) : Prop := ∃ acc, H D = some (.lst acc) ∧ acc.length < sizeLine ∧ N (upd H D (.lst (acc ++ [y])))
theorem x_lc (k : wi σ H fun J H1 => LcK J g tt te vs σ H1 Q) : tLc wi g tt te vs σ H Q := k
theorem w_lcK (hw : W K H0 Ms M0 H L R) (wk : Walk J n G Y) (Pv : Addr → Nat → Hp → Prop) (h0 : ∀ D H', H D = none → W K H0 Ms M0 H' ((D, .lst []) :: L) R → Pv D 0 H') (hG : ∀ D i H, i ≤ n → Pv D i H → G H)
    (hs : ∀ D i x H H', i < n → Pv D i H → Y i H x H' → g x (wipe σ vs) H' fun σ2 H2 => wipe σ2 vs = wipe σ vs ∧ tt σ2 H2 fun b H3 => if b = true then te σ2 H3 fun y H4 => AppK D (Pv D (i + 1)) y H4 else Pv D (i + 1) H3)
    (hd : ∀ D H, Pv D n H → Q (.ref D) H) : LcK J g tt te vs σ H Q := fun D hD =>
  lc_it wk (Pv D) (h0 D _ hD (hw.new hD _)) (hG D) (hs D) (hd D)
theorem w_app {N : Hp → Prop} (hw : W K H0 Ms M0 H L R) (k : Nat) (hL : L[k]? = some (p, .lst xs)) (hz : xs.length < sizeLine) (c : ∀ H', W K H0 Ms M0 H' (L.set k (p, .lst (xs ++ [x]))) R → N H') : AppK p N x H :=
  ⟨xs, hw.at k hL, hz, c _ (hw.set k hL _)⟩
theorem x_yes {QB : Bool → Hp → Prop} (k : QB true H) : tYes σ H QB := k
theorem x_wipe {B : Prop} {σ2 : L2.St} (h : wipe σ2 vs = wipe σ vs) (k : B) : wipe σ2 vs = wipe σ vs ∧ B := ⟨h, k⟩
def ForK (J : It) (g : TG) (tb : TS) (D : Ends) (σ : L2.St) (H1 : Hp) : Prop := ∃ W : Nat → Nat → L2.St → Hp → Prop, (∃ m, W 0 m σ H1) ∧ ∀ i m σ H, W i m σ H →
      (J.stop i H ∧ D.nx σ H) ∨ (J.go i H ∧ ∃ N : L2.St → Hp → Prop, (∀ σ' H', N σ' H' → ∃ m', m' < m ∧ W (i + 1) m' σ' H') ∧ ∀ x H', J.yld i H x H' → g x σ H' fun σ2 H2 => tb { D with nx := N, ct := N, bk := D.nx } σ2 H2)
theorem x_forK (k : wi σ H fun J H1 => ForK J g tb D σ H1) : tFor wi g tb D σ H := k
theorem w_for (wk : Walk J n G Y) (Pv : Nat → L2.St → Hp → Prop) (h0 : Pv 0 σ H) (hG : ∀ i σ H, i ≤ n → Pv i σ H → G H)
    (hs : ∀ i x σ H H', i < n → Pv i σ H → Y i H x H' → g x σ H' fun σ2 H2 => tb (Ends.mk (Pv (i + 1)) D.rt D.nx (Pv (i + 1))) σ2 H2) (hd : ∀ σ H, Pv n σ H → D.nx σ H) : ForK J g tb D σ H := for_it wk Pv h0 hG hs hd
theorem W.abs {F : Prop} (hw : W K H0 Ms M0 H L R) (k : ∀ L' R', L' = L → R' = R → W K H0 Ms M0 H L' R' → F) : F := k L R rfl rfl hw
/-! ### what is walked: a list, a tuple, a text -/
def ItV (K : PySem.W.Frag) (x : V) (H : Hp) (R : It → Hp → Prop) : Prop := (∃ a xs, x = .ref a ∧ SqL K H a xs ∧ R (Itl K a) H) ∨ (∃ a xs, x = .ref a ∧ SqT K H a xs ∧ R (Itt K a) H) ∨ ∃ z, x = .str z ∧ R (Its z) H
def iU (K : PySem.W.Frag) (te : TE) : TI := fun σ H R => te σ H fun x H1 => ItV K x H1 R
theorem pi_U {tg l : Expr} {tl : TE} (hl : PE X l tl) (hK : X.K = K := by rfl) : PI X tg l (iU K tl) := by
  subst hK
  refine ⟨fun pins s σ H R I h => ?_⟩
  refine thn (hl.run pins s σ H _ I h) fun v s1 ⟨x, H1, I1, r1, q1⟩ => ?_
  rcases q1 with ⟨a, xs, e, hq, q⟩ | ⟨a, xs, e, hq, q⟩ | ⟨z, e, q⟩
  · subst e
    cases r1
    obtain ⟨its, rv, p, hz⟩ := I1.list hq
    refine wpAny_pyIter_list p.isList ?_
    refine ⟨s1.heap.objs.size, [s1.heap.objs.size], _, _, H1, rfl, I1.kept (t' := s1.toks) fun b o e => Heap.get?_push_of_some _ e, turn_list a _, ⟨_, Heap.get?_push_size _ rfl, rfl, rfl⟩, fun b hb => ?_, q⟩
    have e : b = s1.heap.objs.size := by simpa using hb
    subst e
    exact I1.fpOk (Nat.le_refl _) (I1.hok.fresh (Nat.le_refl _))
  · subst e
    cases r1
    obtain ⟨its, rv, p, hz⟩ := I1.tuple hq
    refine wpAny_pyIter_tuple (show s1.heap.IsTuple a its.toArray from p) ?_
    refine ⟨s1.heap.objs.size, [s1.heap.objs.size], _, _, H1, rfl, I1.kept (t' := s1.toks) fun b o e => Heap.get?_push_of_some _ e, turn_tuple a _, ⟨_, Heap.get?_push_size _ rfl, rfl, rfl⟩, fun b hb => ?_, q⟩
    have e : b = s1.heap.objs.size := by simpa using hb
    subst e
    exact I1.fpOk (Nat.le_refl _) (I1.hok.fresh (Nat.le_refl _))
  · subst e
    obtain ⟨t, rfl⟩ := r1
    cases ha : z.cps.all (· < 128)
    · exact wpAny_pyIter_wide ha (pi_one (tk := s1.toks) I1 _ (turn_str _ z t "str_iterator" (.inr rfl)) ⟨_, Heap.get?_push_size _ rfl, rfl, rfl⟩ q)
    · exact wpAny_pyIter_ascii ha (pi_one (tk := s1.toks) I1 _ (turn_str _ z t "str_ascii_iterator" (.inl rfl)) ⟨_, Heap.get?_push_size _ rfl, rfl, rfl⟩ q)
theorem x_iU {R : It → Hp → Prop} {te : TE} (k : te σ H fun x H1 => ItV K x H1 R) : iU K te σ H R := k
theorem x_itL {R : It → Hp → Prop} (h : SqL K H p xs) (k : R (Itl K p) H) : ItV K (.ref p) H R := .inl ⟨p, xs, rfl, h, k⟩
theorem x_itT {R : It → Hp → Prop} (h : SqT K H p xs) (k : R (Itt K p) H) : ItV K (.ref p) H R := .inr (.inl ⟨p, xs, rfl, h, k⟩)
theorem x_itS {R : It → Hp → Prop} {z : Str} (k : R (Its z) H) : ItV K (.str z) H R := .inr (.inr ⟨z, rfl, k⟩)
/-! ### all of truths -/
theorem rep_bl (n : Nat) : List.replicate n (V.bl true) = (List.replicate n true).map V.bl := by rw [List.map_replicate]
theorem all_rep (n : Nat) : (List.replicate n true).all id = true := by simp
theorem x_allT (h : H p = some (.lst (List.replicate n (.bl true)))) (k : Q (.bl true) H) : rAll K [.ref p] H Q := ⟨p, List.replicate n true, rfl, by rw [← rep_bl]; exact SqL.of h, by rw [all_rep]; exact k⟩
theorem rep_snoc {α : Type} (n : Nat) (v : α) : List.replicate n v ++ [v] = List.replicate (n + 1) v := by rw [List.replicate_succ']
end
end Fw
namespace Fw
open PySem PySem.Spec PyProof.Rows L2
/-! ### == of data -/
theorem lay_ints : ∀ ns : List Int, PyData.canLayAll0 (ns.map PyData.int) = true
  | [] => by simp [PyData.canLayAll0]
  | n :: r => by simp [PyData.canLayAll0, PyData.canLay0, lay_ints r]
theorem depth_ints : ∀ ns : List Int, PyData.depthAll (ns.map PyData.int) ≤ 1
  | [] => by simp [PyData.depthAll]
  | n :: r => by have := depth_ints r; simp [PyData.depthAll, PyData.depth]; omega
theorem shaped_ints (ns : List Int) : SeqAt.shaped (.list (ns.map .int)) = true := by
  unfold SeqAt.shaped
  have h := depth_ints ns
  simp [PyData.canLay0, PyData.depth, lay_ints ns]
  omega
theorem eqv_ints : ∀ ns ms : List Int, PyData.eqvAll (ns.map PyData.int) (ms.map PyData.int) = decide (ns = ms)
  | [], [] => by simp [PyData.eqvAll]
  | [], _ :: _ => by simp [PyData.eqvAll]
  | _ :: _, [] => by simp [PyData.eqvAll]
  | n :: r, m :: t => by
    simp [PyData.eqvAll, PyData.eqv, eqv_ints r t]
    congr 1

section
variable {H : Hp} {K : PySem.W.Frag} {Q : VK} {p q : Addr} {ns ms : List Int}
theorem dp_ints (h : H p = some (.lst (ns.map V.int))) : Dp K H (.ref p) (.list (ns.map .int)) := .lst (SqL.of h) (DdAll.dp (DdAll.ints ns))
theorem x_eqIL (h1 : H p = some (.lst (ns.map V.int))) (h2 : H q = some (.lst (ms.map V.int))) (k : Q (.bl (decide (ns = ms))) H) : uEq K (.ref p) (.ref q) H Q :=
  .inr ⟨_, _, dp_ints h1, dp_ints h2, shaped_ints ns, shaped_ints ms, by rw [PyData.eqv, eqv_ints]; exact k⟩
theorem x_neIL (h1 : H p = some (.lst (ns.map V.int))) (h2 : H q = some (.lst (ms.map V.int))) (k : Q (.bl (!decide (ns = ms))) H) : uNe K (.ref p) (.ref q) H Q :=
  .inr ⟨_, _, dp_ints h1, dp_ints h2, shaped_ints ns, shaped_ints ms, by rw [PyData.eqv, eqv_ints]; exact k⟩
theorem w_sorted {H0 : Hp} {Ms M0 : List Addr} {L : List (Addr × HO)} {R : List Fa} (hw : W K H0 Ms M0 H L R) (ns : List Int) (h : SqL K H p (ns.map V.int)) (h64 : ns.length < 64) (k : ∀ (ns' : List Int) p H', ns'.Perm ns → ns'.Pairwise (· ≤ ·) → H p = none → W K H0 Ms M0 H' ((p, .lst (ns'.map V.int)) :: L) R → Q (.ref p) H') : rSorted K [.ref p] H Q :=
  ⟨p, ns, rfl, h, h64, fun ns' l h1 h2 h3 => k ns' l _ h1 h2 h3 (hw.new h3 _)⟩
end
end Fw
namespace Fw
open PySem PySem.Spec PyProof.Rows L2
section
variable {σ : L2.St} {H H0 : Hp} {K : PySem.W.Frag} {Q : VK} {p q : Addr} {xs : List V} {x : V} {Ms M0 : List Addr} {L : List (Addr × HO)} {R : List Fa} {ds es : List PyData}
/-- a new thing that a call made -/
theorem W.adopt {H' : Hp} {o : HO} (w : W K H0 Ms M0 H L R) (e : Ex [] H H') (h : H p = none) (h' : H' p = some o) : W K H0 Ms M0 H' ((p, o) :: L) R where
  ex := w.ex.trans (e.sub fun x z => nomatch z)
  al := (w.pure e).al
  nd := by
    refine List.nodup_cons.mpr ⟨fun z => ?_, w.nd⟩
    obtain ⟨q, hq, e⟩ := List.mem_map.mp z
    have := w.cell q hq
    rw [e, h] at this; cases this
  cell := fun q hq => by
    rcases List.mem_cons.mp hq with rfl | hq
    · exact h'
    · exact e.ext _ _ (w.cell q hq)
  own := fun q hq => by
    rcases List.mem_cons.mp hq with rfl | hq
    · by_cases hm : p ∈ Ms
      · exact .inl hm
      · refine .inr ⟨?_, fun z => w.al p z h⟩
        cases e : H0 p with
        | none => rfl
        | some u =>
          have := w.ex _ _ hm e
          rw [h] at this; cases this
    · exact w.own q hq
  rep := fun r hr => Fa.ext (del_ext (Mc := []) e (fun x z => nomatch z) fun x hx hn => by
    rcases List.mem_cons.mp hx with rfl | hx
    · exact h
    · exact absurd hx hn) (w.rep r hr)
/-- keep some of the facts, by their places -/
theorem W.pick {R' : List Fa} (hw : W K H0 Ms M0 H L R) (is : List Nat) (h : (is.map fun i => R[i]?) = R'.map some) : W K H0 Ms M0 H L R' := hw.sub fun r hr => by
  have h1 : some r ∈ R'.map some := List.mem_map.mpr ⟨r, hr, rfl⟩
  rw [← h] at h1
  obtain ⟨i, _, e⟩ := List.mem_map.mp h1
  exact List.mem_of_getElem? e
/-- keep some of the cells, by their places -/
theorem W.cells {L' : List (Addr × HO)} (hw : W K H0 Ms M0 H L R) (is : List Nat) (h : (is.map fun i => L[i]?) = L'.map some) (hn : is.Nodup) : W K H0 Ms M0 H L' R := by
  have hm : ∀ r ∈ L', r ∈ L := fun r hr => by
    have h1 : some r ∈ L'.map some := List.mem_map.mpr ⟨r, hr, rfl⟩
    rw [← h] at h1
    obtain ⟨i, _, e⟩ := List.mem_map.mp h1
    exact List.mem_of_getElem? e
  have hl : L'.length = is.length := by have := congrArg List.length h; simpa using this.symm
  refine ⟨hw.ex, hw.al, ?_, fun q hq => hw.cell q (hm q hq), fun q hq => hw.own q (hm q hq), fun r hr => Fa.ext (del_sub fun x hx => ?_) (hw.rep r hr)⟩
  · rw [List.nodup_iff_pairwise_ne, List.pairwise_iff_getElem]
    intro i j hi hj hij e
    rw [List.length_map] at hi hj
    have g : ∀ (k : Nat) (hk : k < L'.length), L[is[k]'(by omega)]? = some L'[k] := fun k hk => by
      have := congrArg (fun l => l[k]?) h
      simp only [List.getElem?_map, List.getElem?_eq_getElem hk, List.getElem?_eq_getElem (show k < is.length by omega), Option.map_some] at this
      exact Option.some.inj this
    have h1 : (L.map (·.1))[is[i]'(by omega)]? = some L'[i].1 := by rw [List.getElem?_map, g i hi]; rfl
    have h2 : (L.map (·.1))[is[j]'(by omega)]? = some L'[i].1 := by
      rw [List.getElem?_map, g j hj]
      rw [List.getElem_map, List.getElem_map] at e
      exact congrArg some e.symm
    have h3 := nd_ix hw.nd h1 h2
    exact absurd ((List.getElem_inj hn).mp h3) (Nat.ne_of_lt hij)
  · rcases List.mem_append.mp hx with hx | hx
    · obtain ⟨q, hq, e⟩ := List.mem_map.mp hx
      exact List.mem_append_left _ (List.mem_map.mpr ⟨q, hm q hq, e⟩)
    · exact List.mem_append_right _ hx
/-! ### displays as data -/
theorem w_lstD (hw : W K H0 Ms M0 H L R) (hd : RpAll K (av L M0) H xs ds) (h : xs.length ≤ sizeLine) (k : ∀ p H', H p = none → W K H0 Ms M0 H' L (.rp (.ref p) (.list ds) :: R) → Q (.ref p) H') : LstK xs H Q :=
  ⟨h, fun p hp => k p _ hp (hw.newLst hp hd)⟩
theorem w_tupD (hw : W K H0 Ms M0 H L R) (hd : RpAll K (av L M0) H xs ds) (h : xs.length ≤ sizeLine) (k : ∀ p H', H p = none → W K H0 Ms M0 H' L (.rp (.ref p) (.tuple ds) :: R) → Q (.ref p) H') : TupK xs H Q :=
  ⟨h, fun p hp => k p _ hp (hw.newTup hp hd)⟩
theorem w_catD (hw : W K H0 Ms M0 H L R) (h1 : Rp K (av L M0) H (.ref p) (.list ds)) (h2 : Rp K (av L M0) H (.ref q) (.list es)) (hz : ds.length + es.length ≤ sizeLine) (k : ∀ p H', H p = none → W K H0 Ms M0 H' L (.rp (.ref p) (.list (ds ++ es)) :: R) → Q (.ref p) H') : uAdd K (.ref p) (.ref q) H Q := by
  obtain ⟨xs, hx, rx⟩ := Rp.unL h1
  obtain ⟨ys, hy, ry⟩ := Rp.unL h2
  exact .inr (.inr (.inl ⟨p, q, xs, ys, rfl, rfl, hx, hy, by rw [rx.length, ry.length]; exact hz, fun l hl => k l _ hl (hw.newLst hl (rx.append ry))⟩))
/-- a list of data walked: the i-th item -/
theorem Rp.walk (h : Rp K M0 H (.ref p) (.list ds)) : ∃ xs, H p = some (.lst xs) ∧ xs.length = ds.length ∧ ∀ (i : Nat) x, xs[i]? = some x → ∃ d, ds[i]? = some d ∧ Rp K M0 H x d := by
  obtain ⟨xs, hx, rx⟩ := Rp.unL h
  refine ⟨xs, hx, rx.length, fun i x hi => ?_⟩
  have hlt : i < ds.length := by rw [← rx.length]; exact (List.getElem?_eq_some_iff.mp hi).1
  obtain ⟨v, h1, h2⟩ := rx.get (List.getElem?_eq_getElem hlt)
  rw [hi] at h1
  cases h1
  exact ⟨_, List.getElem?_eq_getElem hlt, h2⟩
theorem Rp.walkT (h : Rp K M0 H (.ref p) (.tuple ds)) : ∃ xs, SqT K H p xs ∧ xs.length = ds.length ∧ ∀ (i : Nat) x, xs[i]? = some x → ∃ d, ds[i]? = some d ∧ Rp K M0 H x d := by
  obtain ⟨xs, hx, rx⟩ := Rp.unT h
  refine ⟨xs, hx, rx.length, fun i x hi => ?_⟩
  have hlt : i < ds.length := by rw [← rx.length]; exact (List.getElem?_eq_some_iff.mp hi).1
  obtain ⟨v, h1, h2⟩ := rx.get (List.getElem?_eq_getElem hlt)
  rw [hi] at h1
  cases h1
  exact ⟨_, List.getElem?_eq_getElem hlt, h2⟩
theorem Rp.item {i : Nat} (h : Rp K M0 H (.ref p) (.list ds)) (hk : H p = some (.lst xs)) (hi : xs[i]? = some x) : ∃ d, ds[i]? = some d ∧ Rp K M0 H x d := by
  obtain ⟨ys, hy, _, hw⟩ := Rp.walk h
  rw [hk] at hy
  cases hy
  exact hw i x hi
theorem Rp.ref {ds : List PyData} (h : Rp K M0 H x (.tuple ds)) : ∃ t xs, x = .ref t ∧ SqT K H t xs ∧ RpAll K M0 H xs ds := by
  cases h with
  | tup q r => exact ⟨_, _, rfl, del_all.sqT q, r⟩
theorem RpAll.cons_inv {d : PyData} (h : RpAll K M0 H xs (d :: ds)) : ∃ v vs, xs = v :: vs ∧ Rp K M0 H v d ∧ RpAll K M0 H vs ds := by
  cases h with
  | cons a b => exact ⟨_, _, rfl, a, b⟩
theorem RpAll.nil_inv (h : RpAll K M0 H xs []) : xs = [] := by
  cases h
  rfl
theorem Rp.str_inv {z : Str} (h : Rp K M0 H x (.str z)) : x = .str z := by
  cases h
  rfl
theorem Rp.int_inv {z : Int} (h : Rp K M0 H x (.int z)) : x = .int z := by
  cases h
  rfl
theorem Rp.bool_inv {z : Bool} (h : Rp K M0 H x (.bool z)) : x = .bl z := by
  cases h
  rfl
theorem Rp.tup2 {d e : PyData} (h : Rp K M0 H x (.tuple [d, e])) : ∃ t v w, x = .ref t ∧ SqT K H t [v, w] ∧ Rp K M0 H v d ∧ Rp K M0 H w e := by
  obtain ⟨t, xs, rfl, hq, h1⟩ := Rp.ref h
  obtain ⟨v, vs, rfl, hv, h2⟩ := RpAll.cons_inv h1
  obtain ⟨w, ws, rfl, hw, h3⟩ := RpAll.cons_inv h2
  cases RpAll.nil_inv h3
  exact ⟨t, v, w, rfl, hq, hv, hw⟩
theorem Rp.tup3 {d e f : PyData} (h : Rp K M0 H x (.tuple [d, e, f])) : ∃ t v w u, x = .ref t ∧ SqT K H t [v, w, u] ∧ Rp K M0 H v d ∧ Rp K M0 H w e ∧ Rp K M0 H u f := by
  obtain ⟨t, xs, rfl, hq, h1⟩ := Rp.ref h
  obtain ⟨v, vs, rfl, hv, h2⟩ := RpAll.cons_inv h1
  obtain ⟨w, ws, rfl, hw, h3⟩ := RpAll.cons_inv h2
  obtain ⟨u, us, rfl, hu, h4⟩ := RpAll.cons_inv h3
  cases RpAll.nil_inv h4
  exact ⟨t, v, w, u, rfl, hq, hv, hw, hu⟩
end
end Fw
namespace Fw
open PySem PySem.Spec PyProof.Rows L2
section
variable {P : Program} {w : World} {K : PySem.W.Frag} {mg : Str → Option Value} {base : Heap} {CX : CXT} {k : Nat} {x qual : Str} {st : Stmt} {kws : List (Str × V)} {f : Addr} {fd : FuncData} {ps : List Str} {sp : Sp}
theorem ofD (F : FunD K x qual (defArgs st) (defBody st) (defScope st) [] kws f fd) : Fun K x qual st f fd := by
  obtain ⟨oc, od, dV, kV, doc, pm, an, cdv, ct, osl, e, lk, hcd, hD, hK⟩ := F.ex
  rcases hD with ⟨_, rfl⟩ | ⟨e, _⟩
  · exact ⟨⟨oc, od, kV, doc, pm, an, cdv, ct, osl, e, lk, hcd⟩, F.kp⟩
  · exact absurd rfl e
theorem mkFn (F : FunD K x qual (defArgs st) (defBody st) (defScope st) [] kws f fd) (gm : mg x = some (.ref f))
    (h : ∀ (kV doc pm : Value) (an : Option Addr) (cdv ct : Value) (us : List Value), us.length = ps.length → bindArgs (PySem.W.fnOf x qual (defArgs st) (defBody st) (defScope st) .none kV doc pm an cdv ct) ⟨us, []⟩ = pure (ps.zip us))
    (G : FnOk P w K mg base CX k f fd ps sp) : Fn P w K mg base CX k x ps sp := ⟨f, fd, gm, F.kp, F.bindsN h, G⟩
end
end Fw
namespace Fw
open PySem PySem.Spec PyProof.Rows L2
/-! ### own exception classes, straight under one of Python's -/
/-- Python's class B, its mro tl -/
structure Bs (x : Str) (B nI iI : String) (tl : List Value) : Prop where
  base : ExcBaseFacts B nI iI tl
  store : StoreFacts B tl "object.__setattr__" "object"
  ty : typeOf (.type B) = pure (.type "type")
  stub : Manifest.isStub B = false
  boot : bootBuiltins x = some (.type B)
  fi : ∀ K, PySem.W.findCls K (.type B) (.type "type") "__init__" = some (.val (.builtin iI))
  hi : PySem.W.handedIn (.builtin iI) = true
  nn : x ≠ "__name__"
  nd : (x == ("__debug__" : Str)) = false
/-- an own class at C, its instances' own dict and all -/
structure Own (K : PySem.W.Frag) (C : Addr) (nI : String) (tl : List Value) : Prop where
  inn : PySem.W.excInitIn K C tl nI = true
  over : PySem.W.excOver K C tl = true
  hd : PySem.W.hasDictIn K C = true
  sa : PySem.W.findIn K (.ref C) "__setattr__" = some (some (.builtin "object.__setattr__"))
  sub : PySem.W.subIn K (.ref C) (.type "BaseException") = some true
  ty : PySem.W.typeIn K (.ref C) = some (.type "type")
  kp : PySem.W.keepIn K (.ref C) = true
  ga : PySem.W.findIn K (.ref C) "__getattribute__" = some (some (.builtin "BaseException.__getattribute__"))
  gg : PySem.W.findIn K (.ref C) "__getattr__" = some none
  cl : PySem.W.findIn K (.ref C) "__class__" = some (some (.builtin "object.__class__"))
  cg : PySem.W.specialIn K (.builtin "object.__class__") "__get__" = some (some (.builtin "getset_descriptor.__get__"))
  ct : PySem.W.takesIn K (.builtin "object.__class__") = some true
  mo : PySem.W.mroIn K C (.type "object") = some true
def ownB (K : PySem.W.Frag) (C : Addr) (nI : String) (tl : List Value) : Bool :=
  PySem.W.excInitIn K C tl nI && PySem.W.excOver K C tl && PySem.W.hasDictIn K C && decide (PySem.W.findIn K (.ref C) "__setattr__" = some (some (.builtin "object.__setattr__"))) && decide (PySem.W.subIn K (.ref C) (.type "BaseException") = some true) &&
  decide (PySem.W.typeIn K (.ref C) = some (.type "type")) && PySem.W.keepIn K (.ref C) && decide (PySem.W.findIn K (.ref C) "__getattribute__" = some (some (.builtin "BaseException.__getattribute__"))) && decide (PySem.W.findIn K (.ref C) "__getattr__" = some none) &&
  decide (PySem.W.findIn K (.ref C) "__class__" = some (some (.builtin "object.__class__"))) && decide (PySem.W.specialIn K (.builtin "object.__class__") "__get__" = some (some (.builtin "getset_descriptor.__get__"))) &&
  decide (PySem.W.takesIn K (.builtin "object.__class__") = some true) && decide (PySem.W.mroIn K C (.type "object") = some true)
theorem own_of {K : PySem.W.Frag} {C : Addr} {nI : String} {tl : List Value} (h : ownB K C nI tl = true) : Own K C nI tl := by
  unfold ownB at h
  simp only [Bool.and_eq_true, decide_eq_true_eq] at h
  obtain ⟨⟨⟨⟨⟨⟨⟨⟨⟨⟨⟨⟨h1, h2⟩, h3⟩, h4⟩, h5⟩, h6⟩, h7⟩, h8⟩, h9⟩, h10⟩, h11⟩, h12⟩, h13⟩ := h
  exact ⟨h1, h2, h3, h4, h5, h6, h7, h8, h9, h10, h11, h12, h13⟩
section
variable {prog : Program} {w : World} {A : Around} {R : Result → Shared → Prop} {hp : Heap} {g : Array GenState} {d : Drawn} {t : Nat} {os : OsState} {K : PySem.W.Frag} {C : Addr} {B nI : String} {tl : List Value} {name : Str} {tk : Tok} {v : Value} {x : Addr} {fv : Array Value}
theorem noTaker (h : PySem.W.findIn K (.ref C) name = some none) : PySem.W.takerIn K C name = some none := by
  unfold PySem.W.takerIn
  rw [h]
  rfl
theorem put_first (SF : StoreFacts B tl "object.__setattr__" "object") (T : Own K C nI tl) (X : K.In hp) (hx : hp.get? x = some { cls := .ref C, data := .fields fv }) (hno : PySem.W.findIn K (.ref C) name = some none)
    (hq : ∀ h' tk' dx, (∀ b o, b ≠ x → hp.get? b = some o → h'.get? b = some o) → hp.objs.size ≤ dx → dx ≠ x → h'.get? x = some { cls := .ref C, dict := some dx, data := .fields fv } →
      h'.Ns1 dx (fun y => if y = name then some v else none) → R (.ok (.ret .none)) ⟨h', g, d, tk', os⟩) :
    codeAny (model prog w) A (.call (.builtin "object.__setattr__") ⟨[.ref x, .str name tk, v], []⟩) R ⟨hp, g, d, t, os⟩ := by
  have I : PySem.W.InstAt hp x { cls := .ref C, data := .fields fv } C none := ⟨hx, rfl, rfl, trivial⟩
  refine PySem.W.osa_openX SF X I T.over (noTaker hno) fun b => ?_
  obtain ⟨cd, hcd, hh⟩ := PySem.W.any_some T.hd
  have hcls : PySem.W.Looks (model prog w) hp (classData C) cd := PySem.W.looks_clsIn X hcd
  have hxs : x ≠ hp.objs.size := Nat.ne_of_lt (Heap.lt_size hx)
  obtain ⟨nm, bs, mro, ns, qn, hd, sn, sb, ab, col, del⟩ := cd
  dsimp only at hh
  subst hh
  show wpAny _ _ (Builtin.ObjectAttr.storeInOwnDict (.ref x) (.ref C) (.str name tk) name v b) _ _ _
  unfold Builtin.ObjectAttr.storeInOwnDict Builtin.ObjectAttr.ownDictForStores
  repeat (first | with_reducible refine PySem.HandSPX.store_in_new ?_ ?_ | with_reducible refine wpAny_loadPart_at hx ?_ | with_reducible refine hcls.at ?_ | wp_step)
  · exact ⟨_, #[], _, (Heap.get?_update_ne _ _ _ _ hxs.symm).trans (Heap.get?_push_at rfl rfl), rfl, fun e he => absurd he (by simp), fun _ => rfl⟩
  · intro h' tk' hn' hs
    refine hq h' tk' hp.objs.size (fun b o hb ho => ?_) (Nat.le_refl _) hxs.symm ?_ hn'
    · exact (hs.2 b (Nat.ne_of_lt (Heap.lt_size ho))).trans ((Heap.get?_update_ne _ _ _ _ hb).trans (Heap.get?_push_of_some _ ho))
    · exact (hs.2 x hxs).trans (Heap.get?_update_self _ (Heap.get?_push_of_some _ hx) rfl)
theorem put_more {dx : Addr} {m0 : Str → Option Value} {nl : List Str} (SF : StoreFacts B tl "object.__setattr__" "object") (T : Own K C nI tl) (X : K.In hp) (hx : hp.get? x = some { cls := .ref C, dict := some dx, data := .fields fv }) (hns : hp.Ns1 dx m0) (hw : Within m0 nl) (hz : nl.length ≤ 1000)
    (hno : PySem.W.findIn K (.ref C) name = some none)
    (hq : ∀ h' tk', (∀ b o, b ≠ dx → hp.get? b = some o → h'.get? b = some o) → h'.Ns1 dx (fun y => if y = name then some v else m0 y) → R (.ok (.ret .none)) ⟨h', g, d, tk', os⟩) :
    codeAny (model prog w) A (.call (.builtin "object.__setattr__") ⟨[.ref x, .str name tk, v], []⟩) R ⟨hp, g, d, t, os⟩ := by
  obtain ⟨oD, esD, epD, hoD, hdD, _⟩ := hns.count hw
  have I : PySem.W.InstAt hp x { cls := .ref C, dict := some dx, data := .fields fv } C (some oD) := ⟨hx, rfl, rfl, hoD⟩
  refine PySem.W.osa_openX SF X I T.over (noTaker hno) fun b => ?_
  obtain ⟨cd, hcd, hh⟩ := PySem.W.any_some T.hd
  have hcls : PySem.W.Looks (model prog w) hp (classData C) cd := PySem.W.looks_clsIn X hcd
  obtain ⟨nm, bs, mro, ns, qn, hd, sn, sb, ab, col, del⟩ := cd
  dsimp only at hh
  subst hh
  show wpAny _ _ (Builtin.ObjectAttr.storeInOwnDict (.ref x) (.ref C) (.str name tk) name v b) _ _ _
  unfold Builtin.ObjectAttr.storeInOwnDict Builtin.ObjectAttr.ownDictForStores
  repeat (first | with_reducible refine PySem.OEX.store_in_old hns hw hz ?_ | with_reducible refine wpAny_loadPart_at hx ?_ | with_reducible refine hcls.at ?_ | wp_step)
  intro h' tk' hn' hs
  exact hq h' tk' (fun b o hb ho => (hs.2 b hb).trans ho) hn'
end
section
variable {X : Cx} {pins : List (Addr × Obj)} {σ : L2.St} {H : Hp} {s : Shared} {a C dx : Addr} {f : Str} {y : V} {u : Value} {fs : List (Str × V)} {Q : Unit → Shared → Prop} {E : Value → Shared → Prop} {A : Around} {B nI iI : String} {tl : List Value}
/-- self.f = y, when the exception has no dict as yet -/
theorem field_first (SF : StoreFacts B tl "object.__setattr__" "object") (T : Own X.K C nI tl) (I : Inv X pins σ H s) (e : H a = some (exo a C none)) (hno : PySem.W.findIn X.K (.ref C) f = some none) (ry : RelV y u)
    (h : ∀ dx s', H dx = none → dx ≠ a → Inv X pins σ (upd (upd H dx (exd dx [(f, y)])) a (exo a C (some dx))) s' → Q () s') : wpAny (model X.prog X.w) A (setAttr (.ref a) f u) Q E s := by
  obtain ⟨t1, ho⟩ := exo_at I.hok e
  obtain ⟨hp, g, d, t, os⟩ := s
  refine PySem.W.set_plain I.kIn (od := none) ⟨ho, rfl, rfl, trivial⟩ T.sa ?_
  refine put_first SF T I.kIn ho hno (fun h' tk' dx k dn dne hx hn => ?_)
  have fr : H dx = none := I.hok.fresh dn
  have old : ∀ {b : Addr} {o : Obj}, hp.get? b = some o → b ≠ dx := fun {b o} q => Nat.ne_of_lt (Nat.lt_of_lt_of_le (Heap.lt_size q) dn)
  have away : ∀ {b : Addr}, H b = none → b ≠ a := fun {b} n z => nomatch (z ▸ n : H a = none).symm.trans e
  have two : ∀ {b : Addr} {o : HO}, H b = some o → exo a C none ≠ o → upd (upd H dx (exd dx [(f, y)])) a (exo a C (some dx)) b = some o := fun {b o} q ne => by
    rw [upd_ne (at_ne e q ne), upd_ne (ne_of_none q fr)]
    exact q
  refine h dx _ fr dne (I.un (t' := tk') ⟨fun b o q n _ _ => k b o (away n) q, fun b o q n _ _ => ⟨o.slots, k b o (away n) q⟩, fun b o q n _ => by rw [upd_ne (away n), upd_ne (old q)]; exact n, fun b o q _ => ?_,
    fun b xs q => two q exo_tup, fun b o v q => two q exo_frz, fun b ps q => ⟨#[], by rw [two q exo_tbl]; simp⟩⟩ fun b o q => ?_)
  · by_cases hb : b = a
    · exact ⟨_, hb ▸ hx⟩
    · exact ⟨o, k b o hb q⟩
  · by_cases hb : b = a
    · subst hb
      rw [upd_same] at q
      cases q
      exact exo_ok hx
    rw [upd_ne hb] at q
    by_cases hd : b = dx
    · subst hd
      rw [upd_same] at q
      cases q
      exact exd_ok hn (relO_put (fs := []) ry fun g => True.intro)
    rw [upd_ne hd] at q
    exact (I.hok b o q).stay (fun c v hc z => k c v (hc.elim (fun z => z ▸ hb) fun z => at_ne e z exo_own) z) (fun c hc => two hc exo_own) fun c xs hc => two hc exo_tup
/-- self.f = y, when it has one -/
theorem field_more (SF : StoreFacts B tl "object.__setattr__" "object") (T : Own X.K C nI tl) (I : Inv X pins σ H s) (e : H a = some (exo a C (some dx))) (ed : H dx = some (exd dx fs)) (hl : fs.length ≤ 900) (hno : PySem.W.findIn X.K (.ref C) f = some none) (ry : RelV y u)
    (h : ∀ s', Inv X pins σ (upd H dx (exd dx ((f, y) :: fs))) s' → Q () s') : wpAny (model X.prog X.w) A (setAttr (.ref a) f u) Q E s := by
  obtain ⟨t1, ho⟩ := exo_at I.hok e
  obtain ⟨mA, hns, rel⟩ := exd_at I.hok ed
  have hw := within_of rel
  obtain ⟨hp, g, d, t, os⟩ := s
  obtain ⟨oD, _, _, hoD, _, _⟩ := hns.count hw
  refine PySem.W.set_plain I.kIn (od := some oD) ⟨ho, rfl, rfl, hoD⟩ T.sa ?_
  refine put_more SF T I.kIn ho hns hw (by rw [List.length_map]; omega) hno (fun h' tk' k hn => ?_)
  obtain ⟨o, es, ep, e', r⟩ := id hn
  exact h _ (I.write (t' := tk') (x := dx) (e := dx) (o := exd dx ((f, y) :: fs)) (by rw [ed]; exact True.intro) (.inl rfl) k ⟨o, e'⟩ (exd_ok hn (relO_put ry rel)))
/-- B.__init__(self, ..) -/
theorem base_init {us : List Value} {Q : Value → Shared → Prop} (F : ExcBaseFacts B nI iI tl) (T : Own X.K C nI tl) (I : Inv X pins σ H s) (e : H a = some (exo a C none)) (hl : us.length ≤ sizeLine) (h : ∀ s', Inv X pins σ H s' → Q .none s') :
    wpAny (model X.prog X.w) A (call (.builtin iI) (.ref a :: us)) Q E s := by
  obtain ⟨nm, N, q, bs, bm, hd, sn, sub, ab, col, dd, k0, k1, k2, k3, k5, hC, hT⟩ := PySem.W.excInit_of I.kIn T.inn
  obtain ⟨t1, ho⟩ := exo_at I.hok e
  obtain ⟨hp, g, d, t, os⟩ := s
  refine wpAny_call (PySem.HandSPX.init_base F hT hC ho hl fun h' t2 k hx => ?_)
  have J := I.write (t' := t) (x := a) (e := a) (o := exo a C none) (by rw [e]; exact True.intro) (.inl rfl) k ⟨_, hx⟩ (exo_ok hx)
  have eu : upd H a (exo a C none) = H := funext fun b => by
    by_cases hb : b = a
    · rw [hb, upd_same, e]
    · rw [upd_ne hb]
  exact h _ (eu ▸ J)
end
/-- B.__init__(self, ..) -/
def tBI (K : PySem.W.Frag) (nI : String) (tl : List Value) (ta : TA) : TE := fun σ H Q => ta σ H fun vs H1 => ∃ (a C : Addr) (ws : List V), vs = .ref a :: ws ∧ ws.length ≤ 1000 ∧ Own K C nI tl ∧ H1 a = some (exo a C none) ∧ Q .non H1
/-- self.f = e -/
def tFld (K : PySem.W.Frag) (nI : String) (tl : List Value) (f : Str) (to te : TE) : TS := fun D σ H => te σ H fun y H1 => to σ H1 fun x H2 => ∃ a C : Addr, x = .ref a ∧ Own K C nI tl ∧ PySem.W.findIn K (.ref C) f = some none ∧
  ((H2 a = some (exo a C none) ∧ ∀ dx, H2 dx = none → dx ≠ a → D.nx σ (upd (upd H2 dx (exd dx [(f, y)])) a (exo a C (some dx)))) ∨
    ∃ (dx : Addr) (fs : List (Str × V)), H2 a = some (exo a C (some dx)) ∧ H2 dx = some (exd dx fs) ∧ fs.length ≤ 900 ∧ D.nx σ (upd H2 dx (exd dx ((f, y) :: fs))))
section
variable {X : Cx} {o e : Expr} {es : List Expr} {to te : TE} {ta : TA} {f x : Str} {p p' p1 p2 pos : Pos} {B nI iI : String} {tl : List Value}
theorem pe_binit {pl : Sem Bool} (F : Bs x B nI iI tl) (hg : Gl X x) (hm : X.mg x = none) (ha : PA X (e :: es) ta)
    (hc : eval (.Call (.Attribute (.Name x p1) "__init__" p2) (e :: es) [] pos) X.env = (do
      let ov ← eval (.Name x p1) X.env
      standAt p2.atName
      let (f, first) ← holding [ov] (getMethod ov "__init__" pl)
      callWith pos f first (backTo pos (starEach (e :: es) X.env)) (backToKw pos (keywordEach [] X.env))) := by rfl)
    (he : starEach (e :: es) X.env = (false, eval e X.env) :: starEach es X.env := by rfl) (hpl : (backTo pos (starEach es X.env)).any (·.1) = false := by rfl) :
    PE X (.Call (.Attribute (.Name x p1) "__init__" p2) (e :: es) [] pos) (tBI X.K nI tl ta) := by
  refine ⟨fun pins s σ H Q I h => ?_⟩
  refine PySem.W.methodCall_KW (ld_blt I hg hm F.boot ?_ F.nn F.nd) hc
  obtain ⟨m, fr⟩ := I.fr
  refine PySem.W.method_type fr I.ok.mod.kin F.ty F.stub (F.fi _) F.hi ?_
  show wpAny _ _ (callWith pos (Value.builtin iI) [] (backTo pos (starEach (e :: es) X.env)) []) _ _ _
  refine PyProof.Rows.callWith_method1 (thn (ha.run pos pins _ σ H _ (I.tok _) h) fun us s1 ⟨vs, H1, I1, r1, a, C, ws, ev, hl, T, ea, q⟩ => ?_) he hpl
  subst ev
  cases r1 with
  | @cons _ u0 _ ur ra rw' =>
    obtain rfl : u0 = Value.ref a := ra
    exact base_init F.base T I1 ea (by rw [← Paired.length rw', sizeLine_eq]; omega) fun s' J => ⟨.non, H1, J, rfl, q⟩
theorem ps_fld (F : Bs x B nI iI tl) (ho : PE X o to) (he : PE X e te) (hs : swapsWith e (some (.Attribute o f p')) pos.line X.env = pure false := by rfl) : PS X (.Assign [.Attribute o f p'] e pos) (tFld X.K nI tl f to te) := by
  refine ⟨fun pins s σ H D I h => ?_⟩
  refine plainObj_wpAny_Assign_Attribute (thn (he.run pins s σ H _ I h) fun v s1 ⟨y, H1, I1, r1, q1⟩ => thn (ho.run pins s1 σ H1 _ I1 q1) fun u s2 ⟨x, H2, I2, r2, a, C, ex, T, hno, q⟩ => ?_) hs
  subst ex
  obtain rfl : u = Value.ref a := r2
  rcases q with ⟨ea, q⟩ | ⟨dx, fs, ea, ed, hl, q⟩
  · exact field_first F.store T I2 ea hno r1 fun dx s' n ne J => ⟨σ, _, J, q dx n ne⟩
  · exact field_more F.store T I2 ea ed hl hno r1 fun s' J => ⟨σ, _, J, q⟩
/-- C(e, ..), C's own __init__ keeping sp -/
theorem pmk_own {CX : CXT} {C fI : Addr} {k j : Nat} {fd : FuncData} {ps : List Str} {sp : Sp} (F : ExcBaseFacts B nI iI tl) (T : Own X.K C nI tl) (iC : PySem.W.findIn X.K (.ref C) "__init__" = some (some (.ref fI))) (tI : PySem.W.typeIn X.K (.ref fI) = some (.type "function"))
    (F1 : FnOk X.prog X.w X.K X.mg X.base CX k fI fd ps sp) (hr : Room j X.A) (hk : k + 1 ≤ j) (hb : Binds X.K fd ps []) (hx : Passes CX X (fun _ _ _ => False)) (hg : Gl X x) (hm : X.mg x = some (.ref C)) (ha : PA X (e :: es) ta)
    (hdb : (x == ("__debug__" : Str)) = false := by decide) (he : starEach (e :: es) X.env = (false, eval e X.env) :: starEach es X.env := by rfl) (hpl : (backTo pos (starEach es X.env)).any (·.1) = false := by rfl) :
    PMk X (.Call (.Name x p) (e :: es) [] pos) (tMkO C sp [] ta) := by
  intro pins s σ H Q I h
  refine wpAny_Call_Name_kw (ld_glob I hg hm ?_ hdb)
  refine PySem.W.callWith_K (h₀ := X.base) I.ok.mod.kin T.kp (thn (ha.run pos pins s σ H _ I h) fun us s1 ⟨vs, H1, I1, r1, hz, q1⟩ => ⟨I1.kIn, ?_⟩) he hpl
  show wpAny _ _ (call (.ref C) us) _ _ _
  obtain ⟨nm, N, q, bs, bm, hd, sn, sub, ab, col, dd, k0, k1, k2, k3, k5, hC, hT⟩ := PySem.W.excInit_of I1.kIn T.inn
  obtain ⟨hp, g, dr, tk, os⟩ := s1
  have hsz : hp.objs.size ≤ hp.objs.size + 1 := Nat.le_succ _
  have hq := q1 (hp.objs.size + 1) (I1.hok.fresh hsz)
  rw [List.append_nil] at hq
  have kk : ∀ b o, hp.get? b = some o → ((hp.push (PySem.W.kdv_tup us)).push (PySem.HandSPX.excO C hp.objs.size)).get? b = some o := fun b o e => Heap.get?_push_of_some _ (Heap.get?_push_of_some _ e)
  have hget : ((hp.push (PySem.W.kdv_tup us)).push (PySem.HandSPX.excO C hp.objs.size)).get? (hp.objs.size + 1) = some (PySem.HandSPX.excO C hp.objs.size) := by heap_get
  have I2 := I1.laid (t' := tk) (a := hp.objs.size + 1) (o := exo (hp.objs.size + 1) C none) kk hsz (exo_ok hget)
  have r2 : Vals (V.ref (hp.objs.size + 1) :: vs) (Value.ref (hp.objs.size + 1) :: us) := .cons rfl r1
  have hl : (Value.ref (hp.objs.size + 1) :: us).length = ps.length := r2.length.symm.trans (F1.len _ _ _ _ hq)
  have hus : us.length ≤ sizeLine := by rw [← Paired.length r1, sizeLine_eq]; omega
  have bd := hb ⟨(hp.push (PySem.W.kdv_tup us)).push (PySem.HandSPX.excO C hp.objs.size), g, dr, tk, os⟩ (Value.ref (hp.objs.size + 1) :: us) I2.kIn (by rw [List.append_nil]; exact hl)
  rw [List.append_nil] at bd
  refine wpAny_call (PySem.HandSPX.call_own F hT hC (PySem.W.looks_findIn I1.kIn iC) (fun self => PySem.W.bind_fn I1.kIn self tI) hus
    (codeAny_mono (F1.run _ X.stack _ _ ⟨Value.ref (hp.objs.size + 1) :: us, []⟩ _ _ _ (fun _ _ _ => False) ((hr.mono hk).make C us []) (I2.env0.make C us []) bd r2 hq) fun r s' hq' => ?_))
  cases r with
  | error er => exact hx pins σ _ _ er s' I2 hq'
  | ok fl =>
    cases fl with
    | ret u =>
      obtain ⟨v, H2, os2, bare2, un2, hok2, rv, ev, d, fs, ea, ed, hd1, q2⟩ := hq'
      subst ev
      obtain ⟨h2, g2, d2, t2, os'⟩ := s'
      exact ⟨rv, mk_end (raises_own T.sub T.ty) I1 hsz kk un2 hok2 os2 bare2 ea ed hd1 q2⟩
    | next => exact False.elim hq'
    | brk => exact False.elim hq'
    | cont => exact False.elim hq'
end
theorem bs_ValueError : Bs "ValueError" "ValueError" "ValueError.__new__" "ValueError.__init__" [.type "ValueError", .type "Exception", .type "BaseException", .type "object"] :=
  ⟨PySem.F.excBase_ValueError, PySem.F.store_ValueError, by kernel_rfl, by decide +kernel, by decide +kernel, fun K => by kernel_rfl, by decide +kernel, by decide, by decide⟩
end Fw
namespace Fw
open PySem PySem.Spec PyProof.Rows L2
/-! ### a caught exception that is kept -/
/-- a caught exception of the class cls at a, its dict at d -/
def exk (a : Addr) (cls : Value) (d : Option Addr) : HO := .ext fun h => ∃ (oe : Obj) (vs : Array Value), h.get? a = some oe ∧ Zc cls d oe ∧ oe.data = .fields vs
theorem exk_ok {P : Program} {w : World} {H : Hp} {h : Heap} {a : Addr} {cls : Value} {d : Option Addr} {oe : Obj} {vs : Array Value} (e : h.get? a = some oe) (z : Zc cls d oe) (f : oe.data = .fields vs) : ObjOk P w H h a (exk a cls d) :=
  ⟨⟨oe, vs, e, z, f⟩, ⟨oe, e⟩, fun _ _ ⟨o, v, q, r⟩ k => ⟨o, v, k o q, r⟩⟩
theorem exk_at {P : Program} {w : World} {H : Hp} {h : Heap} {a : Addr} {cls : Value} {d : Option Addr} (hok : HOk P w H h) (e : H a = some (exk a cls d)) : ∃ (oe : Obj) (vs : Array Value), h.get? a = some oe ∧ Zc cls d oe ∧ oe.data = .fields vs := by
  have x : ObjOk P w H h a (.ext fun h => ∃ (oe : Obj) (vs : Array Value), h.get? a = some oe ∧ Zc cls d oe ∧ oe.data = .fields vs) := hok a _ e
  exact x.1
section
variable {X : Cx} {pins : List (Addr × Obj)} {σ : L2.St} {H : Hp} {s : Shared}
/-- an object that wasn't there at the entry and isn't one of the frame's may be looked after from here on -/
theorem inv_track {a : Addr} {o : HO} (I : Inv X pins σ H s) (ha : H a = none) (ok : ObjOk X.prog X.w (upd H a o) s.heap a o) (n0 : X.s_0.heap.get? a = none) (nL : X.env.locals ≠ a) (nC : ∀ x c, X.env.cells.lookup x = some c → c ≠ a)
    (nP : ∀ p ∈ X.pn ++ pins, p.1 ≠ a) : Inv X pins σ (upd H a o) s := by
  have ne0 : ∀ {b : Addr} {u : Obj}, X.s_0.heap.get? b = some u → b ≠ a := fun {b u} e z => nomatch (z ▸ e : X.s_0.heap.get? a = some u).symm.trans n0
  have same : ∀ {b : Addr} {u : HO}, H b = some u → upd H a o b = some u := fun {b u} e => (upd_ne (ne_of_none e ha)).trans e
  refine ⟨I.ok, I.os, I.bare, ⟨I.base.keep, I.base.slot, fun b u e n x => (upd_ne (ne0 e)).trans (I.base.free b u e n x), I.base.there, fun b xs e => same (I.base.tups b xs e), fun b u v e => same (I.base.frzs b u v e), fun b ps e => ?_⟩,
    I.loc, I.cell, (upd_ne nL).trans I.free, fun x c e => (upd_ne (nC x c e)).trans (I.freeC x c e), fun p hp => ?_, fun b u e => ?_, I.len⟩
  · obtain ⟨m, q⟩ := I.base.tbls b ps e
    exact ⟨m, same q⟩
  · obtain ⟨h1, h2, h3⟩ := I.pin p hp
    exact ⟨h1, (upd_ne (nP p hp)).trans h2, h3⟩
  · by_cases hb : b = a
    · subst hb
      rw [upd_same] at e
      cases e
      exact ok
    · rw [upd_ne hb] at e
      exact (I.hok b u e).stay (fun _ _ _ q => q) (fun c q => same q) fun c xs q => same q
theorem inv_suite0 (I : Inv X pins σ H s) (a : Addr) : Inv (X.suite a (X.pn ++ pins)) [] σ H s :=
  ⟨I.ok.suite _ _, I.os, I.bare, I.base, I.loc, I.cell, I.free, I.freeC, fun p hp => I.pin p (by rw [List.append_nil] at hp; exact hp), I.hok, I.len⟩
theorem inv_unsuite0 {a : Addr} {pn' : List (Addr × Obj)} (I : Inv (X.suite a (X.pn ++ pins)) pn' σ H s) (ok : X.Ok) : Inv X pins σ H s :=
  ⟨ok, I.os, I.bare, I.base, I.loc, I.cell, I.free, I.freeC, fun p hp => I.pin p (List.mem_append_left _ hp), I.hok, I.len⟩
end
/-- what 'except x as n' wishes, the exception looked after from there on -/
def wKeep (K : PySem.W.Frag) (c : Value) (i : Nat) (ts : Addr → TS) (Wout : WX) (D : Ends) : WX := fun cls d σ H =>
  ∃ b, PySem.W.exmOne K cls c = some b ∧ (b = true → ∀ a, H a = none → ts a { nx := fun σ' H' => D.nx (σ'.set i none) H', rt := D.rt, bk := fun σ' H' => D.bk (σ'.set i none) H', ct := fun σ' H' => D.ct (σ'.set i none) H' } (σ.set i (some (.ref a))) (upd H a (exk a cls d))) ∧
    (b = false → Wout cls d σ H)
section
variable {X : Cx} {x n : Str} {c : Value} {i : Nat} {body suite : List Stmt} {b₀ : Stmt} {np pos pos' : Pos} {tb : WX → TS} {ts : Addr → TS} {Wout : WX}
theorem ps_try_keep {K : PySem.W.Frag} (hK : X.K = K) (hs : X.stack = X.env :: X.outer) (hf : X.env.frame = some X.env.locals) (hex : X.ex = []) (hN : X.N.Nodup) (hi : X.N[i]? = some n) (hln : X.env.kindOf n = some .local) (hc : Names X x c) (tk : Takes X Wout)
    (hb : ∀ (W : WX) (pn : List (Addr × Obj)) (xe : Value → Shared → Prop), Takes (X.tr pn xe) W → PassesOwn (model X.prog X.w) X.A X.env xe → PSs (X.tr pn xe) body (tb W))
    (hsu : ∀ (a : Addr) (pn : List (Addr × Obj)), PSs (X.suite a pn) (b₀ :: suite) (ts a)) :
    PS X (.Try body [.ExceptHandler (some (.Name x np)) (some n) (b₀ :: suite) pos'] [] [] pos) (fun D σ H => tb (wKeep K c i ts Wout D) D σ H) := by
  subst hK
  refine ⟨fun pins s σ H D I h => ?_⟩
  have ok := I.ok
  have hfr : X.A.frames = some (X.env :: X.outer) := ok.frames.trans (congrArg some hs)
  refine wpAny_Try_except (wpAny_mono ((hb (wKeep X.K c i ts Wout D) (X.pn ++ pins) (fun e s₁ => wpAny (model X.prog X.w) X.A (noteFrame e X.env) (fun _ s₂ => wpAny (model X.prog X.w) X.A (setFlight e none) (fun _ s₃ =>
    wpAny (model X.prog X.w) X.A (handleBy e X.env [.ExceptHandler (some (.Name x np)) (some n) (b₀ :: suite) pos']) (SP X pins D) X.xe s₃) X.xe s₂) X.xe s₁) (fun u s' xx => ?caught) PassesOwn.looking).run [] s σ H D (I.toTry _) h) (fun f s1 hsp => ?thru) (fun e s1 he => he))
  case thru =>
    cases f with
    | next =>
      obtain ⟨σ', H', J', q⟩ := hsp
      exact wpAny_execs_nil ⟨σ', H', J'.ofTry ok, q⟩
    | brk =>
      obtain ⟨σ', H', J', q⟩ := hsp
      exact ⟨σ', H', J'.ofTry ok, q⟩
    | cont =>
      obtain ⟨σ', H', J', q⟩ := hsp
      exact ⟨σ', H', J'.ofTry ok, q⟩
    | ret u =>
      obtain ⟨v, σ', H', J', r, q⟩ := hsp
      exact ⟨v, σ', H', J'.ofTry ok, r, q⟩
  case caught =>
    obtain ⟨a, B, sI, pins', σ', H', cls, d, rfl, J', nb, up, sky, na, os, ag, b, hb1, hyes, hno⟩ := xx
    have J : Inv X pins σ' H' sI := J'.ofTry ok
    rw [show (X.tr (X.pn ++ pins) _).stack = X.env :: X.outer from hs] at sky
    show wpAny (model X.prog X.w) X.A (noteFrame (.ref a) X.env) _ _ _
    refine Sky.land Zc.steady hfr hf sky fun h3 fl3 up3 => ?_
    have J3 : Inv X pins σ' H' { s' with heap := h3 } := J.landed nb fl3.1 (up.trans up3) os ag
    obtain ⟨oe3, vs3, he3, hz3, hd3⟩ := fl3.there
    have nfr : a ∉ frs X.stack := fun hm => by
      rw [hs] at hm
      obtain ⟨_, o', e', hnf⟩ := fl3.2.2.1.mem hm
      rw [he3] at e'
      cases e'
      exact hnf _ hd3
    have gone : sI.heap.get? a = none := by
      cases e : sI.heap.get? a with
      | none => rfl
      | some o => exact nomatch (nb a o e nfr).symm.trans fl3.2.1
    have lives : ∀ {b : Addr} {o : Obj}, sI.heap.get? b = some o → b ≠ a := fun {b o} e z => nomatch (z ▸ e : sI.heap.get? a = some o).symm.trans gone
    have n0 : X.s_0.heap.get? a = none := by
      cases e : X.s_0.heap.get? a with
      | none => rfl
      | some o =>
        obtain ⟨o', q⟩ := J.base.there a o e (by rw [hex]; exact fun z => nomatch z)
        exact absurd rfl (lives q)
    have nL : X.env.locals ≠ a := by
      obtain ⟨m, ⟨o, es, ep, q, _⟩, _⟩ := J.loc
      exact lives q
    have nC : ∀ x c, X.env.cells.lookup x = some c → c ≠ a := fun x c e => by
      obtain ⟨v, o, q, _⟩ := J.cell x c e
      exact lives q
    have nP : ∀ p ∈ X.pn ++ pins, p.1 ≠ a := fun p hp => lives (J.pin p hp).1
    have S3 := inv_suite0 J3 a
    refine wpAny_handleBy_cons (codeAny_handlers_test ?_) (by intro q; cases q)
    have LT : PySem.W.Looks (model X.prog X.w) h3 (typeOf (.ref a)) cls := fun A Q E s k q => wpAny_typeOf_ref (k _ _ he3) (by rw [hz3.1]; exact q)
    have LM := PySem.W.exm_one (M := model X.prog X.w) J3.kIn LT hb1
    have test : ∀ {Q : Value → Shared → Prop} {E : Value → Shared → Prop}, Q c { s' with heap := h3 } → wpAny (model X.prog X.w) (X.A.mark (some (.ref a))) (eval (.Name x np) X.env) Q E { s' with heap := h3 } := fun {Q E} q => by
      obtain ⟨hg, hdbg, hm | ⟨hm, hv, hnn⟩⟩ := hc
      · exact ld_glob (X := X.suite a (X.pn ++ pins)) S3 hg hm q hdbg
      · exact ld_blt (X := X.suite a (X.pn ++ pins)) S3 hg hm hv q hnn hdbg
    refine test (LM.here ?_)
    cases b with
    | false =>
      show wpAny _ X.A (handleBy (.ref a) X.env []) _ _ _
      refine wpAny_handleBy_nil ?_
      obtain ⟨_, _, _, oe, vs, T, oT, ts', he, hz, hd, h1, hr⟩ := id fl3
      unfold PySem.passOn
      refine wpAny_bind (wpAny_field he hd h1 ?_)
      rw [if_neg (show ¬ ((Value.ref T == Value.none) = true) from by simp)]
      have fin : wpAny (model X.prog X.w) X.A (setFlight (.ref a) X.env.frame) (fun _ s4 => wpAny (model X.prog X.w) X.A (throw (.ref a) : Sem Flow) (SP X pins D) X.xe s4) X.xe { s' with heap := h3 } := by
        rw [hf]
        refine HandSPX.setFlight_upZ fl3 fun h4 hh4 up4 => wpAny_throw (tk _ _ ?_)
        exact ⟨a, B, sI, pins, σ', H', cls, d, rfl, J, nb, (up.trans up3).trans up4, .inr (.inr (by rw [hs]; exact hh4)), na, os, ag, hno rfl⟩
      first
        | exact wpAny_bind (wpAny_pure (wpAny_bind fin))
        | exact wpAny_bind fin
    | true =>
      refine codeAny_handlers_suite_as (HandSPX.lands_againZ fl3 fun h4 fl4 up4 => ?_)
      obtain ⟨oe4, vs4, he4, hz4, hd4⟩ := fl4.there
      have J4 : Inv X pins σ' H' { s' with heap := h4 } := J.landed nb fl4.1 ((up.trans up3).trans up4) os ag
      have S4 := inv_suite0 (inv_track J4 na (exk_ok (H := upd H' a (exk a cls d)) he4 hz4 hd4) n0 nL nC nP) a
      refine store_ok (X := X.suite a (X.pn ++ pins)) (v := .ref a) S4 hN hi (.inl hln) rfl (fun s5 S5 => ?_) (.inr hln)
      refine wpAny_mono ((hsu a (X.pn ++ pins)).run [] s5 _ _ _ S5 (hyes rfl a na)) (fun f s6 hsp => ?_) (fun _ _ z => False.elim z)
      have fin : ∀ {σ6 : L2.St} {H6 : Hp} {Q : Shared → Prop}, Inv (X.suite a (X.pn ++ pins)) [] σ6 H6 s6 → (∀ s7, Inv X pins (σ6.set i none) H6 s7 → Q s7) →
          wpAny (model X.prog X.w) X.A (do bindName X.env n .none; unbindBehindTheSuite X.env n pos') (fun _ s7 => Q s7) X.xe s6 := fun {σ6 H6 Q} S6 hq => gone_ok (inv_unsuite0 S6 ok) hN hi hln hq
      cases f with
      | next =>
        obtain ⟨σ6, H6, S6, q6⟩ := hsp
        exact fin S6 fun s7 J7 => ⟨_, _, J7, q6⟩
      | brk =>
        obtain ⟨σ6, H6, S6, q6⟩ := hsp
        exact fin S6 fun s7 J7 => ⟨_, _, J7, q6⟩
      | cont =>
        obtain ⟨σ6, H6, S6, q6⟩ := hsp
        exact fin S6 fun s7 J7 => ⟨_, _, J7, q6⟩
      | ret u =>
        obtain ⟨v6, σ6, H6, S6, r6, q6⟩ := hsp
        exact fin S6 fun s7 J7 => ⟨_, _, _, J7, r6, q6⟩
end
/-! ### its fields -/
def tFldOf (K : PySem.W.Frag) (f : Str) (te : TE) : TE := fun σ H Q => te σ H fun x H1 => ∃ (a C dd : Addr) (nI : String) (tl : List Value) (fs : List (Str × V)) (v : V), x = .ref a ∧ H1 a = some (exk a (.ref C) (some dd)) ∧ H1 dd = some (.xd fs) ∧ Own K C nI tl ∧
  PySem.W.findIn K (.ref C) f = some none ∧ fs.lookup f = some v ∧ Q v H1
theorem pe_fldOf {X : Cx} {K : PySem.W.Frag} {e : Expr} {te : TE} {pos : Pos} {n : Str} (he : PE X e te) (hK : X.K = K := by rfl) (hb : attributeBase e n X.env (eval e X.env) = eval e X.env := by rfl) : PE X (.Attribute e n pos) (tFldOf K n te) := by
  subst hK
  refine ⟨fun pins s σ H Q I h => ?_⟩
  refine attr_of hb (thn (he.run pins s σ H _ I h) fun u s1 hh => ?_)
  obtain ⟨x, H1, I1, rx, a, C, dd, nI, tl, fs, v, rfl, ea, ed, T, hno, l, q⟩ := hh
  obtain rfl : u = Value.ref a := rx
  obtain ⟨oe, vs, ha, hz, hd⟩ := exk_at I1.hok ea
  have hx : ObjOk X.prog X.w H1 s1.heap dd (.xd fs) := I1.hok dd _ ed
  obtain ⟨mA, hns, hr⟩ := hx
  obtain ⟨od, ho, hl⟩ := lookIn_ns hns
  obtain ⟨u, hu, ru⟩ := RelO.some_of (v := v) (o := mA n) (by rw [← l]; exact hr n)
  have J : PySem.W.InstAt s1.heap a oe C (some od) := ⟨ha, hz.1, by unfold PySem.W.notCls; rw [hd] <;> rfl, by rw [hz.2]; exact ho⟩
  exact HandSPX.exc_get I1.kIn J T.ga T.gg T.sub (PySem.W.findObj_own T.hd hno rfl (by rw [hl, hu])) (handed_of ru) ⟨v, H1, I1.tok _, ru, q⟩
end Fw
namespace Fw
open PySem PySem.Spec PyProof.Rows L2
section
open PySem.W
variable {prog : Program} {w : World} {A : Around} {E : Value → Shared → Prop} {s : Shared} {K : PySem.W.Frag} {x D : Addr} {ox : Obj} {od : Option Obj} {nI : String} {tl : List Value}
/-- x.__class__, x an exception of an own class, with or without a dict -/
theorem cls_exc {Q : Option Value → Shared → Prop} (T : Own K D nI tl) (X : K.In s.heap) (I : PySem.W.InstAt s.heap x ox D od) (h : Q (some (.ref D)) { s with toks := s.toks + 1 }) : wpAny (model prog w) A (getAttr? (.ref x) "__class__") Q E s := by
  have hf : findObj K D od "__class__" = some (.bind (.builtin "getset_descriptor.__get__") (.builtin "object.__class__")) := by
    obtain ⟨cd, hc, _⟩ := any_some T.hd
    unfold findObj
    rw [hc, Option.bind_some, T.cl, Option.bind_some]
    simp [T.cg, T.ct]
  obtain ⟨hp, g, d, t, os⟩ := s
  have ty := I.type (M := model prog w)
  have own := looks_findIn (M := model prog w) X T.ga
  have hook := looks_findIn (M := model prog w) X T.gg
  have fnd := looks_find (M := model prog w) X I hf
  have sub : Looks (model prog w) hp (isInstance (.ref x) (.type "BaseException")) true := ty.andThen (looks_subIn X T.sub)
  have n2 : (Value.builtin "BaseException.__getattribute__" == Value.builtin "object.__getattribute__") = false := by decide +kernel
  have n1 : (onTheHeap (Value.ref D) && Value.builtin "BaseException.__getattribute__" == Value.builtin "object.__getattribute__") = false := by rw [n2]; rfl
  unfold getAttr? getAttrBy? getAttrBy
  refine wpAny_bind (wpAny_mkText (wpAny_bind (wpAny_attempt (wpAny_holding (wpAny_bind (ty.at (wpAny_bind (own.at ?_))))))))
  show wpAny _ _ (if (onTheHeap (Value.ref D) && Value.builtin "BaseException.__getattribute__" == Value.builtin "object.__getattribute__") = true then _ else _) _ _ _
  rw [n1, if_neg Bool.false_ne_true]
  unfold getAttrByItsOwn hookBefore
  refine wpAny_bind ?_
  rw [if_pos (show onTheHeap (Value.ref D) = true from rfl)]
  refine hook.at (wpAny_bind (wpAny_attempt (wpAny_holding ?_)))
  unfold callGetattribute
  rw [if_neg (show ¬ ((false && onTheHeap (Value.builtin "BaseException.__getattribute__")) = true) from by decide +kernel)]
  unfold boundAndCalled
  rw [PySem.F.excAttr_ValueError.ga.bind (.ref x)]
  refine wpAny_bind (wpAny_pure ?_)
  show wpAny _ _ (call (.builtin "BaseException.__getattribute__") [.ref x, .str "__class__" t]) _ _ _
  refine wpAny_call (codeAny_call_builtin PySem.F.excAttr_ValueError.ga.plain PySem.F.entry_bexc_ga ?_)
  refine @check_slot (model prog w) _ _ ⟨hp, g, d, t + 1, os⟩ "BaseException.__getattribute__" "BaseException" "__getattribute__" (.ref x) [.str "__class__" t] [] _ (by decide +kernel) (by decide +kernel) sub (PySem.F.args_bexc_ga (.ref x) (.str "__class__" t)) ?_
  unfold Builtin.«object.__getattribute__»
  refine wpAny_bind (wpAny_of_eq (a := ((Value.ref x : Value), [Value.str "__class__" t])) (by first | rfl | (simp only [slotArgs]; rfl)) ?_)
  refine wpAny_bind (wpAny_pure (wpAny_bind (ty.at (wpAny_bind (fnd.at ?_)))))
  show wpAny _ _ (holding [Value.builtin "object.__class__"] (call (.builtin "getset_descriptor.__get__") [.builtin "object.__class__", .ref x, .ref D]) >>= ret) _ _ _
  refine wpAny_bind (wpAny_holding (wpAny_call (class_get (s := ⟨hp, g, d, t + 1, os⟩) (ox := ox) (od := od) X I T.mo ?_)))
  refine wpAny_pure ?_
  show wpAny _ _ (handedOut (.ref D)) _ _ _
  rw [handedOut_of (v := .ref D) rfl]
  first
    | exact wpAny_pure (wpAny_pure h)
    | exact wpAny_pure h
    | exact wpAny_pure (wpAny_bind (wpAny_pure (wpAny_pure h)))
theorem kit_exc (T : Own K D nI tl) : KitX K (.ref x) (.ref D) (fun h => PySem.W.InstAt h x ox D od) := by
  obtain ⟨cd, hc, _⟩ := any_some T.hd
  have at' : ∀ {h : Heap}, K.In h → ∃ (c : Value) (d' : Option Addr) (cd' : ClassData) (sl : Array (Option Value)), h.get? D = some ⟨c, d', .cls cd', sl⟩ := fun {h} X => by
    unfold clsIn at hc
    split at hc
    · rename_i c' d' cd' sl' ho
      exact ⟨_, _, _, _, X _ _ ho⟩
    · cases hc
  refine ⟨fun _ _ _ I => I.type, fun _ h X _ => ?_, fun h tp dd its n sl X htp => ?_, fun X I k => cls_exc T X I k⟩
  · obtain ⟨c', d', cd', sl', ho⟩ := at' X
    intro A' Q' E' s' k q
    unfold isType loadHead
    exact wpAny_bind (wpAny_loadPart (k _ _ ho) (wpAny_pure q))
  · obtain ⟨c', d', cd', sl', ho⟩ := at' X
    refine Bool.eq_false_iff.mpr fun q => ?_
    have e : D = tp := Value.ref.inj (beq_iff_eq.mp q)
    subst e
    exact nomatch ho.symm.trans htp
end
/-- isinstance(e, c), isinstance(e, (c1, ..)), e a kept exception -/
def uIsX (K : PySem.W.Frag) : List V → Hp → VK → Prop := fun xs H Q => ∃ (a C dd : Addr) (nI : String) (tl : List Value) (fs : List (Str × V)) (b : Bool), H a = some (exk a (.ref C) (some dd)) ∧ H dd = some (.xd fs) ∧ Own K C nI tl ∧ Q (.bl b) H ∧
  ((∃ (c : V) (u : Value), xs = [.ref a, c] ∧ ClsV c u ∧ PySem.W.kitOne K (.ref C) u = some b) ∨ ∃ (tp : Addr) (cs : List V) (us : List Value), xs = [.ref a, .ref tp] ∧ H tp = some (.tup cs) ∧ Paired ClsV cs us ∧ PySem.W.kitAny K (.ref C) us = some b)
theorem call_isX {X : Cx} {K : PySem.W.Frag} (hK : X.K = K := by rfl) : CallR X (.builtin "isinstance") (uIsX K) := by
  subst hK
  intro pins s σ H xs us Q I r h
  obtain ⟨a, C, dd, nI, tl, fs, b, ea, ed, T, q, h⟩ := h
  obtain ⟨oe, vs, ha, hz, hd⟩ := exk_at I.hok ea
  have hx : ObjOk X.prog X.w H s.heap dd (.xd fs) := I.hok dd _ ed
  obtain ⟨mA, hns, hr⟩ := hx
  obtain ⟨od, ho, hl⟩ := lookIn_ns hns
  have J : PySem.W.InstAt s.heap a oe C (some od) := ⟨ha, hz.1, by unfold PySem.W.notCls; rw [hd] <;> rfl, by rw [hz.2]; exact ho⟩
  rcases h with ⟨c, u, rfl, k, e⟩ | ⟨tp, cs, ws, rfl, hT, k, e⟩
  · obtain ⟨u1, u2, rfl, r1, r2⟩ := vals2 r
    obtain rfl : u1 = Value.ref a := r1
    have e2 := k.eq r2
    subst e2
    exact PySem.W.kia_one (kit_exc T) I.kIn J e (fun z => nomatch z) fun tk => ⟨.bl b, H, I.tok tk, rfl, q⟩
  · obtain ⟨u1, u2, rfl, r1, r2⟩ := vals2 r
    obtain rfl : u1 = Value.ref a := r1
    cases (show u2 = Value.ref tp from r2)
    obtain ⟨_, its, rv, o, h1, h2, n, h3⟩ := (show ObjOk X.prog X.w H s.heap tp (.tup cs) from I.hok tp _ hT)
    have e3 := ClsV.all k rv
    subst e3
    obtain ⟨oc, od', dt, sl⟩ := o
    simp only at h2 h3
    subst h2 h3
    exact PySem.W.kia_tup (kit_exc T) I.kIn J h1 e (fun z => nomatch z) fun tk => ⟨.bl b, H, I.tok tk, rfl, q⟩
theorem x_isX1 {K : PySem.W.Frag} {H : Hp} {Q : VK} {a C dd : Addr} {nI : String} {tl : List Value} {fs : List (Str × V)} {b : Bool} {n : String} (T : Own K C nI tl) (ea : H a = some (exk a (.ref C) (some dd))) (ed : H dd = some (.xd fs))
    (e : PySem.W.kitOne K (.ref C) (.type n) = some b) (q : Q (.bl b) H) : uIsX K [.ref a, .ty n] H Q := ⟨a, C, dd, nI, tl, fs, b, ea, ed, T, q, .inl ⟨_, _, rfl, .ty n, e⟩⟩
theorem x_isXT {K : PySem.W.Frag} {H : Hp} {Q : VK} {a C dd tp : Addr} {nI : String} {tl : List Value} {fs : List (Str × V)} {b : Bool} {cs : List V} {us : List Value} (T : Own K C nI tl) (ea : H a = some (exk a (.ref C) (some dd))) (ed : H dd = some (.xd fs))
    (hT : H tp = some (.tup cs)) (k : Paired ClsV cs us) (e : PySem.W.kitAny K (.ref C) us = some b) (q : Q (.bl b) H) : uIsX K [.ref a, .ref tp] H Q := ⟨a, C, dd, nI, tl, fs, b, ea, ed, T, q, .inr ⟨tp, cs, us, rfl, hT, k, e⟩⟩
/-! ### calls that may raise, at the slots -/
def tCallNS (n m : Nat) (sp : Sp) (gV : List V → List V → List V) (W : WX) (t tk : TA) : TE := fun σ H Q => t σ H fun vs H1 => tk σ H1 fun zs H2 => vs.length = n ∧ zs.length = m ∧ sp (gV vs zs) H2 Q (WE W σ)
section
variable {X : Cx} {k j n : Nat} {ks ps : List Str} {gV : List V → List V → List V} {sp : Sp} {W : WX} {x : Str} {p pos : Pos} {e : Expr} {es : List Expr} {kws : List Keyword} {t tk : TA}
theorem pe_fnNS (tks : Takes X W) (F : FnN X.prog X.w X.K X.mg X.base (L2.CX X.prog X.w) k x n ks gV sp) (hr : Room j X.A) (hk : k ≤ j) (hg : Gl X x) (ha : PA X (e :: es) t) (hkw : PK X kws tk) (hall : (backToKw pos (keywordEach kws X.env)).all (·.1.isSome) = true := by rfl) (hks : (backToKw pos (keywordEach kws X.env)).filterMap (·.1) = ks := by rfl)
    (hdb : (x == ("__debug__" : Str)) = false := by decide) (he : starEach (e :: es) X.env = (false, eval e X.env) :: starEach es X.env := by rfl)
    (hpl : ((backTo pos (starEach (e :: es) X.env)).any (·.1) || (backToKw pos (keywordEach kws X.env)).any (·.1.isNone)) = false := by rfl) :
    PE X (.Call (.Name x p) (e :: es) kws pos) (tCallNS n ks.length sp gV W t tk) := by
  obtain ⟨f, fd, ps, g, hm, hkp, hb, F⟩ := F.ex
  refine ⟨fun pins s σ H Q I h => wpAny_Call_Name_kw (ld_glob I hg hm ?_ hdb)⟩
  refine PySem.W.callWith_KW (h₀ := X.base) I.ok.mod.kin hkp hall (thn (ha.run pos pins s σ H _ I h) fun us s1 ⟨vs, H1, I1, r, q⟩ => ?_) hpl he
  refine thn (hkw.run pos pins s1 σ H1 _ I1 q) fun ws s2 ⟨zs, H2, I2, rz, l1, l2, q2⟩ => ⟨I2.kIn, ?_⟩
  rw [hks]
  refine wpAny_call (codeAny_mono (F.run X.A X.stack s2 H2 ⟨us, ks.zip ws⟩ (g us ws) (gV vs zs) Q (WE W σ) (hr.mono hk) I2.env0 (hb.to s2 us ws I2.kIn (r.length.symm.trans l1) (rz.length.symm.trans l2)) (hb.rel r rz) q2) fun r s' hq => ?_)
  cases r with
  | error er => exact passAt tks σ pins H2 s2 er s' I2 hq
  | ok fl =>
    cases fl with
    | ret u => exact I2.after hq
    | next => exact hq.elim
    | brk => exact hq.elim
    | cont => exact hq.elim
theorem pe_fnS (tks : Takes X W) (F : Fn X.prog X.w X.K X.mg X.base (L2.CX X.prog X.w) k x ps sp) (hr : Room j X.A) (hk : k ≤ j) (hg : Gl X x) (ha : PA X (e :: es) t) (hdb : (x == ("__debug__" : Str)) = false := by decide)
    (he : starEach (e :: es) X.env = (false, eval e X.env) :: starEach es X.env := by rfl) (hpl : (backTo pos (starEach es X.env)).any (·.1) = false := by rfl) : PE X (.Call (.Name x p) (e :: es) [] pos) (tCallS sp (WE W) t) := by
  obtain ⟨f, fd, hm, hkp, hb, F⟩ := F.ex
  exact pe_callS F (hr.mono hk) hg hm hkp hb (passAt tks) ha hdb he hpl
end
end Fw
namespace Fw
open PySem PySem.Spec PyProof.Rows L2
/-! ### defs that may raise -/
section
variable {P : Program} {w : World} {K : PySem.W.Frag} {mg : Str → Option Value} {base : Heap}
theorem okSX {x qual : Str} {st : Stmt} {f : Addr} {fd : FuncData} {N ps : List Str} {k : Nat} {sp : Sp} (F : Fun K x qual st f fd) (S : FnScope N ps (defScope st)) (len : ∀ vs H Q E, sp vs H Q E → vs.length = ps.length)
    (hbody : ∀ (cdv : Value) (A : Around) (outer : List Env) (s : Shared) (H : Hp) (vs : List V) (Q : VK) (E : XK), Room k (A.deeper (envOfC qual (defScope st) s.heap.objs.size f cdv)) → sp vs H Q E →
      ∃ t σ, PSs (cxOf (L2.CX P w) P w K mg base N qual (defScope st) f cdv A outer s H E) (defBody st) t ∧ L2.start N vs = σ ∧ t { nx := fun _ H' => Q .non H', rt := Q } σ H) : FnOk P w K mg base (L2.CX P w) (k + 1) f fd ps sp := by
  refine F.okX S len fun cdv A outer s H vs Q E hr h => ?_
  obtain ⟨t, σ, h1, rfl, h2⟩ := hbody cdv A outer s H vs Q E hr h
  exact ⟨t, h1, h2⟩
theorem okDX {x qual : Str} {st : Stmt} {dvs : List V} {kws : List (Str × V)} {f : Addr} {fd : FuncData} {N ps : List Str} {k : Nat} {sp : Sp} (F : FunD K x qual (defArgs st) (defBody st) (defScope st) dvs kws f fd) (S : FnScope N ps (defScope st)) (len : ∀ vs H Q E, sp vs H Q E → vs.length = ps.length)
    (hbody : ∀ (cdv : Value) (A : Around) (outer : List Env) (s : Shared) (H : Hp) (vs : List V) (Q : VK) (E : XK), Room k (A.deeper (envOfC qual (defScope st) s.heap.objs.size f cdv)) → sp vs H Q E →
      ∃ t σ, PSs (cxOf (L2.CX P w) P w K mg base N qual (defScope st) f cdv A outer s H E) (defBody st) t ∧ L2.start N vs = σ ∧ t { nx := fun _ H' => Q .non H', rt := Q } σ H) : FnOk P w K mg base (L2.CX P w) (k + 1) f fd ps sp := by
  refine F.ok S len fun cdv A outer s H vs Q E hr h => ?_
  obtain ⟨t, σ, h1, rfl, h2⟩ := hbody cdv A outer s H vs Q E hr h
  exact ⟨t, h1, h2⟩
end
/-- what leaves a def -/
theorem takesE {P : Program} {w : World} {K : PySem.W.Frag} {mg : Str → Option Value} {base : Heap} {N : List Str} {qual : Str} {sc : Scope} {f : Addr} {cdv : Value} {A : Around} {outer : List Env} {s : Shared} {H : Hp} {E : XK} :
    Takes (cxOf (L2.CX P w) P w K mg base N qual sc f cdv A outer s H E) (fun cls d _ H' => E cls d H') := takes_of rfl rfl rfl rfl
/-! ### steps -/
section
variable {σ : L2.St} {H : Hp} {Q : VK} {D : Ends} {t tk ta : TA} {to te : TE} {sp : Sp} {gV : List V → List V → List V} {W : WX} {n m : Nat} {K : PySem.W.Frag} {nI : String} {tl : List Value} {f : Str}
theorem x_callNS (q : t σ H fun vs H1 => tk σ H1 fun zs H2 => vs.length = n ∧ zs.length = m ∧ sp (gV vs zs) H2 Q (WE W σ)) : tCallNS n m sp gV W t tk σ H Q := q
theorem x_callS {E : L2.St → XK} (q : t σ H fun vs H1 => sp vs H1 Q (E σ)) : tCallS sp E t σ H Q := q
theorem x_fldOf (q : te σ H fun x H1 => ∃ (a C dd : Addr) (nI : String) (tl : List Value) (fs : List (Str × V)) (v : V), x = .ref a ∧ H1 a = some (exk a (.ref C) (some dd)) ∧ H1 dd = some (.xd fs) ∧ Own K C nI tl ∧
  PySem.W.findIn K (.ref C) f = some none ∧ fs.lookup f = some v ∧ Q v H1) : tFldOf K f te σ H Q := q
theorem x_fldE {x : V} {a C dd : Addr} {fs : List (Str × V)} {v : V} (T : Own K C nI tl) (ea : H a = some (exk a (.ref C) (some dd))) (ed : H dd = some (.xd fs)) (hf : PySem.W.findIn K (.ref C) f = some none) (hl : fs.lookup f = some v) (q : Q v H) :
    ∃ (a' C dd : Addr) (nI : String) (tl : List Value) (fs : List (Str × V)) (v : V), V.ref a = .ref a' ∧ H a' = some (exk a' (.ref C) (some dd)) ∧ H dd = some (.xd fs) ∧ Own K C nI tl ∧ PySem.W.findIn K (.ref C) f = some none ∧ fs.lookup f = some v ∧ Q v H :=
  ⟨a, C, dd, nI, tl, fs, v, rfl, ea, ed, T, hf, hl, q⟩
theorem x_mkO {C : Addr} {dvs : List V} {Q : XK} (q : ta σ H fun vs H1 => vs.length ≤ 1000 ∧ ∀ a, H1 a = none → sp (.ref a :: (vs ++ dvs)) (upd H1 a (exo a C none))
    (fun v H2 => v = .non ∧ ∃ (d : Addr) (fs : List (Str × V)), H2 a = some (exo a C (some d)) ∧ H2 d = some (exd d fs) ∧ H1 d = none ∧ Q (.ref C) (some d) (upd (L2.del H2 a) d (.xd fs))) (fun _ _ _ => False)) : tMkO C sp dvs ta σ H Q := q
/-! ### __init__ -/
def spInit1 (C : Addr) (f : Str) : Sp := fun vs H Q _ => ∃ (a : Addr) (v : V), vs = [.ref a, v] ∧ H a = some (exo a C none) ∧ ∀ d, H d = none → d ≠ a → Q .non (upd (upd H d (exd d [(f, v)])) a (exo a C (some d)))
def spInit2 (C : Addr) (f g : Str) : Sp := fun vs H Q _ => ∃ (a : Addr) (v w : V), vs = [.ref a, v, w] ∧ H a = some (exo a C none) ∧ ∀ d, H d = none → d ≠ a → Q .non (upd (upd (upd H d (exd d [(f, v)])) a (exo a C (some d))) d (exd d [(g, w), (f, v)]))
theorem x_bI {Q : VK} (q : ta σ H fun vs H1 => ∃ (a C : Addr) (ws : List V), vs = .ref a :: ws ∧ ws.length ≤ 1000 ∧ Own K C nI tl ∧ H1 a = some (exo a C none) ∧ Q .non H1) : tBI K nI tl ta σ H Q := q
/-- the body of an __init__ of one field -/
theorem init1 {C a : Addr} {v x0 : V} (T : Own K C nI tl) (hf : PySem.W.findIn K (.ref C) f = some none) (ea : H a = some (exo a C none)) {Q : VK}
    (q : ∀ d, H d = none → d ≠ a → Q .non (upd (upd H d (exd d [(f, v)])) a (exo a C (some d)))) :
    tSeq (tDrop (tBI K nI tl (tCons (tVar 0) (tCons (tC x0) tNil)))) (tFld K nI tl f (tVar 0) (tVar 1)) { nx := fun _ H' => Q .non H', rt := Q } [some (.ref a), some v] H :=
  ⟨.ref a, rfl, a, C, [x0], rfl, by simp, T, ea, v, rfl, .ref a, rfl, a, C, rfl, T, hf, .inl ⟨ea, q⟩⟩
theorem init2 {C a : Addr} {v w x0 : V} {g : Str} (T : Own K C nI tl) (hf : PySem.W.findIn K (.ref C) f = some none) (hg : PySem.W.findIn K (.ref C) g = some none) (ea : H a = some (exo a C none)) {Q : VK}
    (q : ∀ d, H d = none → d ≠ a → Q .non (upd (upd (upd H d (exd d [(f, v)])) a (exo a C (some d))) d (exd d [(g, w), (f, v)]))) :
    tSeq (tDrop (tBI K nI tl (tCons (tVar 0) (tCons (tC x0) tNil)))) (tSeq (tFld K nI tl f (tVar 0) (tVar 1)) (tFld K nI tl g (tVar 0) (tVar 2))) { nx := fun _ H' => Q .non H', rt := Q } [some (.ref a), some v, some w] H :=
  ⟨.ref a, rfl, a, C, [x0], rfl, by simp, T, ea, v, rfl, .ref a, rfl, a, C, rfl, T, hf, .inl ⟨ea, fun d hd hne => ⟨w, rfl, .ref a, rfl, a, C, rfl, T, hg, .inr ⟨d, _, upd_same, (upd_ne hne).trans upd_same, by simp, q d hd hne⟩⟩⟩⟩
end
section
variable {H1 : Hp} {C : Addr} {f g : Str} {v w : V} {Q : XK}
theorem hp_ext {H H' : Hp} (h : ∀ b, H b = H' b) : H = H' := funext h
/-- C(v) made: what is left of it is its dict -/
theorem x_mk1 (q : ∀ d, H1 d = none → Q (.ref C) (some d) (upd H1 d (.xd [(f, v)]))) : ([v] : List V).length ≤ 1000 ∧ ∀ a, H1 a = none → spInit1 C f (.ref a :: ([v] ++ [])) (upd H1 a (exo a C none))
    (fun v H2 => v = .non ∧ ∃ (d : Addr) (fs : List (Str × V)), H2 a = some (exo a C (some d)) ∧ H2 d = some (exd d fs) ∧ H1 d = none ∧ Q (.ref C) (some d) (upd (L2.del H2 a) d (.xd fs))) (fun _ _ _ => False) := by
  refine ⟨by simp, fun a ha => ⟨a, v, rfl, upd_same, fun d hd hne => ⟨rfl, d, _, upd_same, (upd_ne hne).trans upd_same, ?_, ?_⟩⟩⟩
  · rw [upd_ne hne] at hd
    exact hd
  · rw [upd_ne hne] at hd
    have e : upd (L2.del (upd (upd (upd H1 a (exo a C none)) d (exd d [(f, v)])) a (exo a C (some d))) a) d (.xd [(f, v)]) = upd H1 d (.xd [(f, v)]) := by
      refine hp_ext fun b => ?_
      by_cases h1 : b = d
      · rw [h1, upd_same, upd_same]
      · rw [upd_ne h1, upd_ne h1]
        by_cases h2 : b = a
        · rw [h2, L2.del_same, ha]
        · rw [L2.del_ne h2, upd_ne h2, upd_ne h1, upd_ne h2]
    rw [e]
    exact q d hd
theorem x_mk2 (q : ∀ d, H1 d = none → Q (.ref C) (some d) (upd H1 d (.xd [(g, w), (f, v)]))) : ([v, w] : List V).length ≤ 1000 ∧ ∀ a, H1 a = none → spInit2 C f g (.ref a :: ([v, w] ++ [])) (upd H1 a (exo a C none))
    (fun v H2 => v = .non ∧ ∃ (d : Addr) (fs : List (Str × V)), H2 a = some (exo a C (some d)) ∧ H2 d = some (exd d fs) ∧ H1 d = none ∧ Q (.ref C) (some d) (upd (L2.del H2 a) d (.xd fs))) (fun _ _ _ => False) := by
  refine ⟨by simp, fun a ha => ⟨a, v, w, rfl, upd_same, fun d hd hne => ⟨rfl, d, _, (upd_ne (Ne.symm hne)).trans upd_same, upd_same, ?_, ?_⟩⟩⟩
  · rw [upd_ne hne] at hd
    exact hd
  · rw [upd_ne hne] at hd
    have e : upd (L2.del (upd (upd (upd (upd H1 a (exo a C none)) d (exd d [(f, v)])) a (exo a C (some d))) d (exd d [(g, w), (f, v)])) a) d (.xd [(g, w), (f, v)]) = upd H1 d (.xd [(g, w), (f, v)]) := by
      refine hp_ext fun b => ?_
      by_cases h1 : b = d
      · rw [h1, upd_same, upd_same]
      · rw [upd_ne h1, upd_ne h1]
        by_cases h2 : b = a
        · rw [h2, L2.del_same, ha]
        · rw [L2.del_ne h2, upd_ne h1, upd_ne h2, upd_ne h1, upd_ne h2]
    rw [e]
    exact q d hd
end
end Fw
namespace Law
open PySem PySem.Spec PyProof.Rows L2 Fw
def topS (i : Nat) : Stmt := PySem.Challenge.pw_threereckons_k03_reckoned_under_a_cap.main.body.getD i (.Pass ⟨0, 0, 0, 0⟩)
structure Blt (mg : Str → Option Value) : Prop where
  len : mg "len" = none
  abs : mg "abs" = none
  int' : mg "int" = none
  list : mg "list" = none
  range : mg "range" = none
  enumerate : mg "enumerate" = none
/-! ### the draws -/
structure Bx (a s c : Int) : Prop where
  a0 : 0 ≤ a
  s0 : 0 ≤ s
  s1 : s < 2 ^ 62
  c0 : 0 ≤ c
abbrev box (a s c : Int) : HO := .lst [.int a, .int s, .int c]
abbrev s_law_take : Stmt := topS 24
theorem sc_law_take : FnScope ["_law_box", "_law_many", "_law_found", "_law_once", "_law_twice"] ["_law_box", "_law_many"] (defScope s_law_take) := ⟨rfl, rfl, rfl, by decide +kernel, rfl, by decide +kernel, by decide +kernel⟩

def spTake : Sp := fun vs H Q _ => ∃ (b : Addr) (a s c m : Int), vs = [.ref b, .int m] ∧ H b = some (box a s c) ∧ Bx a s c ∧ c < 2 ^ 40 ∧ 0 < m ∧ m < 2 ^ 30 ∧
  ∀ r a' c' H', 0 ≤ r → r < m → Bx a' s c' → c' ≤ c + 1 → Ex [b] H H' → H' b = some (box a' s c') → Q (.int r) H'
section
variable {P : Program} {w : World} {K : PySem.W.Frag} {mg : Str → Option Value} {base : Heap}
theorem ok_take {f : Addr} {fd : FuncData} {k : Nat} (F : Fun K "_law_take" "_law_take" s_law_take f fd) (B : Blt mg) : FnOk P w K mg base CX0 (k + 1) f fd ["_law_box", "_law_many"] spTake := by
  refine okS F sc_law_take (fun vs H Q E h => ?_) (fun cdv A outer s H0 vs Q E hr h => ?_)
  · obtain ⟨b, a, s, c, m, rfl, _⟩ := h
    rfl
  obtain ⟨b, a, s, c, m, rfl, hb, bx, hc, h0, h1, q⟩ := h
  have hA := bx.a0
  have hS := bx.s0
  have hS1 := bx.s1
  have hC := bx.c0
  have hw : W K H0 [b] [] H0 [(b, box a s c)] [] := W.start1 hb (fun _ z => nomatch z) (fun _ z => nomatch z)
  refine ⟨_, [some (.ref b), some (.int m), none, none, none], (pss_cons (ps_if (pt_cmpR (op_gt) (pe_ix (ix_U (K := K)) (pv 0) pe_int (fun _ _ => rfl)) pe_int (nomark _)) (pss_cons (ps_set (i := 2) sc_law_take.nd rfl (Or.inl rfl) (pe_op op_mod (pe_ix (ix_U (K := K)) (pv 0) pe_int (fun _ _ => rfl)) (pv 1)))
  (pss_cons (ps_asg (pe_op op_fdiv (pe_ix (ix_U (K := K)) (pv 0) pe_int (fun _ _ => rfl)) (pv 1)) (pg_sub (pv 0) pe_int set_list))
  (pss_one (ps_ret (pv 2))))) pss_nil)
  (pss_cons (ps_asg (pe_op (op_addU (K := K)) (pe_ix (ix_U (K := K)) (pv 0) pe_int (fun _ _ => rfl)) pe_int) (pg_sub (pv 0) pe_int set_list))
  (pss_cons (ps_set (i := 3) sc_law_take.nd rfl (Or.inl rfl) (pe_op op_mod (pe_op op_pow (pe_op (op_addU (K := K)) (pe_ix (ix_U (K := K)) (pv 0) pe_int (fun _ _ => rfl)) (pe_op (op_mulU (K := K)) pe_int (pe_ix (ix_U (K := K)) (pv 0) pe_int (fun _ _ => rfl)))) pe_int) pe_int))
  (pss_cons (ps_set (i := 4) sc_law_take.nd rfl (Or.inl rfl) (pe_op op_mod (pe_op (op_mulU (K := K)) (pe_op (op_addU (K := K)) (pe_op (op_addU (K := K)) (pv 3) (pe_ix (ix_U (K := K)) (pv 0) pe_int (fun _ _ => rfl))) (pe_op op_fdiv (pe_ix (ix_U (K := K)) (pv 0) pe_int (fun _ _ => rfl)) pe_int)) (pe_op (op_addU (K := K)) (pe_op (op_addU (K := K)) (pe_op op_mod (pv 3) pe_int) pe_int) (pe_ix (ix_U (K := K)) (pv 0) pe_int (fun _ _ => rfl)))) pe_int))
  (pss_one (ps_ret (pe_op op_mod (pe_op op_fdiv (pe_op op_mod (pe_op (op_addU (K := K)) (pe_op (op_mulU (K := K)) (pv 4) pe_int) (pv 3)) pe_int) pe_int) (pv 1)))))))), rfl, ?_⟩
  walk_at "sx"
  refine x_ifd (fun c1 => ?_) (fun c1 => ?_)
  · walk_at "sx"
    exact q _ _ _ _ (Int.emod_nonneg _ (by omega)) (Int.emod_lt_of_pos _ h0) ⟨Int.ediv_nonneg hA (by omega), hS, hS1, hC⟩ (by omega) hw.ex (hw.at 0 rfl)
  · walk_at "sx"
    exact q _ _ _ _ (Int.emod_nonneg _ (by omega)) (Int.emod_lt_of_pos _ h0) ⟨hA, hS, hS1, by omega⟩ (by omega) hw.ex (hw.at 0 rfl)
end
theorem x_take {K : PySem.W.Frag} {H0 H : Hp} {Ms M0 : List Addr} {L : List (Addr × HO)} {R : List Fa} {b : Addr} {a s c m : Int} {Q : VK} {E : XK} (hw : W K H0 Ms M0 H L R) (n : Nat) (hL : L[n]? = some (b, box a s c)) (bx : Bx a s c) (hc : c < 2 ^ 40) (h0 : 0 < m) (h1 : m < 2 ^ 30)
    (q : ∀ r a' c' H', 0 ≤ r → r < m → Bx a' s c' → c' ≤ c + 1 → W K H0 Ms M0 H' (L.set n (b, box a' s c')) R → Q (.int r) H') : spTake ([.ref b, .int m] ++ []) H Q E :=
  ⟨b, a, s, c, m, rfl, hw.at n hL, bx, hc, h0, h1, fun r a' c' H' r0 r1 bx' c1 e hb => q r a' c' H' r0 r1 bx' c1 (hw.call n hL e hb)⟩
abbrev s_law_dip : Stmt := topS 23
theorem sc_law_dip : FnScope ["_law_script", "_law_k", "_law_cell"] ["_law_script", "_law_k"] (defScope s_law_dip) := ⟨rfl, rfl, rfl, by decide +kernel, rfl, by decide +kernel, by decide +kernel⟩

/-- a new box of a list's k-th number -/
def spDip (K : PySem.W.Frag) : Sp := fun vs H Q _ => ∃ (M : List Addr) (a : Addr) (ns : List Int) (k : Int), vs = [.ref a, .int k] ∧ Al M H ∧ Rp K M H (.ref a) (.list (ns.map .int)) ∧ 0 ≤ k ∧ k ≤ 1000 ∧
  ∀ x y p H', Bx x y 0 → H p = none → Ex [] H H' → H' p = some (box x y 0) → Q (.ref p) H'
theorem at_ints {ns : List Int} {k : Int} (h0 : 0 ≤ k) (h1 : k < ns.length) : atI (ns.map V.int) k = some (.int (ns[k.toNat]'(by omega))) := by
  have e : k = ((k.toNat : Nat) : Int) := by omega
  have q : atI (ns.map V.int) ((k.toNat : Nat) : Int) = some (.int (ns[k.toNat]'(by omega))) := atI_nat (by rw [List.getElem?_map, List.getElem?_eq_getElem (by omega)]; rfl)
  rw [← e] at q
  exact q
theorem mul_nn {x : Int} (b : Bool) (h : 0 ≤ x) : 0 ≤ x * (if b then 1 else 0) := by
  cases b
  · simp
  · simp; exact h
section
variable {P : Program} {w : World} {K : PySem.W.Frag} {mg : Str → Option Value} {base : Heap}
theorem ok_dip {f : Addr} {fd : FuncData} {k : Nat} (F : Fun K "_law_dip" "_law_dip" s_law_dip f fd) (B : Blt mg) : FnOk P w K mg base CX0 (k + 1) f fd ["_law_script", "_law_k"] (spDip K) := by
  refine okS F sc_law_dip (fun vs H Q E h => ?_) (fun cdv A outer s H0 vs Q E hr h => ?_)
  · obtain ⟨M, a, ns, k, rfl, _⟩ := h
    rfl
  obtain ⟨M, a, ns, k, rfl, hM, hb, h0, h1, q⟩ := h
  have hw : W K H0 [] M H0 [] [.rp (.ref a) (.list (ns.map .int))] := W.start0 hM (fun r z => by rw [List.mem_singleton.mp z]; exact hb)
  refine ⟨_, [some (.ref a), some (.int k), none], (pss_cons (ps_set (i := 2) sc_law_dip.nd rfl (Or.inl rfl) (pe_ifExp (pt_cmpR (op_lt) (pv 1) (pe_callB (call_lenU (K := K)) (by rfl) B.len (by decide +kernel) (pa_cons (pv 0) pa_nil)) (nomark _)) (pe_ix (ix_U (K := K)) (pv 0) (pv 1) (fun _ _ => rfl)) pe_int))
  (pss_one (ps_ret (pe_lst (pa_cons (pe_op (op_mulU (K := K)) (pe_callB call_absU (by rfl) B.abs (by decide +kernel) (pa_cons (pv 2) pa_nil)) (pe_callTy call_intU (by rfl) B.int' (by decide +kernel) (pa_cons (pe_cmpR (op_ge) (pe_callB call_absU (by rfl) B.abs (by decide +kernel) (pa_cons (pv 2) pa_nil)) (pe_powc (z := 1000000000000000000) ⟨by decide, by decide, by decide⟩ (by rfl)) (nomark _)) pa_nil))) (pa_cons (pe_op (op_addU (K := K)) (pe_op (op_addU (K := K)) (pe_op op_mod (pv 2) pe_int) (pe_op (op_mulU (K := K)) pe_int (pv 1))) pe_int) (pa_cons pe_int pa_nil))))))), rfl, ?_⟩
  walk_at "sx"
  refine x_ifd (fun c1 => ?_) (fun c1 => ?_)
  · rw [List.length_map] at c1
    refine x_op (x_var rfl (x_var rfl (x_ixL (SqL.of hb.ints) (at_ints h0 c1) ?_)))
    generalize ns[k.toNat]'_ = n
    walk_at "sx"
    exact q _ _ p H ⟨mul_nn _ (by split <;> omega), by omega, by omega, by omega⟩ hp hw.ex (hw.at 0 rfl)
  · walk_at "sx"
    exact q _ _ p H ⟨mul_nn _ (by split <;> omega), by omega, by omega, by omega⟩ hp hw.ex (hw.at 0 rfl)
end
abbrev s_law_folded : Stmt := topS 25
theorem sc_law_folded : FnScope ["_law_script", "_law_size", "_law_cells", "_law_k", "_law_cell"] ["_law_script", "_law_size"] (defScope s_law_folded) := ⟨rfl, rfl, rfl, by decide +kernel, rfl, by decide +kernel, by decide +kernel⟩

/-- a new list of numbers, at most z of them, one at least where there is one -/
def spFolded (K : PySem.W.Frag) : Sp := fun vs H Q _ => ∃ (a : Addr) (ns : List Int) (z : Nat), vs = [.ref a, .int (z : Int)] ∧ SqL K H a (ns.map V.int) ∧ 0 < z ∧ z ≤ 1000 ∧ ns.length ≤ 1000 ∧
  ∀ (ms : List Int) p H', ms.length = min z ns.length → H p = none → Ex [] H H' → H' p = some (.lst (ms.map V.int)) → Q (.ref p) H'
theorem cut_to {xs : List V} (z : Nat) : cutV xs none (some (z : Int)) = xs.take z := by
  unfold cutV
  rw [HT.sIx_none, HT.sIx_nat, List.drop_zero, Nat.sub_zero]
  by_cases h : z ≤ xs.length
  · rw [Nat.min_eq_left h]
  · rw [Nat.min_eq_right (by omega), List.take_length, List.take_of_length_le (by omega)]
theorem cut_from {xs : List V} (z : Nat) (u : Option Int) (h : xs.length ≤ z) : cutV xs (some (z : Int)) u = [] := by
  unfold cutV
  rw [HT.sIx_nat, Nat.min_eq_right h, List.drop_length, List.take_nil]
theorem cut_mem {ns : List Int} {lo hi : Option Int} {i : Nat} {x : V} (h : (cutV (ns.map V.int) lo hi)[i]? = some x) : ∃ n, x = .int n := by
  have h1 : x ∈ ns.map V.int := List.mem_of_mem_drop (List.mem_of_mem_take (List.mem_of_getElem? h))
  obtain ⟨n, _, e⟩ := List.mem_map.mp h1
  exact ⟨n, e.symm⟩
section
variable {P : Program} {w : World} {K : PySem.W.Frag} {mg : Str → Option Value} {base : Heap}
theorem ok_folded {f : Addr} {fd : FuncData} {k : Nat} (F : Fun K "_law_folded" "_law_folded" s_law_folded f fd) (B : Blt mg) : FnOk P w K mg base CX0 (k + 1) f fd ["_law_script", "_law_size"] (spFolded K) := by
  refine okS F sc_law_folded (fun vs H Q E h => ?_) (fun cdv A outer s H0 vs Q E hr h => ?_)
  · obtain ⟨a, ns, z, rfl, _⟩ := h
    rfl
  obtain ⟨a, ns, z, rfl, hb, z0, z1, hn, q⟩ := h
  have hw : W K H0 [] [] H0 [] [] := W.start0 (fun _ z => nomatch z) (fun _ z => nomatch z)
  refine ⟨_, [some (.ref a), some (.int z), none, none, none], (pss_cons (ps_set (i := 2) sc_law_folded.nd rfl (Or.inl rfl) (pe_callTy (call_listU (K := K)) (by rfl) B.list (by decide +kernel) (pa_cons (pe_slice (sl_U (K := K)) (pv 0) po_none (po_some (pv 1))) pa_nil)))
  (pss_cons (ps_for PassesOwn.never rfl (pi_En (K := K) (by rfl) B.enumerate (pa_cons (pe_slice (sl_U (K := K)) (pv 0) (po_some (pv 1)) (po_some pe_int)) pa_nil)) (pg_T (K := K) (n := 2) rfl (pgs_cons (pg_name (i := 3) sc_law_folded.nd rfl (Or.inl rfl)) (pgs_cons (pg_name (i := 4) sc_law_folded.nd rfl (Or.inl rfl)) pgs_nil))) (pss_one (ps_asg (pe_op (op_addU (K := K)) (pe_ix (ix_U (K := K)) (pv 2) (pe_op op_mod (pv 3) (pv 1)) (fun _ _ => rfl)) (pe_op (op_mulU (K := K)) (pv 4) (pe_op (op_addU (K := K)) (pv 3) pe_int))) (pg_sub (pv 2) (pe_op op_mod (pv 3) (pv 1)) set_list))))
  (pss_one (ps_ret (pv 2))))), rfl, ?_⟩
  walk_at "sx"
  rename_i p2 _ _ _ p1 _ _ _
  refine w_for (walk_enum (xs := cutV (ns.map V.int) (some z) (some 63))) (fun i σ H' => ∃ (ms : List Int) (y3 y4 : Option V), σ = [some (.ref a), some (.int z), some (.ref p1), y3, y4] ∧ ms.length = min z ns.length ∧
    W K H0 [] [] H' [(p, .lst (cutV (ns.map V.int) (some z) (some 63))), (p1, .lst (ms.map V.int)), (p2, .lst (cutV (ns.map V.int) none (some z)))] []) ?_ ?_ ?_ ?_
  · rw [cut_to, ← List.map_take] at hw
    rw [cut_to]
    refine ⟨ns.take z, none, none, rfl, by rw [List.length_take], ?_⟩
    rw [← List.map_take]
    exact hw
  · rintro i σ H' _ ⟨ms, y3, y4, rfl, _, hw⟩
    exact SqL.of (hw.at 0 rfl)
  · rintro i x σ H H' hi ⟨ms, y3, y4, rfl, hl, hw⟩ ⟨T, x, y, rfl, hT, rfl, e1, e2⟩
    cases e1
    obtain ⟨n, rfl⟩ := cut_mem e2
    have hz : z < ns.length := by
      rcases Nat.lt_or_ge z ns.length with h | h
      · exact h
      · rw [cut_from z _ (by rw [List.length_map]; exact h)] at hi
        exact absurd hi (Nat.not_lt_zero _)
    have hw := hw.pure (Ex.new (o := .tup [.int i, .int n]) hT)
    have hTT : SqT K (upd H T (.tup [.int i, .int n])) T [.int i, .int n] := .inl (.inl upd_same)
    have h63 : i < 1000 := by
      have := hi
      unfold cutV at this
      rw [List.length_take, List.length_drop, List.length_map] at this
      omega
    have hmod0 : 0 ≤ (i : Int) % z := Int.emod_nonneg _ (by omega)
    have hmod1 : (i : Int) % z < z := Int.emod_lt_of_pos _ (by omega)
    have hat : atI (ms.map V.int) ((i : Int) % z) = some (.int (ms[((i : Int) % z).toNat]'(by omega))) := at_ints hmod0 (by omega)
    have hix : ixN (ms.map V.int).length ((i : Int) % z) = some ((i : Int) % z).toNat := by
      unfold ixN
      rw [if_pos hmod0, if_pos (by rw [List.length_map]; omega)]
    generalize ms[((i : Int) % z).toNat]'_ = mm at hat
    walk_at "sx"
    refine ⟨ms.set ((i : Int) % z).toNat (mm + n * ((i : Int) + 2)), _, _, rfl, by rw [List.length_set]; exact hl, ?_⟩
    rw [List.map_set]
    exact hw
  · rintro σ H ⟨ms, y3, y4, rfl, hl, hw⟩
    walk_at "sx"
    exact q ms p1 H hl (hw.fresh0 1 rfl) (hw.ex) (hw.at 1 rfl)
end
end Law
namespace Law
open PySem PySem.Spec PyProof.Rows L2 Fw
structure Blt2 (mg : Str → Option Value) : Prop extends Blt mg where
  sum : mg "sum" = none
  min : mg "min" = none
  max : mg "max" = none
structure Con (mg : Str → Option Value) : Prop where
  WORTHS : ∃ t, mg "WORTHS" = some (.int 1000000 t)
inductive Op where
  | copy | plus | less | times | over | rest | least | most | same | under | pick
  deriving DecidableEq
def Op.name : Op → Str
  | .copy => "copy" | .plus => "plus" | .less => "less" | .times => "times" | .over => "over" | .rest => "rest" | .least => "least" | .most => "most" | .same => "same" | .under => "under" | .pick => "pick"
def Op.many : Op → Nat
  | .copy => 1 | .pick => 3 | _ => 2
/-- what an op tells -/
def Op.told : Op → List Int → V
  | .copy, [a] => .int a
  | .plus, [a, b] => .int ((a + b) % 1000000)
  | .less, [a, b] => .int ((a - b) % 1000000)
  | .times, [a, b] => .int (a * b % 1000000)
  | .over, [a, b] => if 0 < b then .int (a / b) else .non
  | .rest, [a, b] => if 0 < b then .int (a % b) else .non
  | .least, [a, b] => .int (if b < a then b else a)
  | .most, [a, b] => .int (if b > a then b else a)
  | .same, [a, b] => .int (if a = b then 1 else 0)
  | .under, [a, b] => .int (if a < b then 1 else 0)
  | .pick, [a, b, c] => .int (if 0 < a then b else c)
  | _, _ => .non
def Worth (n : Int) : Prop := 0 ≤ n ∧ n < 1000000
/-- a def of TOLD: a list of as many worths -/
def spOp (K : PySem.W.Frag) (o : Op) : Sp := fun vs H Q _ => ∃ (M : List Addr) (a : Addr) (ns : List Int), vs = [.ref a] ∧ Al M H ∧ Rp K M H (.ref a) (.list (ns.map .int)) ∧ ns.length = o.many ∧ (∀ n ∈ ns, Worth n) ∧
  ∀ H', Ex [] H H' → Q (o.told ns) H'
theorem len1 {ns : List Int} (h : ns.length = 1) : ∃ a, ns = [a] := by
  match ns, h with
  | [a], _ => exact ⟨a, rfl⟩
theorem len2 {ns : List Int} (h : ns.length = 2) : ∃ a b, ns = [a, b] := by
  match ns, h with
  | [a, b], _ => exact ⟨a, b, rfl⟩
theorem len3 {ns : List Int} (h : ns.length = 3) : ∃ a b c, ns = [a, b, c] := by
  match ns, h with
  | [a, b, c], _ => exact ⟨a, b, c, rfl⟩
abbrev scopied : Stmt := topS 8
theorem sccopied : FnScope ["numbers"] ["numbers"] (defScope scopied) := ⟨rfl, rfl, rfl, by decide +kernel, rfl, by decide +kernel, by decide +kernel⟩

abbrev ssummed : Stmt := topS 9
theorem scsummed : FnScope ["numbers"] ["numbers"] (defScope ssummed) := ⟨rfl, rfl, rfl, by decide +kernel, rfl, by decide +kernel, by decide +kernel⟩

abbrev slessened : Stmt := topS 10
theorem sclessened : FnScope ["numbers", "first", "rest"] ["numbers"] (defScope slessened) := ⟨rfl, rfl, rfl, by decide +kernel, rfl, by decide +kernel, by decide +kernel⟩

abbrev smultiplied : Stmt := topS 11
theorem scmultiplied : FnScope ["numbers"] ["numbers"] (defScope smultiplied) := ⟨rfl, rfl, rfl, by decide +kernel, rfl, by decide +kernel, by decide +kernel⟩

abbrev soften_in : Stmt := topS 12
theorem scoften_in : FnScope ["numbers"] ["numbers"] (defScope soften_in) := ⟨rfl, rfl, rfl, by decide +kernel, rfl, by decide +kernel, by decide +kernel⟩

abbrev sleft_of : Stmt := topS 13
theorem scleft_of : FnScope ["numbers"] ["numbers"] (defScope sleft_of) := ⟨rfl, rfl, rfl, by decide +kernel, rfl, by decide +kernel, by decide +kernel⟩

abbrev sleast_of : Stmt := topS 14
theorem scleast_of : FnScope ["numbers"] ["numbers"] (defScope sleast_of) := ⟨rfl, rfl, rfl, by decide +kernel, rfl, by decide +kernel, by decide +kernel⟩

abbrev smost_of : Stmt := topS 15
theorem scmost_of : FnScope ["numbers"] ["numbers"] (defScope smost_of) := ⟨rfl, rfl, rfl, by decide +kernel, rfl, by decide +kernel, by decide +kernel⟩

abbrev salike : Stmt := topS 16
theorem scalike : FnScope ["numbers"] ["numbers"] (defScope salike) := ⟨rfl, rfl, rfl, by decide +kernel, rfl, by decide +kernel, by decide +kernel⟩

abbrev sis_less : Stmt := topS 17
theorem scis_less : FnScope ["numbers"] ["numbers"] (defScope sis_less) := ⟨rfl, rfl, rfl, by decide +kernel, rfl, by decide +kernel, by decide +kernel⟩

abbrev spicked : Stmt := topS 18
theorem scpicked : FnScope ["numbers", "first", "second", "third"] ["numbers"] (defScope spicked) := ⟨rfl, rfl, rfl, by decide +kernel, rfl, by decide +kernel, by decide +kernel⟩

section
variable {P : Program} {w : World} {K : PySem.W.Frag} {mg : Str → Option Value} {base : Heap} {f : Addr} {fd : FuncData} {k : Nat}
theorem ok_copied (F : Fun K "copied" "copied" scopied f fd) : FnOk P w K mg base CX0 (k + 1) f fd ["numbers"] (spOp K .copy) := by
  refine okS F sccopied (fun vs H Q E h => ?_) (fun cdv A outer s H0 vs Q E hr h => ?_)
  · obtain ⟨M, a, ns, rfl, _⟩ := h
    rfl
  obtain ⟨M, a, ns, rfl, hM, hb, hl, hn, q⟩ := h
  have hw : W K H0 [] M H0 [] [.rp (.ref a) (.list (ns.map .int))] := W.start0 hM (fun r z => by rw [List.mem_singleton.mp z]; exact hb)
  obtain ⟨x, rfl⟩ := len1 hl
  obtain ⟨hx0, hx1⟩ := hn x (by simp)
  refine ⟨_, [some (.ref a)], (pss_one (ps_ret (pe_ix (ix_U (K := K)) (pv 0) pe_int (fun _ _ => rfl)))), rfl, ?_⟩
  walk_at "sx"
  exact q _ hw.ex
theorem ok_summed (F : Fun K "summed" "summed" ssummed f fd) (B : Blt2 mg) (C : Con mg) : FnOk P w K mg base CX0 (k + 1) f fd ["numbers"] (spOp K .plus) := by
  refine okS F scsummed (fun vs H Q E h => ?_) (fun cdv A outer s H0 vs Q E hr h => ?_)
  · obtain ⟨M, a, ns, rfl, _⟩ := h
    rfl
  obtain ⟨M, a, ns, rfl, hM, hb, hl, hn, q⟩ := h
  have hw : W K H0 [] M H0 [] [.rp (.ref a) (.list (ns.map .int))] := W.start0 hM (fun r z => by rw [List.mem_singleton.mp z]; exact hb)
  obtain ⟨x, y, rfl⟩ := len2 hl
  obtain ⟨hx0, hx1⟩ := hn x (by simp)
  obtain ⟨hy0, hy1⟩ := hn y (by simp)
  refine ⟨_, [some (.ref a)], (pss_one (ps_ret (pe_op op_mod (pe_callB (call_sumU (K := K) rfl) (by rfl) B.sum (by decide +kernel) (pa_cons (pv 0) pa_nil)) (pe_gI (by rfl) C.WORTHS)))), rfl, ?_⟩
  walk_at "sx"
  have e : [x, y].sum = x + y := by simp
  rw [e]
  exact q _ hw.ex
theorem ok_lessened (F : Fun K "lessened" "lessened" slessened f fd) (B : Blt2 mg) (C : Con mg) : FnOk P w K mg base CX0 (k + 1) f fd ["numbers"] (spOp K .less) := by
  refine okS F sclessened (fun vs H Q E h => ?_) (fun cdv A outer s H0 vs Q E hr h => ?_)
  · obtain ⟨M, a, ns, rfl, _⟩ := h
    rfl
  obtain ⟨M, a, ns, rfl, hM, hb, hl, hn, q⟩ := h
  have hw : W K H0 [] M H0 [] [.rp (.ref a) (.list (ns.map .int))] := W.start0 hM (fun r z => by rw [List.mem_singleton.mp z]; exact hb)
  obtain ⟨x, y, rfl⟩ := len2 hl
  obtain ⟨hx0, hx1⟩ := hn x (by simp)
  obtain ⟨hy0, hy1⟩ := hn y (by simp)
  refine ⟨_, [some (.ref a), none, none], (pss_cons (ps_asg (pv 0) (pg_stL (K := K) (i := 1) rfl (pgs_cons (pg_name (i := 1) sclessened.nd rfl (Or.inl rfl)) (pgs_star (pg_name (i := 2) sclessened.nd rfl (Or.inl rfl)) pgs_nil))))
  (pss_one (ps_ret (pe_op op_mod (pe_op op_sub (pv 1) (pe_callB (call_sumU (K := K) rfl) (by rfl) B.sum (by decide +kernel) (pa_cons (pv 2) pa_nil))) (pe_gI (by rfl) C.WORTHS))))), rfl, ?_⟩
  walk_at "sx"
  have e : [y].sum = y := by simp
  rw [e]
  exact q _ hw.ex
theorem ok_multiplied (F : Fun K "multiplied" "multiplied" smultiplied f fd) (C : Con mg) : FnOk P w K mg base CX0 (k + 1) f fd ["numbers"] (spOp K .times) := by
  refine okS F scmultiplied (fun vs H Q E h => ?_) (fun cdv A outer s H0 vs Q E hr h => ?_)
  · obtain ⟨M, a, ns, rfl, _⟩ := h
    rfl
  obtain ⟨M, a, ns, rfl, hM, hb, hl, hn, q⟩ := h
  have hw : W K H0 [] M H0 [] [.rp (.ref a) (.list (ns.map .int))] := W.start0 hM (fun r z => by rw [List.mem_singleton.mp z]; exact hb)
  obtain ⟨x, y, rfl⟩ := len2 hl
  obtain ⟨hx0, hx1⟩ := hn x (by simp)
  obtain ⟨hy0, hy1⟩ := hn y (by simp)
  refine ⟨_, [some (.ref a)], (pss_one (ps_ret (pe_op op_mod (pe_op (op_mulU (K := K)) (pe_ix (ix_U (K := K)) (pv 0) pe_int (fun _ _ => rfl)) (pe_ix (ix_U (K := K)) (pv 0) pe_int (fun _ _ => rfl))) (pe_gI (by rfl) C.WORTHS)))), rfl, ?_⟩
  walk_at "sx"
  exact q _ hw.ex
theorem ok_often_in (F : Fun K "often_in" "often_in" soften_in f fd) : FnOk P w K mg base CX0 (k + 1) f fd ["numbers"] (spOp K .over) := by
  refine okS F scoften_in (fun vs H Q E h => ?_) (fun cdv A outer s H0 vs Q E hr h => ?_)
  · obtain ⟨M, a, ns, rfl, _⟩ := h
    rfl
  obtain ⟨M, a, ns, rfl, hM, hb, hl, hn, q⟩ := h
  have hw : W K H0 [] M H0 [] [.rp (.ref a) (.list (ns.map .int))] := W.start0 hM (fun r z => by rw [List.mem_singleton.mp z]; exact hb)
  obtain ⟨x, y, rfl⟩ := len2 hl
  obtain ⟨hx0, hx1⟩ := hn x (by simp)
  obtain ⟨hy0, hy1⟩ := hn y (by simp)
  refine ⟨_, [some (.ref a)], (pss_one (ps_ret (pe_ifExp (pt_cmpR (op_gt) (pe_ix (ix_U (K := K)) (pv 0) pe_int (fun _ _ => rfl)) pe_int (nomark _)) (pe_op op_fdiv (pe_ix (ix_U (K := K)) (pv 0) pe_int (fun _ _ => rfl)) (pe_ix (ix_U (K := K)) (pv 0) pe_int (fun _ _ => rfl))) pe_non))), rfl, ?_⟩
  walk_at "sx"
  refine x_ifd (fun c => ?_) (fun c => ?_)
  · have e : Op.told .over [x, y] = .int (x / y) := if_pos c
    rw [e] at q
    walk_at "sx"
    exact q _ hw.ex
  · have e : Op.told .over [x, y] = .non := if_neg c
    rw [e] at q
    walk_at "sx"
    exact q _ hw.ex
theorem ok_left_of (F : Fun K "left_of" "left_of" sleft_of f fd) : FnOk P w K mg base CX0 (k + 1) f fd ["numbers"] (spOp K .rest) := by
  refine okS F scleft_of (fun vs H Q E h => ?_) (fun cdv A outer s H0 vs Q E hr h => ?_)
  · obtain ⟨M, a, ns, rfl, _⟩ := h
    rfl
  obtain ⟨M, a, ns, rfl, hM, hb, hl, hn, q⟩ := h
  have hw : W K H0 [] M H0 [] [.rp (.ref a) (.list (ns.map .int))] := W.start0 hM (fun r z => by rw [List.mem_singleton.mp z]; exact hb)
  obtain ⟨x, y, rfl⟩ := len2 hl
  obtain ⟨hx0, hx1⟩ := hn x (by simp)
  obtain ⟨hy0, hy1⟩ := hn y (by simp)
  refine ⟨_, [some (.ref a)], (pss_one (ps_ret (pe_ifExp (pt_cmpR (op_gt) (pe_ix (ix_U (K := K)) (pv 0) pe_int (fun _ _ => rfl)) pe_int (nomark _)) (pe_op op_mod (pe_ix (ix_U (K := K)) (pv 0) pe_int (fun _ _ => rfl)) (pe_ix (ix_U (K := K)) (pv 0) pe_int (fun _ _ => rfl))) pe_non))), rfl, ?_⟩
  walk_at "sx"
  refine x_ifd (fun c => ?_) (fun c => ?_)
  · have e : Op.told .rest [x, y] = .int (x % y) := if_pos c
    rw [e] at q
    walk_at "sx"
    exact q _ hw.ex
  · have e : Op.told .rest [x, y] = .non := if_neg c
    rw [e] at q
    walk_at "sx"
    exact q _ hw.ex
theorem ok_least_of (F : Fun K "least_of" "least_of" sleast_of f fd) (B : Blt2 mg) : FnOk P w K mg base CX0 (k + 1) f fd ["numbers"] (spOp K .least) := by
  refine okS F scleast_of (fun vs H Q E h => ?_) (fun cdv A outer s H0 vs Q E hr h => ?_)
  · obtain ⟨M, a, ns, rfl, _⟩ := h
    rfl
  obtain ⟨M, a, ns, rfl, hM, hb, hl, hn, q⟩ := h
  have hw : W K H0 [] M H0 [] [.rp (.ref a) (.list (ns.map .int))] := W.start0 hM (fun r z => by rw [List.mem_singleton.mp z]; exact hb)
  obtain ⟨x, y, rfl⟩ := len2 hl
  obtain ⟨hx0, hx1⟩ := hn x (by simp)
  obtain ⟨hy0, hy1⟩ := hn y (by simp)
  refine ⟨_, [some (.ref a)], (pss_one (ps_ret (pe_callB (call_minU (K := K) rfl) (by rfl) B.min (by decide +kernel) (pa_cons (pv 0) pa_nil)))), rfl, ?_⟩
  walk_at "sx"
  refine .inr ⟨a, [x, y], rfl, SqL.of hb.ints, Nat.succ_pos _, fun m hm hle => ?_⟩
  have e : m = if y < x then y else x := by
    have h1 := hle x (by simp)
    have h2 := hle y (by simp)
    have h3 : m = x ∨ m = y := by simpa using hm
    split <;> omega
  rw [e]
  exact q _ hw.ex
theorem ok_most_of (F : Fun K "most_of" "most_of" smost_of f fd) (B : Blt2 mg) : FnOk P w K mg base CX0 (k + 1) f fd ["numbers"] (spOp K .most) := by
  refine okS F scmost_of (fun vs H Q E h => ?_) (fun cdv A outer s H0 vs Q E hr h => ?_)
  · obtain ⟨M, a, ns, rfl, _⟩ := h
    rfl
  obtain ⟨M, a, ns, rfl, hM, hb, hl, hn, q⟩ := h
  have hw : W K H0 [] M H0 [] [.rp (.ref a) (.list (ns.map .int))] := W.start0 hM (fun r z => by rw [List.mem_singleton.mp z]; exact hb)
  obtain ⟨x, y, rfl⟩ := len2 hl
  obtain ⟨hx0, hx1⟩ := hn x (by simp)
  obtain ⟨hy0, hy1⟩ := hn y (by simp)
  refine ⟨_, [some (.ref a)], (pss_one (ps_ret (pe_callB (call_maxU (K := K) rfl) (by rfl) B.max (by decide +kernel) (pa_cons (pv 0) pa_nil)))), rfl, ?_⟩
  walk_at "sx"
  refine .inr ⟨a, [x, y], rfl, SqL.of hb.ints, Nat.succ_pos _, fun m hm hle => ?_⟩
  have e : m = if y > x then y else x := by
    have h1 := hle x (by simp)
    have h2 := hle y (by simp)
    have h3 : m = x ∨ m = y := by simpa using hm
    split <;> omega
  rw [e]
  exact q _ hw.ex
theorem ok_alike (F : Fun K "alike" "alike" salike f fd) (B : Blt2 mg) : FnOk P w K mg base CX0 (k + 1) f fd ["numbers"] (spOp K .same) := by
  refine okS F scalike (fun vs H Q E h => ?_) (fun cdv A outer s H0 vs Q E hr h => ?_)
  · obtain ⟨M, a, ns, rfl, _⟩ := h
    rfl
  obtain ⟨M, a, ns, rfl, hM, hb, hl, hn, q⟩ := h
  have hw : W K H0 [] M H0 [] [.rp (.ref a) (.list (ns.map .int))] := W.start0 hM (fun r z => by rw [List.mem_singleton.mp z]; exact hb)
  obtain ⟨x, y, rfl⟩ := len2 hl
  obtain ⟨hx0, hx1⟩ := hn x (by simp)
  obtain ⟨hy0, hy1⟩ := hn y (by simp)
  refine ⟨_, [some (.ref a)], (pss_one (ps_ret (pe_callTy call_intU (by rfl) B.int' (by decide +kernel) (pa_cons (pe_cmpR (op_eqU (K := K) hr) (pe_ix (ix_U (K := K)) (pv 0) pe_int (fun _ _ => rfl)) (pe_ix (ix_U (K := K)) (pv 0) pe_int (fun _ _ => rfl)) (nomark _)) pa_nil)))), rfl, ?_⟩
  walk_at "sx"
  have e : (if decide (x = y) = true then (1 : Int) else 0) = if x = y then 1 else 0 := by simp
  rw [e]
  exact q _ hw.ex
theorem ok_is_less (F : Fun K "is_less" "is_less" sis_less f fd) (B : Blt2 mg) : FnOk P w K mg base CX0 (k + 1) f fd ["numbers"] (spOp K .under) := by
  refine okS F scis_less (fun vs H Q E h => ?_) (fun cdv A outer s H0 vs Q E hr h => ?_)
  · obtain ⟨M, a, ns, rfl, _⟩ := h
    rfl
  obtain ⟨M, a, ns, rfl, hM, hb, hl, hn, q⟩ := h
  have hw : W K H0 [] M H0 [] [.rp (.ref a) (.list (ns.map .int))] := W.start0 hM (fun r z => by rw [List.mem_singleton.mp z]; exact hb)
  obtain ⟨x, y, rfl⟩ := len2 hl
  obtain ⟨hx0, hx1⟩ := hn x (by simp)
  obtain ⟨hy0, hy1⟩ := hn y (by simp)
  refine ⟨_, [some (.ref a)], (pss_one (ps_ret (pe_callTy call_intU (by rfl) B.int' (by decide +kernel) (pa_cons (pe_cmpR (op_lt) (pe_ix (ix_U (K := K)) (pv 0) pe_int (fun _ _ => rfl)) (pe_ix (ix_U (K := K)) (pv 0) pe_int (fun _ _ => rfl)) (nomark _)) pa_nil)))), rfl, ?_⟩
  walk_at "sx"
  have e : (if decide (x < y) = true then (1 : Int) else 0) = if x < y then 1 else 0 := by simp
  rw [e]
  exact q _ hw.ex
theorem ok_picked (F : Fun K "picked" "picked" spicked f fd) : FnOk P w K mg base CX0 (k + 1) f fd ["numbers"] (spOp K .pick) := by
  refine okS F scpicked (fun vs H Q E h => ?_) (fun cdv A outer s H0 vs Q E hr h => ?_)
  · obtain ⟨M, a, ns, rfl, _⟩ := h
    rfl
  obtain ⟨M, a, ns, rfl, hM, hb, hl, hn, q⟩ := h
  have hw : W K H0 [] M H0 [] [.rp (.ref a) (.list (ns.map .int))] := W.start0 hM (fun r z => by rw [List.mem_singleton.mp z]; exact hb)
  obtain ⟨x, y, z, rfl⟩ := len3 hl
  obtain ⟨hx0, hx1⟩ := hn x (by simp)
  obtain ⟨hy0, hy1⟩ := hn y (by simp)
  obtain ⟨hz0, hz1⟩ := hn z (by simp)
  refine ⟨_, [some (.ref a), none, none, none], (pss_cons (ps_asg (pv 0) (pg_uL (K := K) (n := 3) rfl (pgs_cons (pg_name (i := 1) scpicked.nd rfl (Or.inl rfl)) (pgs_cons (pg_name (i := 2) scpicked.nd rfl (Or.inl rfl)) (pgs_cons (pg_name (i := 3) scpicked.nd rfl (Or.inl rfl)) pgs_nil)))))
  (pss_one (ps_ret (pe_ifExp (pt_cmpR (op_gt) (pv 1) pe_int (nomark _)) (pv 2) (pv 3))))), rfl, ?_⟩
  walk_at "sx"
  refine x_ifd (fun c => ?_) (fun c => ?_)
  · have e : Op.told .pick [x, y, z] = .int y := congrArg V.int (if_pos c)
    rw [e] at q
    walk_at "sx"
    exact q _ hw.ex
  · have e : Op.told .pick [x, y, z] = .int z := congrArg V.int (if_neg c)
    rw [e] at q
    walk_at "sx"
    exact q _ hw.ex
end
end Law
namespace Law
open PySem PySem.Spec PyProof.Rows L2 Fw
abbrev veT : List Value := [.type "ValueError", .type "Exception", .type "BaseException", .type "object"]
def Op.let' : Op → Bool
  | .copy | .plus | .least | .most => true
  | _ => false
/-- n, the cap c at most -/
def cutI (c n : Int) : Int := if n < c then n else c
/-- what comes to be under a cap -/
def Op.capped : Op → List Int → Int → Int
  | .copy, [a], c => cutI c (cutI c a)
  | .plus, [a, b], c => cutI c (cutI c a + cutI c b)
  | .least, [a, b], c => cutI c (if cutI c b < cutI c a then cutI c b else cutI c a)
  | .most, [a, b], c => cutI c (if cutI c b > cutI c a then cutI c b else cutI c a)
  | _, _, _ => 0
theorem Op.told_cut {o : Op} {ns : List Int} {c : Int} (hl : o.let' = true) (hn : ns.length = o.many) (hW : ∀ n ∈ ns, Worth n) (h1 : 1 ≤ c) (h9 : c ≤ 9) : ∃ k, o.told (ns.map (cutI c)) = .int k ∧ cutI c k = o.capped ns c := by
  have b : ∀ n, Worth n → 0 ≤ cutI c n ∧ cutI c n ≤ 9 := fun n h => by unfold cutI; have := h.1; split <;> omega
  cases o <;> try cases hl
  · obtain ⟨x, rfl⟩ := len1 hn
    exact ⟨_, rfl, rfl⟩
  · obtain ⟨x, y, rfl⟩ := len2 hn
    have h2 := b x (hW x (by simp))
    have h3 := b y (hW y (by simp))
    refine ⟨_, rfl, ?_⟩
    rw [Int.emod_eq_of_lt (by omega) (by omega)]
    rfl
  · obtain ⟨x, y, rfl⟩ := len2 hn
    exact ⟨_, rfl, rfl⟩
  · obtain ⟨x, y, rfl⟩ := len2 hn
    exact ⟨_, rfl, rfl⟩
structure Con2 (K : PySem.W.Frag) (w : World) (mg : Str → Option Value) (fa : Op → Addr) : Prop extends Con mg where
  TOLD : ∃ a, mg "TOLD" = some (.ref a) ∧ ∀ o : Op, KDct K w a o.name (.ref (fa o))
abbrev sop_let : Stmt := topS 20
theorem scop_let : FnScope ["op", "cap"] ["op", "cap"] (defScope sop_let) := ⟨rfl, rfl, rfl, by decide +kernel, rfl, by decide +kernel, by decide +kernel⟩

abbrev sNotLet_init : Stmt := inClass (topS 3) 0
theorem scNotLet_init : FnScope ["self", "op", "under"] ["self", "op", "under"] (defScope sNotLet_init) := ⟨rfl, rfl, rfl, by decide +kernel, rfl, by decide +kernel, by decide +kernel⟩

abbrev sreckoned : Stmt := topS 21
theorem screckoned : FnScope ["op", "numbers", "cap", "reckon", "number"] ["op", "numbers", "cap"] (defScope sreckoned) := ⟨rfl, rfl, rfl, by decide +kernel, rfl, by decide +kernel, by decide +kernel⟩

def letN : List V := [.str "copy", .str "plus", .str "least", .str "most"]
def spLet : Sp := fun vs H Q _ => ∃ (o : Op) (c : Int), vs = [.str o.name, .int c] ∧ 1 ≤ c ∧ Q (.bl o.let') H
/-- under a cap -/
def spReckoned (K : PySem.W.Frag) (CN : Addr) : Sp := fun vs H Q E => ∃ (o : Op) (M : List Addr) (a : Addr) (ns : List Int) (c : Int), vs = [.str o.name, .ref a, .int c] ∧ 1 ≤ c ∧ c ≤ 9 ∧ Al M H ∧ Rp K M H (.ref a) (.list (ns.map .int)) ∧ ns.length = o.many ∧ (∀ n ∈ ns, Worth n) ∧
  (o.let' = true → ∀ H', Ex [] H H' → Q (.int (o.capped ns c)) H') ∧ (o.let' = false → ∀ d H', H d = none → Ex [] H H' → H' d = some (.xd [("under", .int c), ("op", .str o.name)]) → E (.ref CN) (some d) H')
section
variable {P : Program} {w : World} {K : PySem.W.Frag} {mg : Str → Option Value} {base : Heap} {f : Addr} {fd : FuncData} {k : Nat} {kws : List (Str × V)}
theorem ok_NotLet {C : Addr} (F : Fun K "__init__" "NotLet.__init__" sNotLet_init f fd) (BValueError : mg "ValueError" = none) (T : Own K C "ValueError.__new__" veT) (h1 : PySem.W.findIn K (.ref C) "op" = some none) (h2 : PySem.W.findIn K (.ref C) "under" = some none) :
    FnOk P w K mg base CX0 (k + 1) f fd ["self", "op", "under"] (spInit2 C "op" "under") := by
  refine okS F scNotLet_init (fun vs H Q E h => ?_) (fun cdv A outer s H0 vs Q E hr h => ?_)
  · obtain ⟨a, v, w, rfl, _⟩ := h
    rfl
  obtain ⟨a, v, w, rfl, ea, q⟩ := h
  exact ⟨_, [some (.ref a), some v, some w], (pss_cons (ps_expr (pe_binit bs_ValueError (by rfl) BValueError (pa_cons (pv 0) (pa_cons pe_str pa_nil))))
  (pss_cons (ps_fld bs_ValueError (pv 0) (pv 1))
  (pss_one (ps_fld bs_ValueError (pv 0) (pv 2))))), rfl, init2 T h1 h2 ea q⟩
theorem ok_let (F : FunD K "op_let" "op_let" (defArgs sop_let) (defBody sop_let) (defScope sop_let) [] kws f fd) (C : ∃ a, mg "LET" = some (.ref a) ∧ ∀ H, SqT K H a letN) : FnOk P w K mg base CX0 (k + 1) f fd ["op", "cap"] spLet := by
  obtain ⟨aL, hL, hS⟩ := C
  refine okD F scop_let (fun vs H Q E h => ?_) (fun cdv A outer s H0 vs Q E hr h => ?_)
  · obtain ⟨o, c, rfl, _⟩ := h
    rfl
  obtain ⟨o, c, rfl, hc, q⟩ := h
  refine ⟨_, [some (.str o.name), some (.int c)], (pss_one (ps_ret (pe_or (pe_cmpR (op_eqU (K := K) hr) (pv 1) pe_int (nomark _)) (pe_one (pe_cmpR (op_inU (K := K) hr) (pv 0) (pe_gR (by rfl) hL) (by rfl)))))), rfl, ?_⟩
  walk_at "sx"
  have hin : ∀ b : Bool, o.let' = b → True := fun _ _ => trivial
  cases o <;> (refine x_inT (hS _) rfl rfl ?_; exact q)
theorem ok_reckoned (F : FunD K "reckoned" "reckoned" (defArgs sreckoned) (defBody sreckoned) (defScope sreckoned) [] kws f fd) {fa : Op → Addr} (Gop_let_1_cap : FnN P w K mg base CX0 1 "op_let" 1 ["cap"] (fun vs zs => vs ++ zs) spLet) (B : Blt2 mg)
    {CN fI : Addr} {fdI : FuncData} (TNotLet : Own K CN "ValueError.__new__" veT) (iNotLet : PySem.W.findIn K (.ref CN) "__init__" = some (some (.ref fI))) (tNotLet : PySem.W.typeIn K (.ref fI) = some (.type "function"))
    (FiNotLet : FnOk P w K mg base CX0 1 fI fdI ["self", "op", "under"] (spInit2 CN "op" "under")) (bNotLet : Binds K fdI ["self", "op", "under"] []) (gNotLet : mg "NotLet" = some (.ref CN))
    (C : Con2 K w mg fa) (hF : ∀ o, ∃ fd, FnOk P w K mg base CX0 1 (fa o) fd ["numbers"] (spOp K o) ∧ PySem.W.keepIn K (.ref (fa o)) = true ∧ Binds K fd ["numbers"] []) : FnOk P w K mg base (L2.CX P w) 3 f fd ["op", "numbers", "cap"] (spReckoned K CN) := by
  obtain ⟨aT, hT, hTO⟩ := C.TOLD
  refine okDX F screckoned (fun vs H Q E h => ?_) (fun cdv A outer s H0 vs Q E hr h => ?_)
  · obtain ⟨o, M, a, ns, c, rfl, _⟩ := h
    rfl
  obtain ⟨o, M, a, ns, c, rfl, hc1, hc9, hM, hb, hl, hn, q, qE⟩ := h
  obtain ⟨fo, Fo, ko, bo⟩ := hF o
  have hw : W K H0 [] M H0 [] [.rp (.ref a) (.list (ns.map .int))] := W.start0 hM (fun r z => by rw [List.mem_singleton.mp z]; exact hb)
  refine ⟨_, [some (.str o.name), some (.ref a), some (.int c), none, none], (pss_cons (ps_if (pt_not (pt_val (pe_fnN Gop_let_1_cap hr (by decide) (by rfl) pass0 (pa_cons (pv 0) pa_nil) (pk_cons (pv 2) pk_nil)))) (pss_one (ps_raise rfl takesE (pmk_own PySem.F.excBase_ValueError TNotLet iNotLet tNotLet FiNotLet hr (by decide) bNotLet pass0 (by rfl) gNotLet (pa_cons (pv 0) (pa_cons (pv 2) pa_nil))))) pss_nil)
  (pss_cons (ps_set (i := 3) screckoned.nd rfl (Or.inl rfl) (pe_ix (ix_D (K := K) (w := w)) (pe_gR (by rfl) hT) (pv 0) (fun _ _ => rfl)))
  (pss_cons (ps_if (pt_cmpR (op_eqU (K := K) hr) (pv 2) pe_int (nomark _)) (pss_one (ps_ret (pe_callL (i := 3) Fo (hr.mono (by decide)) rfl (Or.inl rfl) ko bo .nil pass0 (pa_cons (pv 1) pa_nil)))) pss_nil)
  (pss_one (ps_ret (pe_callB (call_minU (K := K) rfl) (by rfl) B.min (by decide +kernel) (pa_cons (pv 2) (pa_cons (pe_callL (i := 3) Fo (hr.mono (by decide)) rfl (Or.inl rfl) ko bo .nil pass0 (pa_cons (pe_lc (own := [("number", 4)]) rfl screckoned.nd (pi_U (K := K) (pv 1)) (blkOk_by (own := [("number", 4)]) (N := ["op", "numbers", "cap", "reckon", "number"]) (sc := defScope sreckoned) (by decide +kernel)) (fun _ _ _ _ _ => (pg_name (i := 4) screckoned.nd rfl (Or.inl rfl))) (fun _ _ _ _ _ => pts_nil) (fun _ _ _ _ _ => (pe_callB (call_minU (K := K) rfl) (by rfl) B.min (by decide +kernel) (pa_cons (pv 2) (pa_cons (pv 4) pa_nil))))) pa_nil)) pa_nil)))))))), rfl, ?_⟩
  walk_at "sx"
  refine ⟨o, c, rfl, hc1, ?_⟩
  cases ho : o.let' with
  | false =>
    walk_at "sx"
    exact x_mk2 fun d hd => qE ho d _ hd (Ex.new hd) upd_same
  | true =>
    walk_at "sx"
    refine x_ixD (hTO o) ?_
    walk_at "sx"
    refine w_lcK hw (walk_list (xs := ns.map V.int)) (fun D i H' => W K H0 [] M H' [(D, .lst (((ns.take i).map (cutI c)).map V.int))] [.rp (.ref a) (.list (ns.map .int))]) ?_ ?_ ?_ ?_
    · intro D H _ hw
      exact hw
    · intro D i H _ hw
      exact SqL.of (hw.rp 0 rfl).ints
    · rintro D i x H _ hi hw ⟨rfl, hx⟩
      rw [List.getElem?_map] at hx
      obtain ⟨n, hn1, rfl⟩ := Option.map_eq_some_iff.mp hx
      have e : (ns.take (i + 1)).map (cutI c) = (ns.take i).map (cutI c) ++ [cutI c n] := by
        rw [List.take_add_one, hn1]; simp
      walk_at "sx"
      refine w_app hw 0 rfl (sz_lt (by rw [List.length_map, List.length_map, List.length_take]; have : o.many ≤ 3 := by cases o <;> decide
                                       omega)) fun H hw => ?_
      rw [e, List.map_append]
      exact hw
    · intro D H hw
      rw [List.length_map, List.take_length] at hw
      walk_at "sx"
      refine ⟨[], D, ns.map (cutI c), rfl, (fun _ z => nomatch z), .lst (by rw [del_nil]; exact hw.at 0 rfl) (DdAll.ints _), by rw [List.length_map]; exact hl, fun n h => ?_, fun H' e => ?_⟩
      · obtain ⟨m, hm, rfl⟩ := List.mem_map.mp h
        have := (hn m hm).1
        unfold cutI Worth
        split <;> omega
      · obtain ⟨k, e1, e2⟩ := o.told_cut ho hl hn hc1 hc9
        rw [e1]
        walk_at "sx"
        have z := q ho H' (hw.ex.trans e)
        rw [← e2] at z
        exact z
end
end Law
namespace Law
open PySem PySem.Spec PyProof.Rows L2 Fw
abbrev s_law_due : Stmt := topS 26
theorem sc_law_due : FnScope ["_law_word", "_law_some", "_law_top", "_law_low", "_law_told", "_law_one"] ["_law_word", "_law_some", "_law_top"] (defScope s_law_due) := ⟨rfl, rfl, rfl, by decide +kernel, rfl, by decide +kernel, by decide +kernel⟩

abbrev s_law_worth : Stmt := topS 27
theorem sc_law_worth : FnScope ["_law_box", "_law_top"] ["_law_box", "_law_top"] (defScope s_law_worth) := ⟨rfl, rfl, rfl, by decide +kernel, rfl, by decide +kernel, by decide +kernel⟩

def spDue (K : PySem.W.Frag) : Sp := fun vs H Q _ => ∃ (o : Op) (M : List Addr) (a : Addr) (ns : List Int) (c : Int), vs = [.str o.name, .ref a, .int c] ∧ o.let' = true ∧ 1 ≤ c ∧ c ≤ 9 ∧ Al M H ∧ Rp K M H (.ref a) (.list (ns.map .int)) ∧ ns.length = o.many ∧ (∀ n ∈ ns, Worth n) ∧
  ∀ H', Ex [] H H' → Q (.int (o.capped ns c)) H'
/-- a worth drawn -/
def spWorth : Sp := fun vs H Q _ => ∃ (b : Addr) (a s c t : Int), vs = [.ref b, .int t] ∧ 1 ≤ t ∧ t ≤ 9 ∧ H b = some (box a s c) ∧ Bx a s c ∧ c + 3 < 2 ^ 40 ∧
  ∀ r a' c' H', Worth r → Bx a' s c' → c' ≤ c + 3 → Ex [b] H H' → H' b = some (box a' s c') → Q (.int r) H'
section
variable {P : Program} {w : World} {K : PySem.W.Frag} {mg : Str → Option Value} {base : Heap} {f : Addr} {fd : FuncData} {k : Nat} {kws : List (Str × V)}
theorem ok_due (F : Fun K "_law_due" "_law_due" s_law_due f fd) (B : Blt2 mg) : FnOk P w K mg base CX0 (k + 1) f fd ["_law_word", "_law_some", "_law_top"] (spDue K) := by
  refine okS F sc_law_due (fun vs H Q E h => ?_) (fun cdv A outer s H0 vs Q E hr h => ?_)
  · obtain ⟨o, M, a, ns, c, rfl, _⟩ := h
    rfl
  obtain ⟨o, M, a, ns, c, rfl, ho, hc1, hc9, hM, hb, hl, hn, q⟩ := h
  have hw : W K H0 [] M H0 [] [.rp (.ref a) (.list (ns.map .int))] := W.start0 hM (fun r z => by rw [List.mem_singleton.mp z]; exact hb)
  refine ⟨_, [some (.str o.name), some (.ref a), some (.int c), none, none, none], (pss_cons (ps_setLc (i := 3) (own := [("_law_one", 5)]) rfl sc_law_due.nd rfl rfl (sw_true rfl rfl rfl (by decide +kernel)) (pi_U (K := K) (pv 1)) (blkOk_by (own := [("_law_one", 5)]) (N := ["_law_word", "_law_some", "_law_top", "_law_low", "_law_told", "_law_one"]) (sc := defScope s_law_due) (by decide +kernel)) (fun _ _ _ _ _ => (pg_name (i := 5) sc_law_due.nd rfl (Or.inl rfl))) (fun _ _ _ _ _ => pts_nil) (fun _ _ _ _ _ => (pe_callB (call_minU (K := K) rfl) (by rfl) B.min (by decide +kernel) (pa_cons (pv 2) (pa_cons (pv 5) pa_nil)))))
  (pss_cons (ps_set (i := 4) sc_law_due.nd rfl (Or.inl rfl) (pe_disp (pps_cons pe_str (pe_ix (ix_U (K := K)) (pv 3) pe_int (fun _ _ => rfl)) (pps_cons pe_str (pe_callB (call_sumU (K := K) rfl) (by rfl) B.sum (by decide +kernel) (pa_cons (pv 3) pa_nil)) (pps_cons pe_str (pe_callB (call_minU (K := K) rfl) (by rfl) B.min (by decide +kernel) (pa_cons (pv 3) pa_nil)) (pps_cons pe_str (pe_callB (call_maxU (K := K) rfl) (by rfl) B.max (by decide +kernel) (pa_cons (pv 3) pa_nil)) pps_nil)))) (by rfl) (by rfl) (fun z => by cases z) (by decide)))
  (pss_one (ps_ret (pe_callB (call_minU (K := K) rfl) (by rfl) B.min (by decide +kernel) (pa_cons (pv 2) (pa_cons (pe_dget (hu_of hr) (pv 4) (pv 0) (fun _ _ => rfl)) pa_nil))))))), rfl, ?_⟩
  walk_at "sx"
  refine w_lcK hw (walk_list (xs := ns.map V.int)) (fun D i H' => W K H0 [] M H' [(D, .lst (((ns.take i).map (cutI c)).map V.int))] [.rp (.ref a) (.list (ns.map .int))]) ?_ ?_ ?_ ?_
  · intro D H _ hw
    exact hw
  · intro D i H _ hw
    exact SqL.of (hw.rp 0 rfl).ints
  · rintro D i x H _ hi hw ⟨rfl, hx⟩
    rw [List.getElem?_map] at hx
    obtain ⟨n, hn1, rfl⟩ := Option.map_eq_some_iff.mp hx
    have e : (ns.take (i + 1)).map (cutI c) = (ns.take i).map (cutI c) ++ [cutI c n] := by
      rw [List.take_add_one, hn1]; simp
    walk_at "sx"
    refine w_app hw 0 rfl (sz_lt (by rw [List.length_map, List.length_map, List.length_take]; have : o.many ≤ 3 := by cases o <;> decide
                                     omega)) fun H hw => ?_
    rw [e, List.map_append]
    exact hw
  · intro D H hw
    rw [List.length_map, List.take_length] at hw
    have b : ∀ n ∈ ns, 0 ≤ cutI c n ∧ cutI c n ≤ 9 := fun n h => by have := (hn n h).1; unfold cutI; split <;> omega
    have hD := hw.at 0 rfl
    cases o <;> try cases ho
    · obtain ⟨x, rfl⟩ := len1 hl
      generalize hX : cutI c x = X at *
      replace hw : W K H0 [] M H [(D, .lst ([X].map V.int))] [.rp (.ref a) (.list ([x].map .int))] := by rw [← hX]; exact hw
      have ec : Op.capped .copy [x] c = cutI c X := by rw [← hX]; rfl
      rw [ec] at q
      walk_at "sx"
      refine .inr ⟨D, [X], rfl, SqL.of (hw.at 1 rfl), Nat.succ_pos _, fun m hm hle => ?_⟩
      walk_at "sx"
      refine .inr ⟨D, [X], rfl, SqL.of (hw.at 1 rfl), Nat.succ_pos _, fun m2 hm2 hge => ?_⟩
      walk_at "sx"
      unfold cutI at q
      exact q _ hw.ex
    · obtain ⟨x, y, rfl⟩ := len2 hl
      generalize hX : cutI c x = X at *
      generalize hY : cutI c y = Y at *
      replace hw : W K H0 [] M H [(D, .lst ([X, Y].map V.int))] [.rp (.ref a) (.list ([x, y].map .int))] := by rw [← hX, ← hY]; exact hw
      have ec : Op.capped .plus [x, y] c = cutI c (X + Y) := by rw [← hX, ← hY]; rfl
      rw [ec] at q
      walk_at "sx"
      refine .inr ⟨D, [X, Y], rfl, SqL.of (hw.at 1 rfl), Nat.succ_pos _, fun m hm hle => ?_⟩
      walk_at "sx"
      refine .inr ⟨D, [X, Y], rfl, SqL.of (hw.at 1 rfl), Nat.succ_pos _, fun m2 hm2 hge => ?_⟩
      walk_at "sx"
      have h3 : m = X ∨ m = Y := by simpa using hm
      have h4 : m2 = X ∨ m2 = Y := by simpa using hm2
      have h5 := hle X (by simp)
      have h6 := hle Y (by simp)
      have h7 := hge X (by simp)
      have h8 := hge Y (by simp)
      have es : [X, Y].sum = X + Y := by simp
      have e : [X, Y].sum = X + Y := by exact es
      unfold cutI at q
      rw [e]
      exact q _ hw.ex
    · obtain ⟨x, y, rfl⟩ := len2 hl
      generalize hX : cutI c x = X at *
      generalize hY : cutI c y = Y at *
      replace hw : W K H0 [] M H [(D, .lst ([X, Y].map V.int))] [.rp (.ref a) (.list ([x, y].map .int))] := by rw [← hX, ← hY]; exact hw
      have ec : Op.capped .least [x, y] c = cutI c (if Y < X then Y else X) := by rw [← hX, ← hY]; rfl
      rw [ec] at q
      walk_at "sx"
      refine .inr ⟨D, [X, Y], rfl, SqL.of (hw.at 1 rfl), Nat.succ_pos _, fun m hm hle => ?_⟩
      walk_at "sx"
      refine .inr ⟨D, [X, Y], rfl, SqL.of (hw.at 1 rfl), Nat.succ_pos _, fun m2 hm2 hge => ?_⟩
      walk_at "sx"
      have h3 : m = X ∨ m = Y := by simpa using hm
      have h4 : m2 = X ∨ m2 = Y := by simpa using hm2
      have h5 := hle X (by simp)
      have h6 := hle Y (by simp)
      have h7 := hge X (by simp)
      have h8 := hge Y (by simp)
      have es : [X, Y].sum = X + Y := by simp
      have e : m = if Y < X then Y else X := by split <;> omega
      unfold cutI at q
      rw [e]
      exact q _ hw.ex
    · obtain ⟨x, y, rfl⟩ := len2 hl
      generalize hX : cutI c x = X at *
      generalize hY : cutI c y = Y at *
      replace hw : W K H0 [] M H [(D, .lst ([X, Y].map V.int))] [.rp (.ref a) (.list ([x, y].map .int))] := by rw [← hX, ← hY]; exact hw
      have ec : Op.capped .most [x, y] c = cutI c (if Y > X then Y else X) := by rw [← hX, ← hY]; rfl
      rw [ec] at q
      walk_at "sx"
      refine .inr ⟨D, [X, Y], rfl, SqL.of (hw.at 1 rfl), Nat.succ_pos _, fun m hm hle => ?_⟩
      walk_at "sx"
      refine .inr ⟨D, [X, Y], rfl, SqL.of (hw.at 1 rfl), Nat.succ_pos _, fun m2 hm2 hge => ?_⟩
      walk_at "sx"
      have h3 : m = X ∨ m = Y := by simpa using hm
      have h4 : m2 = X ∨ m2 = Y := by simpa using hm2
      have h5 := hle X (by simp)
      have h6 := hle Y (by simp)
      have h7 := hge X (by simp)
      have h8 := hge Y (by simp)
      have es : [X, Y].sum = X + Y := by simp
      have e : m2 = if Y > X then Y else X := by split <;> omega
      unfold cutI at q
      rw [e]
      exact q _ hw.ex
theorem ok_worth (F : Fun K "_law_worth" "_law_worth" s_law_worth f fd) (G_law_take : Fn P w K mg base CX0 1 "_law_take" ["_law_box", "_law_many"] spTake) : FnOk P w K mg base CX0 2 f fd ["_law_box", "_law_top"] spWorth := by
  refine okS F sc_law_worth (fun vs H Q E h => ?_) (fun cdv A outer s H0 vs Q E hr h => ?_)
  · obtain ⟨b, a, s, c, t, rfl, _⟩ := h
    rfl
  obtain ⟨b, a, s, c, t, rfl, ht1, ht9, hb, bx, hc, q⟩ := h
  have hw : W K H0 [b] [] H0 [(b, box a s c)] [] := W.start1 hb (fun _ z => nomatch z) (fun _ z => nomatch z)
  refine ⟨_, [some (.ref b), some (.int t)], (pss_one (ps_ret (pe_ix (ix_U (K := K)) (pe_lst (pa_cons pe_int (pa_cons (pe_fn G_law_take hr (by decide) (by rfl) pass0 (pa_cons (pv 0) (pa_cons (pe_op (op_addU (K := K)) (pv 1) pe_int) pa_nil))) (pa_cons (pv 1) (pa_cons (pe_op (op_addU (K := K)) (pv 1) pe_int) (pa_cons (pe_op op_sub (pe_op op_sub (pe_powc (z := 1000000) ⟨by decide, by decide, by decide⟩ (by rfl)) pe_int) (pe_fn G_law_take hr (by decide) (by rfl) pass0 (pa_cons (pv 0) (pa_cons pe_int pa_nil)))) pa_nil)))))) (pe_fn G_law_take hr (by decide) (by rfl) pass0 (pa_cons (pv 0) (pa_cons pe_int pa_nil))) (fun _ _ => rfl)))), rfl, ?_⟩
  walk_at "sx"
  refine x_ixAny (SqL.of (hw.at 0 rfl)) (by omega) (by simp; omega) fun v hv => ?_
  have hv' : ∃ n, v = .int n ∧ Worth n := by
    simp only [List.mem_cons, List.not_mem_nil, or_false] at hv
    rcases hv with rfl | rfl | rfl | rfl | rfl <;> exact ⟨_, rfl, by constructor <;> omega⟩
  obtain ⟨n, rfl, hn⟩ := hv'
  exact q n _ _ _ hn bx (by omega) hw.ex (hw.at 1 rfl)
end
end Law
namespace Law
open PySem PySem.Spec PyProof.Rows L2 Fw
abbrev s_law_refused : Stmt := topS 29
theorem sc_law_refused : FnScope ["_law_word", "_law_some", "_law_top", "_law_caught", "error"] ["_law_word", "_law_some", "_law_top"] (defScope s_law_refused) := ⟨rfl, rfl, rfl, by decide +kernel, rfl, by decide +kernel, by decide +kernel⟩

structure Blt3 (mg : Str → Option Value) : Prop extends Blt2 mg where
  isinstance : mg "isinstance" = none
  bool : mg "bool" = none
  all : mg "all" = none
  ValueError : mg "ValueError" = none
def spRefused (K : PySem.W.Frag) : Sp := fun vs H Q _ => ∃ (o : Op) (M : List Addr) (a : Addr) (ns : List Int) (c : Int), vs = [.str o.name, .ref a, .int c] ∧ o.let' = false ∧ 1 ≤ c ∧ c ≤ 9 ∧ Al M H ∧ Rp K M H (.ref a) (.list (ns.map .int)) ∧ ns.length = o.many ∧ (∀ n ∈ ns, Worth n) ∧
  ∀ H', Ex [] H H' → Q (.bl true) H'
section
variable {P : Program} {w : World} {K : PySem.W.Frag} {mg : Str → Option Value} {base : Heap} {f : Addr} {fd : FuncData} {k : Nat} {kws : List (Str × V)}
theorem ok_refused (F : Fun K "_law_refused" "_law_refused" s_law_refused f fd) (B : Blt3 mg) {CN C1 C2 C3 : Addr} (Greckoned_2_cap : FnN P w K mg base (L2.CX P w) 3 "reckoned" 2 ["cap"] (fun vs zs => vs ++ zs) (spReckoned K CN)) (gNotLet : mg "NotLet" = some (.ref CN)) (gBadGrammar : mg "BadGrammar" = some (.ref C1))
    (gBadRow : mg "BadRow" = some (.ref C2)) (gNoOp : mg "NoOp" = some (.ref C3)) (T : Own K CN "ValueError.__new__" veT) (n1 : PySem.W.findIn K (.ref CN) "op" = some none) (n2 : PySem.W.findIn K (.ref CN) "under" = some none)
    (k1 : PySem.W.kitAny K (.ref CN) [.ref C1, .ref C2, .ref C3] = some false) (k2 : PySem.W.kitOne K (.ref CN) (.type "ValueError") = some true) (k3 : PySem.W.exmOne K (.ref CN) (.ref CN) = some true) : FnOk P w K mg base CX0 4 f fd ["_law_word", "_law_some", "_law_top"] (spRefused K) := by
  refine okS F sc_law_refused (fun vs H Q E h => ?_) (fun cdv A outer s H0 vs Q E hr h => ?_)
  · obtain ⟨o, M, a, ns, c, rfl, _⟩ := h
    rfl
  obtain ⟨o, M, a, ns, c, rfl, ho, hc1, hc9, hM, hb, hl, hn, q⟩ := h
  have hw : W K H0 [] M H0 [] [.rp (.ref a) (.list (ns.map .int))] := W.start0 hM (fun r z => by rw [List.mem_singleton.mp z]; exact hb)
  refine ⟨_, [some (.str o.name), some (.ref a), some (.int c), none, none], (pss_cons (ps_set (i := 3) sc_law_refused.nd rfl (Or.inl rfl) pe_non)
  (pss_cons (ps_try_keep (K := K) (i := 4) rfl rfl rfl rfl sc_law_refused.nd rfl rfl ⟨by rfl, by decide, .inl gNotLet⟩ takes0 (fun W pn xe tk po => (pss_one (ps_expr (pe_fnNS tk Greckoned_2_cap hr (by decide) (by rfl) (pa_cons (pv 0) (pa_cons (pv 1) pa_nil)) (pk_cons (pv 2) pk_nil))))) (fun a pn => (pss_one (ps_set (i := 3) sc_law_refused.nd rfl (Or.inl rfl) (pv 4)))))
  (pss_cons (ps_if (PW.pt (pw_or (pt_cmpR (op_isU) (pv 3) pe_non (nomark _)) (pw_or (pt_val (pe_callB (call_isX (K := K)) (by rfl) B.isinstance (by decide +kernel) (pa_cons (pv 3) (pa_cons (pe_tup (pa_cons (pe_gR (by rfl) gBadGrammar) (pa_cons (pe_gR (by rfl) gBadRow) (pa_cons (pe_gR (by rfl) gNoOp) pa_nil)))) pa_nil)))) (pw_or1 (pt_not (pt_val (pe_callB (call_isX (K := K)) (by rfl) B.isinstance (by decide +kernel) (pa_cons (pv 3) (pa_cons (pe_bltn (v := .ty "ValueError") (by rfl) B.ValueError (by decide +kernel) rfl) pa_nil))))))))) (pss_one (ps_ret pe_bl)) pss_nil)
  (pss_one (ps_ret (pe_and (pe_cmpR (op_eqU (K := K) hr) (pe_fldOf (K := K) (pv 3)) (pv 0) (nomark _)) (pe_one (pe_cmpR (op_eqU (K := K) hr) (pe_fldOf (K := K) (pv 3)) (pv 2) (nomark _))))))))), rfl, ?_⟩
  walk_at "sx"
  refine ⟨o, M, a, ns, c, rfl, hc1, hc9, hM, hb, hl, hn, (fun z => absurd (z.symm.trans ho) (by decide)), fun _ d H hd e hx => ⟨true, k3, fun _ b hbn => ?_, fun z => nomatch z⟩⟩
  replace hw := hw.adopt e hd hx
  replace hw := hw.new hbn (exk b (.ref CN) (some d))
  walk_at "sx"
  refine x_isXT T (hw.at 1 rfl) (hw.at 2 rfl) (hw.at 0 rfl) (.cons (.own _) (.cons (.own _) (.cons (.own _) .nil))) k1 ?_
  walk_at "sx"
  refine x_isX1 T (hw.at 1 rfl) (hw.at 2 rfl) k2 ?_
  walk_at "sx"
  refine ⟨b, CN, d, _, _, _, _, rfl, hw.at 1 rfl, hw.at 2 rfl, T, n1, rfl, ?_⟩
  walk_at "sx"
  refine ⟨b, CN, d, _, _, _, _, rfl, hw.at 1 rfl, hw.at 2 rfl, T, n2, rfl, ?_⟩
  walk_at "sx"
  exact q _ hw.ex
end
end Law
namespace Law
open PySem PySem.Spec PyProof.Rows L2 Fw
abbrev s_law_let_right : Stmt := topS 28
theorem sc_law_let_right : FnScope ["_law_box", "_law_word", "_law_many", "_law_top", "_law_some", "_law_due_here", "_law_kept", "_law_told", "_law_more", "_law_at", "_law_place", "_law_one"] ["_law_box", "_law_word", "_law_many", "_law_top"] (defScope s_law_let_right) := ⟨rfl, rfl, rfl, by decide +kernel, rfl, by decide +kernel, by decide +kernel⟩

theorem cut_cut {c n : Int} : cutI c (cutI c n) = cutI c n := by
  unfold cutI
  split <;> (try split) <;> omega
theorem capped_cut {o : Op} {ns : List Int} {c : Int} (hl : o.let' = true) (hn : ns.length = o.many) : o.capped (ns.map (cutI c)) c = o.capped ns c := by
  cases o <;> try cases hl
  · obtain ⟨x, rfl⟩ := len1 hn
    show cutI c (cutI c (cutI c x)) = cutI c (cutI c x)
    rw [cut_cut, cut_cut]
  all_goals
    obtain ⟨x, y, rfl⟩ := len2 hn
    simp only [Op.capped, List.map_cons, List.map_nil, cut_cut]
theorem capped_in {o : Op} {ns : List Int} {c : Int} (hl : o.let' = true) (hn : ns.length = o.many) (hW : ∀ n ∈ ns, Worth n) (h1 : 1 ≤ c) : 0 ≤ o.capped ns c ∧ o.capped ns c ≤ c := by
  have b : ∀ n, Worth n → 0 ≤ cutI c n ∧ cutI c n ≤ c := fun n h => by unfold cutI; have := h.1; split <;> omega
  have g : ∀ n : Int, 0 ≤ n → 0 ≤ cutI c n ∧ cutI c n ≤ c := fun n h => by unfold cutI; split <;> omega
  cases o <;> try cases hl
  · obtain ⟨x, rfl⟩ := len1 hn
    exact g _ (b x (hW x (by simp))).1
  all_goals
    obtain ⟨x, y, rfl⟩ := len2 hn
    have h2 := b x (hW x (by simp))
    have h3 := b y (hW y (by simp))
    refine g _ ?_
    first | omega | (split <;> omega)
theorem cut_mono {c m n : Int} (h : m ≤ n) : cutI c m ≤ cutI c n := by
  unfold cutI
  split <;> split <;> omega
theorem capped_more {o : Op} {ns : List Int} {c v : Int} {i : Nat} (hl : o.let' = true) (hn : ns.length = o.many) (hi : i < ns.length) (hv : ns[i] ≤ v) : o.capped ns c ≤ o.capped (ns.set i v) c := by
  cases o <;> try cases hl
  · obtain ⟨x, rfl⟩ := len1 hn
    obtain rfl : i = 0 := by simp at hi; omega
    exact cut_mono (cut_mono hv)
  all_goals
    obtain ⟨x, y, rfl⟩ := len2 hn
    have h2 : i = 0 ∨ i = 1 := by simp at hi; omega
    rcases h2 with rfl | rfl
    · have h3 : cutI c x ≤ cutI c v := cut_mono hv
      refine cut_mono ?_
      first | omega | (split <;> split <;> omega)
    · have h3 : cutI c y ≤ cutI c v := cut_mono hv
      refine cut_mono ?_
      first | omega | (split <;> split <;> omega)
theorem worth_set {rs : List Int} {j : Nat} {u : Int} (hW : ∀ n ∈ rs, Worth n) (hu : Worth u) : ∀ n ∈ rs.set j u, Worth n := fun n h => by
  rcases List.mem_or_eq_of_mem_set h with h | h
  · exact hW n h
  · rw [h]; exact hu
theorem x_worth {K : PySem.W.Frag} {H0 H : Hp} {Ms M0 : List Addr} {L : List (Addr × HO)} {R : List Fa} {b : Addr} {a s c t : Int} {Q : VK} {E : XK} (hw : W K H0 Ms M0 H L R) (n : Nat) (hL : L[n]? = some (b, box a s c)) (bx : Bx a s c) (hc : c + 3 < 2 ^ 40) (h1 : 1 ≤ t) (h9 : t ≤ 9)
    (q : ∀ r a' c' H', 0 ≤ r → r < 1000000 → Bx a' s c' → c' ≤ c + 3 → W K H0 Ms M0 H' (L.set n (b, box a' s c')) R → Q (.int r) H') : spWorth ([.ref b, .int t] ++ []) H Q E :=
  ⟨b, a, s, c, t, rfl, h1, h9, hw.at n hL, bx, hc, fun r a' c' H' r0 bx' c1 e hb => q r a' c' H' r0.1 r0.2 bx' c1 (hw.call n hL e hb)⟩
theorem ixN_in {n : Nat} {m : Int} (h0 : 0 ≤ m) (h1 : m < n) : ixN n m = some m.toNat := by
  unfold ixN
  rw [if_pos h0, if_pos h1]
theorem x_reck {K : PySem.W.Frag} {H0 H : Hp} {Ms M0 : List Addr} {L : List (Addr × HO)} {R : List Fa} {o : Op} {D CN : Addr} {rs : List Int} {t : Int} {Q : VK} {E : XK} (hw : W K H0 Ms M0 H L R) (n : Nat) (hL : L[n]? = some (D, .lst (rs.map V.int))) (ho : o.let' = true) (h1 : 1 ≤ t) (h9 : t ≤ 9)
    (hl : rs.length = o.many) (hW : ∀ n ∈ rs, Worth n) (q : ∀ H', W K H0 Ms M0 H' L R → Q (.int (o.capped rs t)) H') : spReckoned K CN [.str o.name, .ref D, .int t] H Q E :=
  ⟨o, [], D, rs, t, rfl, h1, h9, (fun _ z => nomatch z), .lst (by rw [del_nil]; exact hw.at n hL) (DdAll.ints _), hl, hW, fun _ H' e => q H' (hw.pure e), fun z => absurd (z.symm.trans ho) (by decide)⟩
theorem x_reck2 {K : PySem.W.Frag} {H0 H : Hp} {Ms M0 : List Addr} {L : List (Addr × HO)} {R : List Fa} {o : Op} {D CN : Addr} {rs : List Int} {xs : List V} {t : Int} {Q : VK} {E : XK} (hw : W K H0 Ms M0 H L R) (n : Nat) (hL : L[n]? = some (D, .lst xs)) (hx : xs = rs.map V.int) (ho : o.let' = true) (h1 : 1 ≤ t) (h9 : t ≤ 9)
    (hl : rs.length = o.many) (hW : ∀ n ∈ rs, Worth n) (q : ∀ H', W K H0 Ms M0 H' L R → Q (.int (o.capped rs t)) H') : spReckoned K CN [.str o.name, .ref D, .int t] H Q E := by
  subst hx
  exact x_reck hw n hL ho h1 h9 hl hW q
def spLR : Sp := fun vs H Q _ => ∃ (o : Op) (b : Addr) (a s c t : Int), vs = [.ref b, .str o.name, .int o.many, .int t] ∧ o.let' = true ∧ 1 ≤ t ∧ t ≤ 9 ∧ H b = some (box a s c) ∧ Bx a s c ∧ c + 11 < 2 ^ 40 ∧
  ∀ a' c' H', Bx a' s c' → c' ≤ c + 11 → Ex [b] H H' → H' b = some (box a' s c') → Q (.bl true) H'
section
variable {P : Program} {w : World} {K : PySem.W.Frag} {mg : Str → Option Value} {base : Heap} {f : Addr} {fd : FuncData} {k : Nat} {kws : List (Str × V)}
theorem ok_lr (F : Fun K "_law_let_right" "_law_let_right" s_law_let_right f fd) (B : Blt3 mg) {CN : Addr} (Greckoned_2_cap : FnN P w K mg base (L2.CX P w) 3 "reckoned" 2 ["cap"] (fun vs zs => vs ++ zs) (spReckoned K CN))
    (Greckoned_0_cap_numbers_op : FnN P w K mg base (L2.CX P w) 3 "reckoned" 0 ["cap", "numbers", "op"] (fun _ zs => zs.reverse) (spReckoned K CN)) (G_law_take : Fn P w K mg base CX0 1 "_law_take" ["_law_box", "_law_many"] spTake)
    (G_law_worth : Fn P w K mg base CX0 2 "_law_worth" ["_law_box", "_law_top"] spWorth) (G_law_due : Fn P w K mg base CX0 1 "_law_due" ["_law_word", "_law_some", "_law_top"] (spDue K)) : FnOk P w K mg base CX0 4 f fd ["_law_box", "_law_word", "_law_many", "_law_top"] spLR := by
  refine okS F sc_law_let_right (fun vs H Q E h => ?_) (fun cdv A outer s H0 vs Q E hr h => ?_)
  · obtain ⟨o, b, a, s, c, t, rfl, _⟩ := h
    rfl
  obtain ⟨o, b, a, s, c, t, rfl, ho, ht1, ht9, hb, bx, hc, q⟩ := h
  have hmany : o.many ≤ 2 := by cases o <;> first | decide | cases ho
  have hm0 : 0 < o.many := by cases o <;> decide
  have hw : W K H0 [b] [] H0 [(b, box a s c)] [] := W.start1 hb (fun _ z => nomatch z) (fun _ z => nomatch z)
  refine ⟨_, [some (.ref b), some (.str o.name), some (.int o.many), some (.int t), none, none, none, none, none, none, none, none], (pss_cons (ps_setLc (i := 4) (own := [("_law_place", 10)]) rfl sc_law_let_right.nd rfl rfl (sw_true rfl rfl rfl (by decide +kernel)) (pi_range1 (by rfl) B.range (pa_cons (pv 2) pa_nil)) (blkOk_by (own := [("_law_place", 10)]) (N := ["_law_box", "_law_word", "_law_many", "_law_top", "_law_some", "_law_due_here", "_law_kept", "_law_told", "_law_more", "_law_at", "_law_place", "_law_one"]) (sc := defScope s_law_let_right) (by decide +kernel)) (fun _ _ _ _ _ => (pg_name (i := 10) sc_law_let_right.nd rfl (Or.inl rfl))) (fun _ _ _ _ _ => pts_nil) (fun _ _ _ _ _ => (pe_fn G_law_worth hr (by decide) (by rfl) pass0 (pa_cons (pv 0) (pa_cons (pv 3) pa_nil)))))
  (pss_cons (ps_par (i := 5) (j := 6) rfl sc_law_let_right.nd rfl rfl (by decide) rfl rfl (pa_cons (pe_fn G_law_due hr (by decide) (by rfl) pass0 (pa_cons (pv 1) (pa_cons (pv 4) (pa_cons (pv 3) pa_nil)))) (pa_cons (pe_callTy (call_listU (K := K)) (by rfl) B.list (by decide +kernel) (pa_cons (pv 4) pa_nil)) pa_nil)) (by rfl))
  (pss_cons (ps_set (i := 7) sc_law_let_right.nd rfl (Or.inl rfl) (pe_fnN Greckoned_2_cap hr (by decide) (by rfl) passL (pa_cons (pv 1) (pa_cons (pv 4) pa_nil)) (pk_cons (pv 3) pk_nil)))
  (pss_cons (ps_if (PW.pt (pw_or (pt_val (pe_callB (call_isiU (K := K)) (by rfl) B.isinstance (by decide +kernel) (pa_cons (pv 7) (pa_cons (pe_bltn (v := .ty "bool") (by rfl) B.bool (by decide +kernel) rfl) pa_nil)))) (pw_or (pt_cmpR (op_neU (K := K) hr) (pv 7) (pv 5) (nomark _)) (pw_or (pt_cmpR (op_neU (K := K) hr) (pe_fnN0 Greckoned_0_cap_numbers_op hr (by decide) (by rfl) passL (pk_cons (pv 3) (pk_cons (pv 4) (pk_cons (pv 1) pk_nil)))) (pv 5) (nomark _)) (pw_or1 (pt_cmpR (op_neU (K := K) hr) (pv 4) (pv 6) (nomark _))))))) (pss_one (ps_ret pe_bl)) pss_nil)
  (pss_cons (ps_if (PW.pt (pw_or (pt_not (pt_chain (op_le) (op_le) pe_int (pv 7) (pv 3))) (pw_or1 (pt_cmpR (op_neU (K := K) hr) (pe_fnN Greckoned_2_cap hr (by decide) (by rfl) passL (pa_cons (pv 1) (pa_cons (pe_lc (own := [("_law_one", 11)]) rfl sc_law_let_right.nd (pi_U (K := K) (pv 4)) (blkOk_by (own := [("_law_one", 11)]) (N := ["_law_box", "_law_word", "_law_many", "_law_top", "_law_some", "_law_due_here", "_law_kept", "_law_told", "_law_more", "_law_at", "_law_place", "_law_one"]) (sc := defScope s_law_let_right) (by decide +kernel)) (fun _ _ _ _ _ => (pg_name (i := 11) sc_law_let_right.nd rfl (Or.inl rfl))) (fun _ _ _ _ _ => pts_nil) (fun _ _ _ _ _ => (pe_callB (call_minU (K := K) rfl) (by rfl) B.min (by decide +kernel) (pa_cons (pv 3) (pa_cons (pv 11) pa_nil))))) pa_nil)) (pk_cons (pv 3) pk_nil)) (pv 5) (nomark _))))) (pss_one (ps_ret pe_bl)) pss_nil)
  (pss_cons (ps_par (i := 8) (j := 9) rfl sc_law_let_right.nd rfl rfl (by decide) rfl rfl (pa_cons (pe_callTy (call_listU (K := K)) (by rfl) B.list (by decide +kernel) (pa_cons (pv 4) pa_nil)) (pa_cons (pe_fn G_law_take hr (by decide) (by rfl) pass0 (pa_cons (pv 0) (pa_cons (pv 2) pa_nil))) pa_nil)) (by rfl))
  (pss_cons (ps_asg (pe_callB (call_minU (K := K) rfl) (by rfl) B.min (by decide +kernel) (pa_cons (pe_op op_sub (pe_powc (z := 1000000) ⟨by decide, by decide, by decide⟩ (by rfl)) pe_int) (pa_cons (pe_op (op_addU (K := K)) (pe_op (op_addU (K := K)) (pe_ix (ix_U (K := K)) (pv 8) (pv 9) (fun _ _ => rfl)) pe_int) (pe_fn G_law_take hr (by decide) (by rfl) pass0 (pa_cons (pv 0) (pa_cons pe_int pa_nil)))) pa_nil))) (pg_sub (pv 8) (pv 9) set_list))
  (pss_one (ps_ret (pe_cmpR (op_ge) (pe_fnN Greckoned_2_cap hr (by decide) (by rfl) passL (pa_cons (pv 1) (pa_cons (pv 8) pa_nil)) (pk_cons (pv 3) pk_nil)) (pv 7) (nomark _))))))))))), rfl, ?_⟩
  walk_at "sx"
  refine w_lcK hw walk_range (fun D i1 H' => ∃ (rs : List Int) (a3 c3 : Int), rs.length = i1 ∧ (∀ n ∈ rs, Worth n) ∧ Bx a3 s c3 ∧ c3 ≤ c + 3 * i1 ∧ W K H0 [b] [] H' [(D, .lst (rs.map V.int)), (b, box a3 s c3)] []) ?_ ?_ ?_ ?_
  · intro D H _ hw
    exact ⟨[], a, c, rfl, fun n h => (nomatch h), bx, by omega, hw⟩
  · intros
    trivial
  · rintro D i1 x3 H _ hi1 ⟨rs, a3, c3, hl, hW, bx, hc3, hw⟩ ⟨rfl, rfl⟩
    have hi3 : i1 < o.many := by omega
    walk_at "sx"
    refine x_worth hw 1 rfl bx (by omega) ht1 ht9 fun r a4 c4 H r0 r1 bx hc4 hw => ?_
    simp only [List.set_cons_zero, List.set_cons_succ] at hw
    walk_at "sx"
    refine ⟨rs ++ [r], a4, c4, by rw [List.length_append, hl]; rfl, fun n h => ?_, bx, by omega, by rw [List.map_append]; exact hw⟩
    rcases List.mem_append.mp h with h | h
    · exact hW n h
    · rw [List.mem_singleton.mp h]; exact ⟨r0, r1⟩
  rintro D H ⟨rs, a3, c3, hl, hW, bx, hc3, hw⟩
  rw [Int.toNat_natCast] at hl
  have hc4 : c3 ≤ c + 6 := by omega
  have hK := capped_in ho hl hW ht1
  have hI := capped_cut (c := t) ho hl
  walk_at "sx"
  refine ⟨o, [], D, rs, t, rfl, ho, ht1, ht9, (fun _ z => nomatch z), .lst (by rw [del_nil]; exact hw.at 0 rfl) (DdAll.ints _), hl, hW, fun H e => ?_⟩
  replace hw := hw.pure e
  walk_at "sx"
  refine x_reck hw 1 rfl ho ht1 ht9 hl hW fun H hw => ?_
  walk_at "sx"
  refine x_reck hw 1 rfl ho ht1 ht9 hl hW fun H hw => ?_
  walk_at "sx"
  refine w_lcK hw (walk_list (xs := rs.map V.int)) (fun D1 i H' => W K H0 [b] [] H' [(D1, .lst (((rs.take i).map (cutI t)).map V.int)), (p, .lst (rs.map V.int)), (D, .lst (rs.map V.int)), (b, box a3 s c3)] []) ?_ ?_ ?_ ?_
  · intro D H _ hw
    exact hw
  · intro D i H _ hw
    exact SqL.of (hw.at 2 rfl)
  · rintro D1 i x H _ hi hw ⟨rfl, hx⟩
    rw [List.getElem?_map] at hx
    obtain ⟨n, hn1, rfl⟩ := Option.map_eq_some_iff.mp hx
    have e : (rs.take (i + 1)).map (cutI t) = (rs.take i).map (cutI t) ++ [cutI t n] := by
      rw [List.take_add_one, hn1]; simp
    walk_at "sx"
    rw [e, List.map_append]
    exact hw
  intro D1 H hw
  rw [List.length_map, List.take_length] at hw
  walk_at "sx"
  refine x_reck hw 0 rfl ho ht1 ht9 (by rw [List.length_map]; exact hl) (fun n h => ?_) fun H hw => ?_
  · obtain ⟨m, hm, rfl⟩ := List.mem_map.mp h
    have := (hW m hm).1
    unfold cutI Worth
    split <;> omega
  rw [hI]
  walk_at "sx"
  have hr2 : r < rs.length := by omega
  obtain ⟨j, hj⟩ : ∃ j, j = r.toNat := ⟨_, rfl⟩
  have hix : ixN (rs.map V.int).length r = some j := by rw [hj]; exact ixN_in hr0 (by rw [List.length_map]; exact hr2)
  have hj1 : j < rs.length := by omega
  have hat : atI (rs.map V.int) r = some (.int rs[j]) := by
    have z := at_ints hr0 hr2
    subst hj
    exact z
  obtain ⟨x, hx⟩ : ∃ x, x = rs[j] := ⟨_, rfl⟩
  rw [← hx] at hat
  obtain ⟨hx0, hx1⟩ := hW x (by rw [hx]; exact List.getElem_mem _)
  walk_at "sx"
  refine x_reck2 hw 0 rfl List.map_set.symm ho ht1 ht9 (by rw [List.length_set]; exact hl) (worth_set hW ⟨by split <;> omega, by split <;> omega⟩) fun H hw => ?_
  walk_at "sx"
  rw [decide_eq_true (capped_more ho hl hj1 (by rw [← hx]; split <;> omega))]
  exact q _ _ _ bx (by omega) hw.ex (hw.at 4 rfl)
end
end Law
namespace Law
open PySem PySem.Spec PyProof.Rows L2 Fw
abbrev slaw : Stmt := topS 30
theorem sclaw : FnScope ["_law_script", "_law_cells", "_law_fine", "_law_bad", "_law_k", "_law_box", "_law_top", "_law_word", "_law_many", "_law_some", "_law_turn", "_law_place"] ["_law_script"] (defScope slaw) := ⟨rfl, rfl, rfl, by decide +kernel, rfl, by decide +kernel, by decide +kernel⟩

def opD (o : Op) : PyData := .tuple [.str o.name, .int o.many]
def fineO : List Op := [.copy, .plus, .least, .most]
def badO : List Op := [.less, .times, .over, .rest, .same, .under, .pick]
def spLaw (K : PySem.W.Frag) : Sp := fun vs H Q _ => ∃ (a : Addr) (ns : List Int), vs = [.ref a] ∧ SqL K H a (ns.map V.int) ∧ ns.length ≤ 63 ∧ ∀ H', Q (.bl true) H'
section
variable {P : Program} {w : World} {K : PySem.W.Frag} {mg : Str → Option Value} {base : Heap} {f : Addr} {fd : FuncData} {k : Nat} {kws : List (Str × V)}
theorem ok_law (F : Fun K "law" "law" slaw f fd) (B : Blt3 mg) (G_law_folded : Fn P w K mg base CX0 1 "_law_folded" ["_law_script", "_law_size"] (spFolded K)) (G_law_dip : Fn P w K mg base CX0 1 "_law_dip" ["_law_script", "_law_k"] (spDip K)) (G_law_take : Fn P w K mg base CX0 1 "_law_take" ["_law_box", "_law_many"] spTake)
    (G_law_worth : Fn P w K mg base CX0 2 "_law_worth" ["_law_box", "_law_top"] spWorth) (G_law_let_right : Fn P w K mg base CX0 4 "_law_let_right" ["_law_box", "_law_word", "_law_many", "_law_top"] spLR) (G_law_refused : Fn P w K mg base CX0 4 "_law_refused" ["_law_word", "_law_some", "_law_top"] (spRefused K))
    (Gop_let_1_cap : FnN P w K mg base CX0 1 "op_let" 1 ["cap"] (fun vs zs => vs ++ zs) spLet) : FnOk P w K mg base CX0 5 f fd ["_law_script"] (spLaw K) := by
  refine okS F sclaw (fun vs H Q E h => ?_) (fun cdv A outer s H0 vs Q E hr h => ?_)
  · obtain ⟨a, ns, rfl, _⟩ := h
    rfl
  obtain ⟨a, ns, rfl, hb, hn, q⟩ := h
  have hw : W K H0 [] [] H0 [] [] := W.start0 (fun _ z => nomatch z) (fun _ z => nomatch z)
  refine ⟨_, [some (.ref a), none, none, none, none, none, none, none, none, none, none, none], (pss_cons (ps_set (i := 1) sclaw.nd rfl (Or.inl rfl) (pe_fn G_law_folded hr (by decide) (by rfl) pass0 (pa_cons (pv 0) (pa_cons pe_int pa_nil))))
  (pss_cons (ps_par (i := 2) (j := 3) rfl sclaw.nd rfl rfl (by decide) rfl rfl (pa_cons (pe_lst (pa_cons (pe_tup (pa_cons pe_str (pa_cons pe_int pa_nil))) (pa_cons (pe_tup (pa_cons pe_str (pa_cons pe_int pa_nil))) (pa_cons (pe_tup (pa_cons pe_str (pa_cons pe_int pa_nil))) (pa_cons (pe_tup (pa_cons pe_str (pa_cons pe_int pa_nil))) pa_nil))))) (pa_cons (pe_lst (pa_cons (pe_tup (pa_cons pe_str (pa_cons pe_int pa_nil))) (pa_cons (pe_tup (pa_cons pe_str (pa_cons pe_int pa_nil))) (pa_cons (pe_tup (pa_cons pe_str (pa_cons pe_int pa_nil))) pa_nil)))) pa_nil)) (by rfl))
  (pss_cons (ps_set (i := 3) sclaw.nd rfl (Or.inl rfl) (pe_op (op_addU (K := K)) (pv 3) (pe_lst (pa_cons (pe_tup (pa_cons pe_str (pa_cons pe_int pa_nil))) (pa_cons (pe_tup (pa_cons pe_str (pa_cons pe_int pa_nil))) (pa_cons (pe_tup (pa_cons pe_str (pa_cons pe_int pa_nil))) (pa_cons (pe_tup (pa_cons pe_str (pa_cons pe_int pa_nil))) pa_nil)))))))
  (pss_cons (ps_for PassesOwn.never rfl (pi_range1 (by rfl) B.range (pa_cons (pe_op (op_addU (K := K)) pe_int (pe_callB (call_lenU (K := K)) (by rfl) B.len (by decide +kernel) (pa_cons (pv 1) pa_nil))) pa_nil)) (pg_name (i := 4) sclaw.nd rfl (Or.inl rfl)) (pss_cons (ps_set (i := 5) sclaw.nd rfl (Or.inr rfl) (pe_fn G_law_dip hr (by decide) (by rfl) pass0 (pa_cons (pv 1) (pa_cons (pv 4) pa_nil))))
  (pss_one (ps_for PassesOwn.never rfl (pi_range2 (by rfl) B.range (pa_cons pe_int (pa_cons pe_int pa_nil))) (pg_name (i := 6) sclaw.nd rfl (Or.inr rfl)) (pss_cons (ps_for PassesOwn.never rfl (pi_U (K := K) (pv 2)) (pg_T (K := K) (n := 2) rfl (pgs_cons (pg_name (i := 7) sclaw.nd rfl (Or.inr rfl)) (pgs_cons (pg_name (i := 8) sclaw.nd rfl (Or.inr rfl)) pgs_nil))) (pss_one (ps_if (pt_not (pt_val (pe_callB (call_allU (K := K) rfl) (by rfl) B.all (by decide +kernel) (pa_cons (pe_lc (own := [("_law_turn", 10)]) rfl sclaw.nd (pi_range1 (by rfl) B.range (pa_cons pe_int pa_nil)) (blkOk_by (own := [("_law_turn", 10)]) (N := ["_law_script", "_law_cells", "_law_fine", "_law_bad", "_law_k", "_law_box", "_law_top", "_law_word", "_law_many", "_law_some", "_law_turn", "_law_place"]) (sc := defScope slaw) (by decide +kernel)) (fun _ _ _ _ _ => (pg_name (i := 10) sclaw.nd rfl (Or.inl rfl))) (fun _ _ _ _ _ => pts_nil) (fun _ _ _ _ _ => (pe_fn G_law_let_right hr (by decide) (by rfl) pass0 (pa_cons (pv 5) (pa_cons (pv 7) (pa_cons (pv 8) (pa_cons (pv 6) pa_nil))))))) pa_nil)))) (pss_one (ps_ret pe_bl)) pss_nil)))
  (pss_cons (ps_asg (pe_ix (ix_U (K := K)) (pv 3) (pe_fn G_law_take hr (by decide) (by rfl) pass0 (pa_cons (pv 5) (pa_cons pe_int pa_nil))) (fun _ _ => rfl)) (pg_T (K := K) (n := 2) rfl (pgs_cons (pg_name (i := 7) sclaw.nd rfl (Or.inr rfl)) (pgs_cons (pg_name (i := 8) sclaw.nd rfl (Or.inr rfl)) pgs_nil))))
  (pss_cons (ps_setLc (i := 9) (own := [("_law_place", 11)]) rfl sclaw.nd rfl rfl (sw_true rfl rfl rfl (by decide +kernel)) (pi_range1 (by rfl) B.range (pa_cons (pv 8) pa_nil)) (blkOk_by (own := [("_law_place", 11)]) (N := ["_law_script", "_law_cells", "_law_fine", "_law_bad", "_law_k", "_law_box", "_law_top", "_law_word", "_law_many", "_law_some", "_law_turn", "_law_place"]) (sc := defScope slaw) (by decide +kernel)) (fun _ _ _ _ _ => (pg_name (i := 11) sclaw.nd rfl (Or.inl rfl))) (fun _ _ _ _ _ => pts_nil) (fun _ _ _ _ _ => (pe_fn G_law_worth hr (by decide) (by rfl) pass0 (pa_cons (pv 5) (pa_cons (pv 6) pa_nil)))))
  (pss_one (ps_if (PW.pt (pw_or (pt_not (pt_val (pe_fn G_law_refused hr (by decide) (by rfl) pass0 (pa_cons (pv 7) (pa_cons (pv 9) (pa_cons (pv 6) pa_nil)))))) (pw_or1 (pt_cmpR (op_isNotU) (pe_fnN Gop_let_1_cap hr (by decide) (by rfl) pass0 (pa_cons (pv 7) pa_nil) (pk_cons (pv 6) pk_nil)) pe_bl (nomark _))))) (pss_one (ps_ret pe_bl)) pss_nil)))))))))
  (pss_one (ps_ret pe_bl)))))), rfl, ?_⟩
  walk_at "sx"
  refine ⟨a, ns, 4, rfl, hb, by decide, by decide, by omega, fun ms pc H hm hpc e hc => ?_⟩
  replace hw := hw.pure e
  replace hw := hw.addF (r := .kn pc (.lst (ms.map V.int))) (by rw [av, List.map_nil, List.nil_append]; show del H [] pc = _; rw [del_nil]; exact hc)
  walk_at "sxd"
  rename_i pf _ _ _ _ _ _ _ _ _ _ _ _ _ _ _ _ _ _ _ _ _ _ _ _ _ _ _ _ _ _ _ _ _ _ _ _ _ _ _ 
  replace hw : W K H0 [] [] H [] [.rp (.ref pf) (.list (fineO.map opD)), .rp (.ref p) (.list (badO.map opD)), .kn pc (.lst (ms.map V.int))] := hw.pick [10, 0, 15] rfl
  obtain ⟨xf, hxf, hw⟩ := hw.open (hw.rp 0 rfl)
  replace hw : W K H0 [] [] H [] [.kn pf (.lst xf), .rp (.ref pf) (.list (fineO.map opD)), .rp (.ref p) (.list (badO.map opD)), .kn pc (.lst (ms.map V.int))] := hw
  obtain ⟨xb, hxb, hw⟩ := hw.open (hw.rp 2 rfl)
  replace hw : W K H0 [] [] H [] [.kn p (.lst xb), .rp (.ref p) (.list (badO.map opD)), .kn pf (.lst xf), .rp (.ref pf) (.list (fineO.map opD)), .kn pc (.lst (ms.map V.int))] := hw.pick [0, 3, 1, 2, 4] rfl
  have hlf : xf.length = 4 := hxf.length
  have hlb : xb.length = 7 := hxb.length
  have hm4 : ms.length ≤ 4 := by omega
  walk_at "sx"
  refine w_for walk_range (fun i σ H' => ∃ y4 y5 y6 y7 y8 y9 y10 y11 : Option V, σ = [some (.ref a), some (.ref pc), some (.ref pf), some (.ref p), y4, y5, y6, y7, y8, y9, y10, y11] ∧ W K H0 [] [] H' [] [.kn p (.lst xb), .rp (.ref p) (.list (badO.map opD)), .kn pf (.lst xf), .rp (.ref pf) (.list (fineO.map opD)), .kn pc (.lst (ms.map V.int))]) ?_ ?_ ?_ ?_
  · exact ⟨_, _, _, _, _, _, _, _, rfl, hw⟩
  · intros
    trivial
  · rintro i x σ H H' hi ⟨y4, y5, y6, y7, y8, y9, y10, y11, rfl, hw⟩ ⟨rfl, rfl⟩
    rw [List.length_map] at hi
    walk_at "sx"
    refine ⟨[], pc, ms, _, rfl, (fun _ z => nomatch z), .lst (by rw [del_nil]; exact hw.kn 4 rfl) (DdAll.ints ms), by omega, by omega, fun x y pb H bx hpb e hb => ?_⟩
    replace hw := hw.adopt e hpb hb
    walk_at "sx"
    refine w_for walk_range (fun j σ H' => ∃ (a1 c1 : Int) (y6 y7 y8 y9 y10 y11 : Option V), σ = [some (.ref a), some (.ref pc), some (.ref pf), some (.ref p), some (.int (0 + i)), some (.ref pb), y6, y7, y8, y9, y10, y11] ∧ Bx a1 y c1 ∧ c1 ≤ 200 * j ∧ W K H0 [] [] H' [(pb, box a1 y c1)] [.kn p (.lst xb), .rp (.ref p) (.list (badO.map opD)), .kn pf (.lst xf), .rp (.ref pf) (.list (fineO.map opD)), .kn pc (.lst (ms.map V.int))]) ?_ ?_ ?_ ?_
    · exact ⟨x, 0, _, _, _, _, _, _, rfl, bx, by omega, hw⟩
    · intros
      trivial
    · rintro j x1 σ H _ hj ⟨a1, c1, y6, y7, y8, y9, y10, y11, rfl, bx, hc1, hw⟩ ⟨rfl, rfl⟩
      have hj9 : j < 9 := by first | exact hj | omega
      walk_at "sx"
      have hJ : 1 ≤ 1 + (j : Int) ∧ 1 + (j : Int) ≤ 9 := by omega
      refine w_for (walk_list (xs := xf)) (fun m σ H' => ∃ (a2 c2 : Int) (y7 y8 y9 y10 y11 : Option V), σ = [some (.ref a), some (.ref pc), some (.ref pf), some (.ref p), some (.int (0 + i)), some (.ref pb), some (.int (1 + j)), y7, y8, y9, y10, y11] ∧ Bx a2 y c2 ∧ c2 ≤ c1 + 44 * m ∧ W K H0 [] [] H' [(pb, box a2 y c2)] [.kn p (.lst xb), .rp (.ref p) (.list (badO.map opD)), .kn pf (.lst xf), .rp (.ref pf) (.list (fineO.map opD)), .kn pc (.lst (ms.map V.int))]) ?_ ?_ ?_ ?_
      · exact ⟨a1, c1, _, _, _, _, _, rfl, bx, by omega, hw⟩
      · rintro m σ H _ ⟨a2, c2, y7, y8, y9, y10, y11, rfl, bx, hc, hw⟩
        exact SqL.of (hw.kn 2 rfl)
      · rintro m x2 σ H _ hm1 ⟨a2, c2, y7, y8, y9, y10, y11, rfl, bx, hc2, hw⟩ ⟨rfl, hx2⟩
        have hm44 : m < 4 := by omega
        obtain ⟨d, hd, hrp⟩ := Rp.item (hw.rp 3 rfl) (hw.kn 2 rfl) hx2
        rw [List.getElem?_map] at hd
        obtain ⟨o, ho1, rfl⟩ := Option.map_eq_some_iff.mp hd
        have ho : o.let' = true := by
          have z := List.mem_of_getElem? ho1
          simp only [fineO, List.mem_cons, List.not_mem_nil, or_false] at z
          rcases z with rfl | rfl | rfl | rfl <;> rfl
        obtain ⟨t, v1, v2, rfl, hT, hv1, hv2⟩ := Rp.tup2 hrp
        cases Rp.str_inv hv1
        cases Rp.int_inv hv2
        walk_at "sx"
        refine w_lcK hw walk_range (fun D i1 H' => ∃ (a3 c3 : Int), Bx a3 y c3 ∧ c3 ≤ c2 + 11 * i1 ∧ W K H0 [] [] H' [(D, .lst (List.replicate i1 (.bl true))), (pb, box a3 y c3)] [.kn p (.lst xb), .rp (.ref p) (.list (badO.map opD)), .kn pf (.lst xf), .rp (.ref pf) (.list (fineO.map opD)), .kn pc (.lst (ms.map V.int))]) ?_ ?_ ?_ ?_
        · intro D H _ hw
          exact ⟨a2, c2, bx, by omega, hw⟩
        · intros
          trivial
        · rintro D i1 x3 H _ hi1 ⟨a3, c3, bx, hc3, hw⟩ ⟨rfl, rfl⟩
          have hi4 : i1 < 4 := hi1
          walk_at "sx"
          refine ⟨o, pb, a3, y, c3, _, rfl, ho, hJ.1, hJ.2, hw.at 1 rfl, bx, by omega, fun a4 c4 H bx hc4 e hb => ?_⟩
          replace hw := hw.call 1 rfl e hb
          simp only [List.set_cons_zero, List.set_cons_succ] at hw
          walk_at "sx"
          refine ⟨a4, c4, bx, by omega, ?_⟩
          rw [List.replicate_succ']
          exact hw
        · rintro D H ⟨a3, c3, bx, hc3, hw⟩
          have hc4 : c3 ≤ c2 + 44 := by omega
          walk_at "sx"
          refine x_allT (n := 4) (hw.at 0 rfl) ?_
          replace hw := hw.drop1
          walk_at "sx"
          exact ⟨_, _, _, _, _, _, _, rfl, bx, by omega, hw⟩
      · rintro σ H ⟨a2, c2, y7, y8, y9, y10, y11, rfl, bx, hc2, hw⟩
        have hc5 : c2 ≤ c1 + 176 := by omega
        walk_at "sx"
        refine x_ixAny (SqL.of (hw.kn 0 rfl)) (by omega) (by omega) fun v hv => ?_
        obtain ⟨n, hn1⟩ := List.getElem?_of_mem hv
        obtain ⟨d, hd, hrp⟩ := Rp.item (hw.rp 1 rfl) (hw.kn 0 rfl) hn1
        rw [List.getElem?_map] at hd
        obtain ⟨o, ho1, rfl⟩ := Option.map_eq_some_iff.mp hd
        have ho : o.let' = false := by
          have z := List.mem_of_getElem? ho1
          simp only [badO, List.mem_cons, List.not_mem_nil, or_false] at z
          rcases z with rfl | rfl | rfl | rfl | rfl | rfl | rfl <;> rfl
        obtain ⟨t, v1, v2, rfl, hT, hv1, hv2⟩ := Rp.tup2 hrp
        cases Rp.str_inv hv1
        cases Rp.int_inv hv2
        have hmany : o.many ≤ 3 := by cases o <;> decide
        walk_at "sx"
        refine w_lcK hw walk_range (fun D i1 H' => ∃ (rs : List Int) (a3 c3 : Int), rs.length = i1 ∧ (∀ n ∈ rs, Worth n) ∧ Bx a3 y c3 ∧ c3 ≤ c2 + 1 + 3 * i1 ∧ W K H0 [] [] H' [(D, .lst (rs.map V.int)), (pb, box a3 y c3)] [.kn p (.lst xb), .rp (.ref p) (.list (badO.map opD)), .kn pf (.lst xf), .rp (.ref pf) (.list (fineO.map opD)), .kn pc (.lst (ms.map V.int))]) ?_ ?_ ?_ ?_
        · intro D H _ hw
          exact ⟨[], _, _, rfl, fun n h => (nomatch h), bx, by omega, hw⟩
        · intros
          trivial
        · rintro D i1 x3 H _ hi1 ⟨rs, a3, c3, hl, hW, bx, hc3, hw⟩ ⟨rfl, rfl⟩
          have hi3 : i1 < o.many := by omega
          walk_at "sx"
          refine x_worth hw 1 rfl bx (by omega) hJ.1 hJ.2 fun r a4 c4 H r0 r1 bx hc4 hw => ?_
          simp only [List.set_cons_zero, List.set_cons_succ] at hw
          walk_at "sx"
          refine ⟨rs ++ [r], a4, c4, by rw [List.length_append, hl]; rfl, fun n h => ?_, bx, by omega, by rw [List.map_append]; exact hw⟩
          rcases List.mem_append.mp h with h | h
          · exact hW n h
          · rw [List.mem_singleton.mp h]; exact ⟨r0, r1⟩
        · rintro D H ⟨rs, a3, c3, hl, hW, bx, hc3, hw⟩
          rw [Int.toNat_natCast] at hl
          have hc6 : c3 ≤ c2 + 10 := by omega
          walk_at "sx"
          refine ⟨o, [], D, rs, _, rfl, ho, hJ.1, hJ.2, (fun _ z => nomatch z), .lst (by rw [del_nil]; exact hw.at 0 rfl) (DdAll.ints _), hl, hW, fun H e => ?_⟩
          replace hw := hw.pure e
          walk_at "sx"
          refine ⟨o, _, rfl, hJ.1, ?_⟩
          rw [ho]
          replace hw := hw.drop1
          walk_at "sx"
          exact ⟨_, _, _, _, _, _, _, _, rfl, bx, by omega, hw⟩
    · rintro σ H ⟨a1, c1, y6, y7, y8, y9, y10, y11, rfl, bx, hc, hw⟩
      replace hw := hw.drop1
      walk_at "sx"
      exact ⟨_, _, _, _, _, _, _, _, rfl, hw⟩
  · rintro σ H ⟨y4, y5, y6, y7, y8, y9, y10, y11, rfl, hw⟩
    walk_at "sx"
    exact q _
end
end Law
namespace Law
open PySem PySem.Spec PyProof.Rows L2 Fw
theorem paired_rev {xs : List V} {us : List Value} (h : Vals xs us) : Vals xs.reverse us.reverse := by
  induction h with
  | nil => exact .nil
  | cons h t ih =>
    rw [List.reverse_cons, List.reverse_cons]
    exact ih.append (.cons h .nil)
def tolds : List (Str × He.Dv) := [("copy", .glo "copied"), ("plus", .glo "summed"), ("less", .glo "lessened"), ("times", .glo "multiplied"), ("over", .glo "often_in"), ("rest", .glo "left_of"), ("least", .glo "least_of"), ("most", .glo "most_of"), ("same", .glo "alike"), ("under", .glo "is_less"), ("pick", .glo "picked")]
def letDv : List He.Dv := [.str "copy", .str "plus", .str "least", .str "most"]
/-! ### the head -/
def mkD (x : Str) (st : Stmt) (kwd : List (Str × He.Dv)) : He.DefD := ⟨(x, none), x, x, defArgs st, defBody st, defScope st, [], kwd⟩
def fn : List He.DefD := [mkD "copied" scopied [],
  mkD "summed" ssummed [],
  mkD "lessened" slessened [],
  mkD "multiplied" smultiplied [],
  mkD "often_in" soften_in [],
  mkD "left_of" sleft_of [],
  mkD "least_of" sleast_of [],
  mkD "most_of" smost_of [],
  mkD "alike" salike [],
  mkD "is_less" sis_less [],
  mkD "picked" spicked [],
  mkD "op_let" sop_let [("cap", .int 0)],
  mkD "reckoned" sreckoned [("cap", .int 0)],
  mkD "_law_dip" s_law_dip [],
  mkD "_law_take" s_law_take [],
  mkD "_law_folded" s_law_folded [],
  mkD "_law_due" s_law_due [],
  mkD "_law_worth" s_law_worth [],
  mkD "_law_let_right" s_law_let_right [],
  mkD "_law_refused" s_law_refused [],
  mkD "law" slaw [],
  ⟨("NotLet", some "__init__"), "__init__", "NotLet.__init__", defArgs (inClass (topS 3) 0), defBody (inClass (topS 3) 0), defScope (inClass (topS 3) 0), [], []⟩]
def fa : List He.Fa := [.glo "copied", .glo "summed", .glo "lessened", .glo "multiplied", .glo "often_in", .glo "left_of", .glo "least_of", .glo "most_of", .glo "alike", .glo "is_less", .glo "picked", .glo "op_let", .glo "reckoned", .glo "_law_dip", .glo "_law_take", .glo "_law_folded", .glo "_law_due", .glo "_law_worth", .glo "_law_let_right", .glo "_law_refused", .glo "law", .glo "TOLD", .glo "LET", .glo "NotLet", .glo "BadGrammar", .glo "BadRow", .glo "NoOp", .free "len", .free "abs", .free "int", .free "list", .free "range", .free "enumerate", .free "sum", .free "min", .free "max", .free "isinstance", .free "bool", .free "all", .free "ValueError", .int "WORTHS" 1000000]
def ts : List He.Tab := [(fun K => He.ga K "TOLD", ["copy", "plus", "less", "times", "over", "rest", "least", "most", "same", "under", "pick"])]
def exB : PySem.W.Frag → Bool := fun K => He.valsB K (He.ga K "TOLD") tolds && Fw.ownB K (He.ga K "NotLet") "ValueError.__new__" veT && decide (PySem.W.findIn K (.ref (He.ga K "NotLet")) "op" = some none) && decide (PySem.W.findIn K (.ref (He.ga K "NotLet")) "under" = some none) && decide (PySem.W.kitAny K (.ref (He.ga K "NotLet")) [.ref (He.ga K "BadGrammar"), .ref (He.ga K "BadRow"), .ref (He.ga K "NoOp")] = some false) && decide (PySem.W.kitOne K (.ref (He.ga K "NotLet")) (.type "ValueError") = some true) && decide (PySem.W.exmOne K (.ref (He.ga K "NotLet")) (.ref (He.ga K "NotLet")) = some true) && decide (PySem.W.findIn K (.ref (He.ga K "NotLet")) "__init__" = some (some (.ref (He.ma K (He.ga K "NotLet") "__init__")))) && decide (PySem.W.typeIn K (.ref (He.ma K (He.ga K "NotLet") "__init__")) = some (.type "function")) && He.tupB K "LET" letDv
abbrev R0 : PySem.W.OpenRow := PySem.W.OpenLaw.row PySem.Challenge.rw_threereckons_k03_reckoned_under_a_cap
abbrev hk : PySem.W.Hook := He.hookX 4 fa fn ts [] exB
def ob (s : PySem.W.SharedT) : He.AlX := He.obsX 4 fa fn ts [] exB (HandSHeadRun.getT s)
theorem ob_eq (s : PySem.W.SharedT) : ob s = hk.obs s.abs := He.obsX_eq (HandSHeadRun.getT_eq s)
def loose : List Str := (["BadGrammar", "BadRow", "NotLet", "NoOp", "WORTHS", "LET", "copied", "summed", "lessened", "multiplied", "often_in", "left_of", "least_of", "most_of", "alike", "is_less", "picked", "TOLD", "op_let", "reckoned", "_law_dip", "_law_take", "_law_folded", "_law_due", "_law_worth", "_law_let_right", "_law_refused"] : List Str)
theorem run (w : World) : HandSHeadRun.RunEq R0 (PySem.W.view R0.prog [30]) hk ob 4000 loose w :=
  PySem.W.byRow2 "special-get-raises" (P := fun w => HandSHeadRun.RunEq R0 (PySem.W.view R0.prog [30]) hk ob 4000 loose w) (fun w => by intro os; kernel_rfl) (fun w => by intro os; kernel_rfl) w

def opF (K : PySem.W.Frag) : Op → Addr
  | .copy => He.ga K "copied"
  | .plus => He.ga K "summed"
  | .less => He.ga K "lessened"
  | .times => He.ga K "multiplied"
  | .over => He.ga K "often_in"
  | .rest => He.ga K "left_of"
  | .least => He.ga K "least_of"
  | .most => He.ga K "most_of"
  | .same => He.ga K "alike"
  | .under => He.ga K "is_less"
  | .pick => He.ga K "picked"
theorem facts {P : Program} {w : World} {K : PySem.W.Frag} {h : Heap} {mg : Str → Option Value} {f : Addr} (X : K.In h) (G : h.Ns mainGlobals mg) (hfa : mg ("law" : Str) = some (.ref f)) (c : He.SaysX fa fn ts [] exB w h K) :
    ∃ fd : FuncData, (∀ (s : Shared) (v : Value), BindsTo s fd ⟨[v], []⟩ [("_law_script", v)]) ∧ ∀ base : Heap, K.In base → base.Ns mainGlobals mg → FnOk P w K mg base CX0 5 f fd ["_law_script"] (spLaw K) := by
  obtain ⟨fdcopied, Fcopied⟩ := c.t.d.def_ 0 (d := mkD "copied" scopied []) rfl
  replace Fcopied : FunD K "copied" "copied" (defArgs scopied) (defBody scopied) (defScope scopied) [] [] (He.ga K "copied") fdcopied := Fcopied
  have gcopied := He.glo_ok X G (c.t.d.fact 0 (f := .glo "copied") rfl)
  obtain ⟨fdsummed, Fsummed⟩ := c.t.d.def_ 1 (d := mkD "summed" ssummed []) rfl
  replace Fsummed : FunD K "summed" "summed" (defArgs ssummed) (defBody ssummed) (defScope ssummed) [] [] (He.ga K "summed") fdsummed := Fsummed
  have gsummed := He.glo_ok X G (c.t.d.fact 1 (f := .glo "summed") rfl)
  obtain ⟨fdlessened, Flessened⟩ := c.t.d.def_ 2 (d := mkD "lessened" slessened []) rfl
  replace Flessened : FunD K "lessened" "lessened" (defArgs slessened) (defBody slessened) (defScope slessened) [] [] (He.ga K "lessened") fdlessened := Flessened
  have glessened := He.glo_ok X G (c.t.d.fact 2 (f := .glo "lessened") rfl)
  obtain ⟨fdmultiplied, Fmultiplied⟩ := c.t.d.def_ 3 (d := mkD "multiplied" smultiplied []) rfl
  replace Fmultiplied : FunD K "multiplied" "multiplied" (defArgs smultiplied) (defBody smultiplied) (defScope smultiplied) [] [] (He.ga K "multiplied") fdmultiplied := Fmultiplied
  have gmultiplied := He.glo_ok X G (c.t.d.fact 3 (f := .glo "multiplied") rfl)
  obtain ⟨fdoften_in, Foften_in⟩ := c.t.d.def_ 4 (d := mkD "often_in" soften_in []) rfl
  replace Foften_in : FunD K "often_in" "often_in" (defArgs soften_in) (defBody soften_in) (defScope soften_in) [] [] (He.ga K "often_in") fdoften_in := Foften_in
  have goften_in := He.glo_ok X G (c.t.d.fact 4 (f := .glo "often_in") rfl)
  obtain ⟨fdleft_of, Fleft_of⟩ := c.t.d.def_ 5 (d := mkD "left_of" sleft_of []) rfl
  replace Fleft_of : FunD K "left_of" "left_of" (defArgs sleft_of) (defBody sleft_of) (defScope sleft_of) [] [] (He.ga K "left_of") fdleft_of := Fleft_of
  have gleft_of := He.glo_ok X G (c.t.d.fact 5 (f := .glo "left_of") rfl)
  obtain ⟨fdleast_of, Fleast_of⟩ := c.t.d.def_ 6 (d := mkD "least_of" sleast_of []) rfl
  replace Fleast_of : FunD K "least_of" "least_of" (defArgs sleast_of) (defBody sleast_of) (defScope sleast_of) [] [] (He.ga K "least_of") fdleast_of := Fleast_of
  have gleast_of := He.glo_ok X G (c.t.d.fact 6 (f := .glo "least_of") rfl)
  obtain ⟨fdmost_of, Fmost_of⟩ := c.t.d.def_ 7 (d := mkD "most_of" smost_of []) rfl
  replace Fmost_of : FunD K "most_of" "most_of" (defArgs smost_of) (defBody smost_of) (defScope smost_of) [] [] (He.ga K "most_of") fdmost_of := Fmost_of
  have gmost_of := He.glo_ok X G (c.t.d.fact 7 (f := .glo "most_of") rfl)
  obtain ⟨fdalike, Falike⟩ := c.t.d.def_ 8 (d := mkD "alike" salike []) rfl
  replace Falike : FunD K "alike" "alike" (defArgs salike) (defBody salike) (defScope salike) [] [] (He.ga K "alike") fdalike := Falike
  have galike := He.glo_ok X G (c.t.d.fact 8 (f := .glo "alike") rfl)
  obtain ⟨fdis_less, Fis_less⟩ := c.t.d.def_ 9 (d := mkD "is_less" sis_less []) rfl
  replace Fis_less : FunD K "is_less" "is_less" (defArgs sis_less) (defBody sis_less) (defScope sis_less) [] [] (He.ga K "is_less") fdis_less := Fis_less
  have gis_less := He.glo_ok X G (c.t.d.fact 9 (f := .glo "is_less") rfl)
  obtain ⟨fdpicked, Fpicked⟩ := c.t.d.def_ 10 (d := mkD "picked" spicked []) rfl
  replace Fpicked : FunD K "picked" "picked" (defArgs spicked) (defBody spicked) (defScope spicked) [] [] (He.ga K "picked") fdpicked := Fpicked
  have gpicked := He.glo_ok X G (c.t.d.fact 10 (f := .glo "picked") rfl)
  obtain ⟨fdop_let, Fop_let⟩ := c.t.d.def_ 11 (d := mkD "op_let" sop_let [("cap", .int 0)]) rfl
  replace Fop_let : FunD K "op_let" "op_let" (defArgs sop_let) (defBody sop_let) (defScope sop_let) [] [("cap", V.int 0)] (He.ga K "op_let") fdop_let := Fop_let
  have gop_let := He.glo_ok X G (c.t.d.fact 11 (f := .glo "op_let") rfl)
  obtain ⟨fdreckoned, Freckoned⟩ := c.t.d.def_ 12 (d := mkD "reckoned" sreckoned [("cap", .int 0)]) rfl
  replace Freckoned : FunD K "reckoned" "reckoned" (defArgs sreckoned) (defBody sreckoned) (defScope sreckoned) [] [("cap", V.int 0)] (He.ga K "reckoned") fdreckoned := Freckoned
  have greckoned := He.glo_ok X G (c.t.d.fact 12 (f := .glo "reckoned") rfl)
  obtain ⟨fd_law_dip, F_law_dip⟩ := c.t.d.def_ 13 (d := mkD "_law_dip" s_law_dip []) rfl
  replace F_law_dip : FunD K "_law_dip" "_law_dip" (defArgs s_law_dip) (defBody s_law_dip) (defScope s_law_dip) [] [] (He.ga K "_law_dip") fd_law_dip := F_law_dip
  have g_law_dip := He.glo_ok X G (c.t.d.fact 13 (f := .glo "_law_dip") rfl)
  obtain ⟨fd_law_take, F_law_take⟩ := c.t.d.def_ 14 (d := mkD "_law_take" s_law_take []) rfl
  replace F_law_take : FunD K "_law_take" "_law_take" (defArgs s_law_take) (defBody s_law_take) (defScope s_law_take) [] [] (He.ga K "_law_take") fd_law_take := F_law_take
  have g_law_take := He.glo_ok X G (c.t.d.fact 14 (f := .glo "_law_take") rfl)
  obtain ⟨fd_law_folded, F_law_folded⟩ := c.t.d.def_ 15 (d := mkD "_law_folded" s_law_folded []) rfl
  replace F_law_folded : FunD K "_law_folded" "_law_folded" (defArgs s_law_folded) (defBody s_law_folded) (defScope s_law_folded) [] [] (He.ga K "_law_folded") fd_law_folded := F_law_folded
  have g_law_folded := He.glo_ok X G (c.t.d.fact 15 (f := .glo "_law_folded") rfl)
  obtain ⟨fd_law_due, F_law_due⟩ := c.t.d.def_ 16 (d := mkD "_law_due" s_law_due []) rfl
  replace F_law_due : FunD K "_law_due" "_law_due" (defArgs s_law_due) (defBody s_law_due) (defScope s_law_due) [] [] (He.ga K "_law_due") fd_law_due := F_law_due
  have g_law_due := He.glo_ok X G (c.t.d.fact 16 (f := .glo "_law_due") rfl)
  obtain ⟨fd_law_worth, F_law_worth⟩ := c.t.d.def_ 17 (d := mkD "_law_worth" s_law_worth []) rfl
  replace F_law_worth : FunD K "_law_worth" "_law_worth" (defArgs s_law_worth) (defBody s_law_worth) (defScope s_law_worth) [] [] (He.ga K "_law_worth") fd_law_worth := F_law_worth
  have g_law_worth := He.glo_ok X G (c.t.d.fact 17 (f := .glo "_law_worth") rfl)
  obtain ⟨fd_law_let_right, F_law_let_right⟩ := c.t.d.def_ 18 (d := mkD "_law_let_right" s_law_let_right []) rfl
  replace F_law_let_right : FunD K "_law_let_right" "_law_let_right" (defArgs s_law_let_right) (defBody s_law_let_right) (defScope s_law_let_right) [] [] (He.ga K "_law_let_right") fd_law_let_right := F_law_let_right
  have g_law_let_right := He.glo_ok X G (c.t.d.fact 18 (f := .glo "_law_let_right") rfl)
  obtain ⟨fd_law_refused, F_law_refused⟩ := c.t.d.def_ 19 (d := mkD "_law_refused" s_law_refused []) rfl
  replace F_law_refused : FunD K "_law_refused" "_law_refused" (defArgs s_law_refused) (defBody s_law_refused) (defScope s_law_refused) [] [] (He.ga K "_law_refused") fd_law_refused := F_law_refused
  have g_law_refused := He.glo_ok X G (c.t.d.fact 19 (f := .glo "_law_refused") rfl)
  obtain ⟨fdlaw, Flaw⟩ := c.t.d.def_ 20 (d := mkD "law" slaw []) rfl
  replace Flaw : FunD K "law" "law" (defArgs slaw) (defBody slaw) (defScope slaw) [] [] (He.ga K "law") fdlaw := Flaw
  have glaw := He.glo_ok X G (c.t.d.fact 20 (f := .glo "law") rfl)
  have gTOLD := He.glo_ok X G (c.t.d.fact 21 (f := .glo "TOLD") rfl)
  have gLET := He.glo_ok X G (c.t.d.fact 22 (f := .glo "LET") rfl)
  have gNotLet := He.glo_ok X G (c.t.d.fact 23 (f := .glo "NotLet") rfl)
  have gBadGrammar := He.glo_ok X G (c.t.d.fact 24 (f := .glo "BadGrammar") rfl)
  have gBadRow := He.glo_ok X G (c.t.d.fact 25 (f := .glo "BadRow") rfl)
  have gNoOp := He.glo_ok X G (c.t.d.fact 26 (f := .glo "NoOp") rfl)
  have mlen := He.free_ok X G (c.t.d.fact 27 (f := .free "len") rfl)
  have mabs := He.free_ok X G (c.t.d.fact 28 (f := .free "abs") rfl)
  have mint := He.free_ok X G (c.t.d.fact 29 (f := .free "int") rfl)
  have mlist := He.free_ok X G (c.t.d.fact 30 (f := .free "list") rfl)
  have mrange := He.free_ok X G (c.t.d.fact 31 (f := .free "range") rfl)
  have menumerate := He.free_ok X G (c.t.d.fact 32 (f := .free "enumerate") rfl)
  have msum := He.free_ok X G (c.t.d.fact 33 (f := .free "sum") rfl)
  have mmin := He.free_ok X G (c.t.d.fact 34 (f := .free "min") rfl)
  have mmax := He.free_ok X G (c.t.d.fact 35 (f := .free "max") rfl)
  have misinstance := He.free_ok X G (c.t.d.fact 36 (f := .free "isinstance") rfl)
  have mbool := He.free_ok X G (c.t.d.fact 37 (f := .free "bool") rfl)
  have mall := He.free_ok X G (c.t.d.fact 38 (f := .free "all") rfl)
  have mValueError := He.free_ok X G (c.t.d.fact 39 (f := .free "ValueError") rfl)
  have iWORTHS := He.int_ok X G (c.t.d.fact 40 (f := .int "WORTHS" 1000000) rfl)
  have hmore := c.more
  unfold exB at hmore
  simp only [Bool.and_eq_true, decide_eq_true_eq] at hmore
  obtain ⟨⟨⟨⟨⟨⟨⟨⟨⟨hVals, hOwn⟩, hn1⟩, hn2⟩, hk1⟩, hk2⟩, hk3⟩, hi1⟩, hi2⟩, hLet⟩ := hmore
  obtain ⟨fdI, FI⟩ := c.t.d.def_ 21 (d := ⟨("NotLet", some "__init__"), "__init__", "NotLet.__init__", defArgs sNotLet_init, defBody sNotLet_init, defScope sNotLet_init, [], []⟩) rfl
  replace FI : FunD K "__init__" "NotLet.__init__" (defArgs sNotLet_init) (defBody sNotLet_init) (defScope sNotLet_init) [] [] (He.ma K (He.ga K "NotLet") "__init__") fdI := FI
  have TN := own_of hOwn
  cases hfa.symm.trans glaw
  have b := FunD.bindsA (ps := ["_law_script"]) Flaw fun _ _ _ _ _ _ us hl => match us, hl with | [_], _ => rfl
  have B : Blt3 mg := { len := mlen, abs := mabs, int' := mint, list := mlist, range := mrange, enumerate := menumerate, sum := msum, min := mmin, max := mmax, isinstance := misinstance, bool := mbool, all := mall, ValueError := mValueError }
  have C : Con mg := ⟨iWORTHS⟩
  have hT : ∀ o : Op, KDct K w (He.ga K "TOLD") o.name (.ref (opF K o)) := fun o => by
    obtain ⟨es, n, kd⟩ := c.t.tab 0 rfl
    have hv : ∃ q : Str × He.Dv, q ∈ tolds ∧ q.1 = o.name ∧ q.2.v K = .ref (opF K o) := by
      cases o
      · exact ⟨("copy", .glo "copied"), by simp [tolds], rfl, rfl⟩
      · exact ⟨("plus", .glo "summed"), by simp [tolds], rfl, rfl⟩
      · exact ⟨("less", .glo "lessened"), by simp [tolds], rfl, rfl⟩
      · exact ⟨("times", .glo "multiplied"), by simp [tolds], rfl, rfl⟩
      · exact ⟨("over", .glo "often_in"), by simp [tolds], rfl, rfl⟩
      · exact ⟨("rest", .glo "left_of"), by simp [tolds], rfl, rfl⟩
      · exact ⟨("least", .glo "least_of"), by simp [tolds], rfl, rfl⟩
      · exact ⟨("most", .glo "most_of"), by simp [tolds], rfl, rfl⟩
      · exact ⟨("same", .glo "alike"), by simp [tolds], rfl, rfl⟩
      · exact ⟨("under", .glo "is_less"), by simp [tolds], rfl, rfl⟩
      · exact ⟨("pick", .glo "picked"), by simp [tolds], rfl, rfl⟩
    obtain ⟨q, hq, e1, e2⟩ := hv
    obtain ⟨u, h1, h2⟩ := He.valsB_ok hVals hq
    rw [e1] at h1
    rw [e2] at h2
    exact ⟨es, n, u, kd.at_, kd.lit, h1, h2⟩
  refine ⟨fdlaw, fun s v => b s [v] rfl, fun base _ _ => ?_⟩
  have Gtake : Fn P w K mg base CX0 1 "_law_take" ["_law_box", "_law_many"] spTake := mkFn F_law_take g_law_take (fun _ _ _ _ _ _ us hl => match us, hl with | [_, _], _ => rfl) (ok_take (ofD F_law_take) B.toBlt)
  have Gdip : Fn P w K mg base CX0 1 "_law_dip" ["_law_script", "_law_k"] (spDip K) := mkFn F_law_dip g_law_dip (fun _ _ _ _ _ _ us hl => match us, hl with | [_, _], _ => rfl) (ok_dip (ofD F_law_dip) B.toBlt)
  have Gfolded : Fn P w K mg base CX0 1 "_law_folded" ["_law_script", "_law_size"] (spFolded K) := mkFn F_law_folded g_law_folded (fun _ _ _ _ _ _ us hl => match us, hl with | [_, _], _ => rfl) (ok_folded (ofD F_law_folded) B.toBlt)
  have Gdue : Fn P w K mg base CX0 1 "_law_due" ["_law_word", "_law_some", "_law_top"] (spDue K) := mkFn F_law_due g_law_due (fun _ _ _ _ _ _ us hl => match us, hl with | [_, _, _], _ => rfl) (ok_due (ofD F_law_due) B.toBlt2)
  have Gworth : Fn P w K mg base CX0 2 "_law_worth" ["_law_box", "_law_top"] spWorth := mkFn F_law_worth g_law_worth (fun _ _ _ _ _ _ us hl => match us, hl with | [_, _], _ => rfl) (ok_worth (ofD F_law_worth) Gtake)
  have Glet : FnN P w K mg base CX0 1 "op_let" 1 ["cap"] (fun vs zs => vs ++ zs) spLet :=
    ⟨_, _, ["op", "cap"], _, gop_let, Fop_let.kp, kbn_all Fop_let 1 ["cap"] (fun us ws => us ++ ws) (fun r1 r2 => r1.append r2) (fun _ _ _ _ _ _ us ws h1 h2 => match us, ws, h1, h2 with | [_], [_], _, _ => rfl), ok_let Fop_let ⟨_, gLET, fun H => He.tupB_ok hLet H⟩⟩
  have hF : ∀ o, ∃ fd, FnOk P w K mg base CX0 1 (opF K o) fd ["numbers"] (spOp K o) ∧ PySem.W.keepIn K (.ref (opF K o)) = true ∧ Binds K fd ["numbers"] [] := fun o => by
    cases o
    · exact ⟨_, ok_copied (ofD Fcopied), Fcopied.kp, Fcopied.bindsN (fun _ _ _ _ _ _ us hl => match us, hl with | [_], _ => rfl)⟩
    · exact ⟨_, ok_summed (ofD Fsummed) B.toBlt2 C, Fsummed.kp, Fsummed.bindsN (fun _ _ _ _ _ _ us hl => match us, hl with | [_], _ => rfl)⟩
    · exact ⟨_, ok_lessened (ofD Flessened) B.toBlt2 C, Flessened.kp, Flessened.bindsN (fun _ _ _ _ _ _ us hl => match us, hl with | [_], _ => rfl)⟩
    · exact ⟨_, ok_multiplied (ofD Fmultiplied) C, Fmultiplied.kp, Fmultiplied.bindsN (fun _ _ _ _ _ _ us hl => match us, hl with | [_], _ => rfl)⟩
    · exact ⟨_, ok_often_in (ofD Foften_in), Foften_in.kp, Foften_in.bindsN (fun _ _ _ _ _ _ us hl => match us, hl with | [_], _ => rfl)⟩
    · exact ⟨_, ok_left_of (ofD Fleft_of), Fleft_of.kp, Fleft_of.bindsN (fun _ _ _ _ _ _ us hl => match us, hl with | [_], _ => rfl)⟩
    · exact ⟨_, ok_least_of (ofD Fleast_of) B.toBlt2, Fleast_of.kp, Fleast_of.bindsN (fun _ _ _ _ _ _ us hl => match us, hl with | [_], _ => rfl)⟩
    · exact ⟨_, ok_most_of (ofD Fmost_of) B.toBlt2, Fmost_of.kp, Fmost_of.bindsN (fun _ _ _ _ _ _ us hl => match us, hl with | [_], _ => rfl)⟩
    · exact ⟨_, ok_alike (ofD Falike) B.toBlt2, Falike.kp, Falike.bindsN (fun _ _ _ _ _ _ us hl => match us, hl with | [_], _ => rfl)⟩
    · exact ⟨_, ok_is_less (ofD Fis_less) B.toBlt2, Fis_less.kp, Fis_less.bindsN (fun _ _ _ _ _ _ us hl => match us, hl with | [_], _ => rfl)⟩
    · exact ⟨_, ok_picked (ofD Fpicked), Fpicked.kp, Fpicked.bindsN (fun _ _ _ _ _ _ us hl => match us, hl with | [_], _ => rfl)⟩
  have okI : FnOk P w K mg base CX0 1 (He.ma K (He.ga K "NotLet") "__init__") fdI ["self", "op", "under"] (spInit2 (He.ga K "NotLet") "op" "under") := ok_NotLet (ofD FI) mValueError TN hn1 hn2
  have okR : FnOk P w K mg base (L2.CX P w) 3 (He.ga K "reckoned") fdreckoned ["op", "numbers", "cap"] (spReckoned K (He.ga K "NotLet")) :=
    ok_reckoned Freckoned Glet B.toBlt2 TN hi1 hi2 okI (FI.bindsN (fun _ _ _ _ _ _ us hl => match us, hl with | [_, _, _], _ => rfl)) gNotLet ⟨C, _, gTOLD, hT⟩ hF
  have R2k : FnN P w K mg base (L2.CX P w) 3 "reckoned" 2 ["cap"] (fun vs zs => vs ++ zs) (spReckoned K (He.ga K "NotLet")) :=
    ⟨_, _, ["op", "numbers", "cap"], _, greckoned, Freckoned.kp, kbn_all Freckoned 2 ["cap"] (fun us ws => us ++ ws) (fun r1 r2 => r1.append r2) (fun _ _ _ _ _ _ us ws h1 h2 => match us, ws, h1, h2 with | [_, _], [_], _, _ => rfl), okR⟩
  have R0k : FnN P w K mg base (L2.CX P w) 3 "reckoned" 0 ["cap", "numbers", "op"] (fun _ zs => zs.reverse) (spReckoned K (He.ga K "NotLet")) :=
    ⟨_, _, ["op", "numbers", "cap"], _, greckoned, Freckoned.kp, kbn_all Freckoned 0 ["cap", "numbers", "op"] (fun _ ws => ws.reverse) (fun _ r2 => paired_rev r2) (fun _ _ _ _ _ _ us ws h1 h2 => match us, ws, h1, h2 with | [], [_, _, _], _, _ => rfl), okR⟩
  have Glr : Fn P w K mg base CX0 4 "_law_let_right" ["_law_box", "_law_word", "_law_many", "_law_top"] spLR := mkFn F_law_let_right g_law_let_right (fun _ _ _ _ _ _ us hl => match us, hl with | [_, _, _, _], _ => rfl) (ok_lr (ofD F_law_let_right) B R2k R0k Gtake Gworth Gdue)
  have Gref : Fn P w K mg base CX0 4 "_law_refused" ["_law_word", "_law_some", "_law_top"] (spRefused K) := mkFn F_law_refused g_law_refused (fun _ _ _ _ _ _ us hl => match us, hl with | [_, _, _], _ => rfl) (ok_refused (ofD F_law_refused) B R2k gNotLet gBadGrammar gBadRow gNoOp TN hn1 hn2 hk1 hk2 hk3)
  exact ok_law (ofD Flaw) B Gfolded Gdip Gtake Gworth Glr Gref Glet
end Law
open PySem PySem.W PySem.Calls PyProof.Rows
set_option maxRecDepth 100000 in
set_option maxHeartbeats 0 in
theorem PySem.Challenge.cw_threereckons_k03_reckoned_under_a_cap_holds : PySem.Challenge.rw_threereckons_k03_reckoned_under_a_cap.Holds := by
  w_on; o_law
  refine HandSHeadRun.head_any (r := OpenLaw.row PySem.Challenge.rw_threereckons_k03_reckoned_under_a_cap) (q := view (OpenLaw.row PySem.Challenge.rw_threereckons_k03_reckoned_under_a_cap).prog [30]) (H := Law.hk) (ob := Law.ob) (M := 4000) (loose := Law.loose) (d := HandSHeadRun.topDef (OpenLaw.row PySem.Challenge.rw_threereckons_k03_reckoned_under_a_cap).prog 30) (kwd := []) Law.ob_eq
    (by kernel_rfl) (fun s => by kernel_rfl) Law.run (by kernel_rfl) (by kernel_rfl) (by kernel_rfl) (by rfl) (by first | assumption | decide +kernel) (by decide +kernel) ⟨rfl, rfl, rfl, rfl, rfl, by decide +kernel⟩ ?hw ?hc
  case hw => w_witness2
  case hc =>
    refine L2.walk_ofE (l := PySem.Challenge.rw_threereckons_k03_reckoned_under_a_cap) (n := 63) (k := 5) (x := "_law_script") (CX := L2.CX0) rfl (by decide) (by kernel_rfl) ⟨rfl, by decide, by decide⟩ ?F (fun _ _ _ _ z => z)
    intro w mg fa h Y G hmg0
    obtain ⟨K, KX, c⟩ := Y
    have hmg : mg ("law" : PySem.Str) = some (.ref fa) := by
      have e : (HandSHeadRun.topDef (OpenLaw.row PySem.Challenge.rw_threereckons_k03_reckoned_under_a_cap).prog 30).name = ("law" : PySem.Str) := by kernel_rfl
      rw [← e]
      exact hmg0
    obtain ⟨fd, hb, hF⟩ := Law.facts (P := (PySem.Challenge.rw_threereckons_k03_reckoned_under_a_cap).prog) (w := w) KX G hmg c
    exact ⟨K, fd, Law.spLaw K, KX, hb, fun H a ns hl _ hS => ⟨a, ns, rfl, hS, hl, fun _ => rfl⟩, hF⟩
